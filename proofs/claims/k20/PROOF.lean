import PyProof.Rows.All
import HandS.TupSets
import KE.KeyNested
import Wide.All
import OpenK.AllK
import Wide.FinOn
import HandS.ForExc
import HandS.Comp
import HandS.Walk
import HandS.Zip
import HandS.Wide
import HandS.Deep
import HandS.IsInst
import HandS.TupMul
import HandS.ExcCtx
import HandS.HotCalls
import HandS.ExcIs
import HandS.HeadHook4
import HandS.HeadWalk
import HandS.Style
import HandS.SortKw
import HandS.More
import HandS.Flow
import HandS.Text
import HandS.Iter
import HandS.Replace
import PyProof.ReprRoads
import KE.DatumOrd
import HandS.Head0
import HandS.Head1
import HandS.Head2
import PySem.Challenge.RW_closewright_k20_whole_covers
set_option Elab.async false
set_option linter.all false
set_option maxRecDepth 100000
set_option maxHeartbeats 4000000
namespace Cw
open PySem PySem.Spec PyProof.Rows L2
/-! ### a set of one tuple of tuples of ints -/
section
variable {P : Program} {w : World} {A : Around} {E : Value → Shared → Prop} {s : Shared}
/-- the tuple at b has tuples of ints -/
def IsP (P : Program) (w : World) (h : Heap) (b : Addr) : Prop := ∃ o items n, h.get? b = some o ∧ o.cls = .type "tuple" ∧ o.data = .seq items n ∧ ∀ v ∈ items.toList, ∃ c k, v = Value.ref c ∧ IsT P w h k c
theorem isP_keep {h h' : Heap} {b : Addr} (x : IsP P w h b) (hk : ∀ c o, h.get? c = some o → h'.get? c = some o) : IsP P w h' b := by
  obtain ⟨o, items, n, ho, hc, hd, r⟩ := x
  refine ⟨o, items, n, hk b o ho, hc, hd, fun v hv => ?_⟩
  obtain ⟨c, k, e, t⟩ := r v hv
  exact ⟨c, k, e, isT_keep t hk⟩
theorem nested_ints {h : Heap} {k : List Int} {vs : List Value} (x : ItemsAre (intKind P w) k vs) : NestedAll h (k.map .num) vs := by
  induction x with
  | nil => exact .nil
  | @cons k0 v ks vs h1 _ ih =>
    obtain ⟨t, rfl⟩ := Value.isInt_shape h1
    exact .cons (.int _ _) ih
theorem nested_t {h : Heap} {k : List Int} {c : Addr} (x : IsT P w h k c) : NestedIs h (.tup (k.map .num)) (.ref c) := by
  obtain ⟨o, items, n, ho, hc, hd, r⟩ := x
  exact .tup ho hc hd (nested_ints r)
theorem nested_p {h : Heap} {b : Addr} (x : IsP P w h b) : ∃ ks : List (List Int), NestedIs h (.tup (ks.map fun k => .tup (k.map .num))) (.ref b) := by
  obtain ⟨o, items, n, ho, hc, hd, r⟩ := x
  have key : ∀ vs : List Value, (∀ v ∈ vs, ∃ c k, v = Value.ref c ∧ IsT P w h k c) → ∃ ks : List (List Int), NestedAll h (ks.map fun k => .tup (k.map .num)) vs := by
    intro vs
    induction vs with
    | nil => intro _; exact ⟨[], .nil⟩
    | cons v vs ih =>
      intro r
      obtain ⟨c, k, rfl, t⟩ := r v List.mem_cons_self
      obtain ⟨ks, hks⟩ := ih fun u hu => r u (List.mem_cons_of_mem _ hu)
      exact ⟨k :: ks, .cons (nested_t t) hks⟩
  obtain ⟨ks, hks⟩ := key items.toList r
  exact ⟨ks, .tup ho hc hd hks⟩
theorem dep_nums : ∀ k : List Int, NestedKey.depthAll (k.map .num) ≤ 1
  | [] => by simp [NestedKey.depthAll]
  | x :: k => by
    have := dep_nums k
    simp only [List.map_cons, NestedKey.depthAll, NestedKey.depth]
    omega
theorem dep_tups : ∀ ks : List (List Int), NestedKey.depthAll (ks.map fun k => .tup (k.map .num)) ≤ 3
  | [] => by simp [NestedKey.depthAll]
  | k :: ks => by
    have := dep_tups ks
    have := dep_nums k
    simp only [List.map_cons, NestedKey.depthAll, NestedKey.depth]
    omega
/-- hashing goes -/
theorem hash_p {b : Addr} {Q : Int → Shared → Prop} (hu : A.units + 8 < cLine) (x : IsP P w s.heap b) (h : ∀ n tk, s.toks ≤ tk → Q n { s with toks := tk }) : wpAny (model P w) A (pyHash (.ref b)) Q E s := by
  obtain ⟨ks, hks⟩ := nested_p x
  have d := dep_tups ks
  exact pyHash_key _ _ A s Q hks (by simp only [NestedKey.depth]; omega) (h _ _ (Nat.le_add_right _ _))
theorem hashBy_t {k : List Int} {b : Addr} {Q : Bool → Shared → Prop} (f : Nat) (hk : IsT P w s.heap k b) (h : Q true s) : wpAny (model P w) A (hashByValue (f + 1) (.ref b)) Q E s := by
  have hT := hk.typeIs
  obtain ⟨o, items, n, ho, _, hd, hi⟩ := hk
  unfold hashByValue
  refine wpAny_bind (wpAny_specialOf hT F.slot_tuple_hash.lookup ?_)
  show wpAny _ _ (seqItems? (.ref b) >>= _) _ _ s
  refine wpAny_bind (wpAny_seqItems ho hd (wpAny_bind ?_))
  show wpAny _ _ (forIn items _ _) _ _ s
  rw [← Array.forIn_toList]
  refine wpAny_forIn_list _ (fun rest r s' => r.1 = none ∧ s' = s ∧ ∀ v ∈ rest, ∃ i t, v = Value.int i t) _ ?_ ?_ _ _ ⟨rfl, rfl, items_int hi⟩
  · rintro v rest r s' ⟨hr, rfl, all⟩
    obtain ⟨i, t, rfl⟩ := all v List.mem_cons_self
    rw [hashBy_int]
    refine wpAny_bind (wpAny_pure ?_)
    simp only [Bool.not_true, Bool.false_eq_true, if_false]
    exact wpAny_pure ⟨rfl, rfl, fun u hu => all u (List.mem_cons_of_mem _ hu)⟩
  · rintro ⟨r1, r2⟩ s' ⟨hr, rfl, _⟩
    simp only at hr
    subst hr
    exact wpAny_pure h
theorem hashBy_p {b : Addr} {Q : Bool → Shared → Prop} (f : Nat) (hk : IsP P w s.heap b) (h : Q true s) : wpAny (model P w) A (hashByValue (f + 2) (.ref b)) Q E s := by
  obtain ⟨o, items, n, ho, hc, hd, hi⟩ := hk
  have hT : s.TypeIs (.ref b) "tuple" := ⟨o, ho, hc⟩
  unfold hashByValue
  refine wpAny_bind (wpAny_specialOf hT F.slot_tuple_hash.lookup ?_)
  show wpAny _ _ (seqItems? (.ref b) >>= _) _ _ s
  refine wpAny_bind (wpAny_seqItems ho hd (wpAny_bind ?_))
  show wpAny _ _ (forIn items _ _) _ _ s
  rw [← Array.forIn_toList]
  refine wpAny_forIn_list _ (fun rest r s' => r.1 = none ∧ s' = s ∧ ∀ v ∈ rest, ∃ c k, v = Value.ref c ∧ IsT P w s.heap k c) _ ?_ ?_ _ _ ⟨rfl, rfl, hi⟩
  · rintro v rest r s' ⟨hr, rfl, all⟩
    obtain ⟨c, k, rfl, ht⟩ := all v List.mem_cons_self
    refine wpAny_bind (hashBy_t f ht ?_)
    simp only [Bool.not_true, Bool.false_eq_true, if_false]
    exact wpAny_pure ⟨rfl, rfl, fun u hu => all u (List.mem_cons_of_mem _ hu)⟩
  · rintro ⟨r1, r2⟩ s' ⟨hr, rfl, _⟩
    simp only at hr
    subst hr
    exact wpAny_pure h
/-- a set that was just made -/
def Fresh (w : World) (h : Heap) (a : Addr) : Prop := h.get? a = some { cls := .type "set", dict := none, data := .set #[] 0 (.fresh 0 0 (!w.params.followText "set-order")) }
/-- a set of one -/
def OneS (h : Heap) (a : Addr) : Prop := ∃ o es ep t, h.get? a = some o ∧ o.ExactSet ∧ o.data = .set es ep t ∧ es.size = 1 ∧ t.fits es.size = true
theorem tab0 (b : Bool) : TabOk (.fresh 0 0 b) [] := ⟨List.Pairwise.nil, rfl, rfl, .inl rfl, fun x hx => (by cases hx), fun i h j hi => (by simp at hi)⟩
theorem add_one {a x : Addr} {n : Int} (h0 : Fresh w s.heap a) (hx : IsP P w s.heap x) {Q : Bool → Shared → Prop} (hQ : ∀ b h', Heap.SameBut a s.heap h' → OneS h' a → Q b { s with heap := h' }) :
    wpAny (model P w) A (setAddHashed a (.ref x) n) Q E s := by
  generalize hb : (!w.params.followText "set-order") = bl at h0
  unfold Fresh at h0
  rw [hb] at h0
  have T := tab0 bl
  have fit : (SetTable.fresh 0 0 bl).fits (#[] : Array (Int × Value)).size = true := by cases bl <;> decide
  have hd : ({ cls := .type "set", dict := none, data := .set #[] 0 (.fresh 0 0 bl) } : Obj).data = .set #[] 0 (.fresh 0 0 bl) := rfl
  have ex : ({ cls := .type "set", dict := none, data := .set #[] 0 (.fresh 0 0 bl) } : Obj).ExactSet := ⟨rfl, rfl, rfl⟩
  generalize ({ cls := .type "set", dict := none, data := .set #[] 0 (.fresh 0 0 bl) } : Obj) = o at h0 hd ex
  have gw : ¬ (SetTable.fresh 0 0 bl).gaveWay = true := by cases bl <;> decide
  have pr := go_spec (.fresh 0 0 bl) T.ris T.dm (fun i => ((#[] : Array (Int × Value))[i]?.map (·.1)).getD 0) n (10 * SetTable.turns (SetTable.fresh 0 0 bl).mask) 0 (runAt (SetTable.fresh 0 0 bl).mask (SetTable.bits n % ((SetTable.fresh 0 0 bl).mask + 1)) (SetTable.bits n)) rfl (by show 0 < 10 * SetTable.turns 7; decide) (fun k hk => absurd hk (Nat.not_lt_zero _)) (by intro z; cases z)
  have pr2 : (SetTable.fresh 0 0 bl).probe (fun i => ((#[] : Array (Int × Value))[i]?.map (·.1)).getD 0) n ((none : Option SetTable.Probe).getD ((SetTable.fresh 0 0 bl).probeStart n)) = some (.empty (way (SetTable.fresh 0 0 bl).mask n 0) none) := by
    rcases pr with ⟨k, _, hk, _⟩ | ⟨_, h⟩
    · exact absurd hk (Nat.not_lt_zero _)
    · exact h
  obtain ⟨q1, q2, q3, q4, q5, q6, q7, q8, q9⟩ := T.put (h := n) (K := 0) (by intro z; cases z) (fun k hk => absurd hk (Nat.not_lt_zero _))
  unfold setAddHashed
  refine wpAny_holding ?_
  rw [show (100000 : Nat) = 99999 + 1 from rfl, setAddHashedIn_succ]
  refine wpAny_bind (wpAny_setState_of h0 hd fit ?_)
  dsimp only
  refine wp_if_neg (by simp [byScan, Value.scannable]) ?_
  try refine wpAny_bind (wpAny_pure ?_)
  have srch : ∀ {R : SetFound → Shared → Prop}, R (.free (way (SetTable.fresh 0 0 bl).mask n 0) false) s → wpAny (model P w) A (setSearch a (.ref x) n true) R E s := fun {R} h => by
    unfold setSearch
    rw [show (100000 : Nat) = 99999 + 1 from rfl, setSearchFrom_succ]
    refine wpAny_bind (wpAny_setState_of h0 hd fit ?_)
    dsimp only
    refine wp_if_neg gw ?_
    try refine wpAny_bind (wpAny_pure ?_)
    exact wpAny_pure h
  refine wpAny_bind (srch ?_)
  dsimp only
  refine wpAny_bind (wpAny_setState_of h0 hd fit ?_)
  dsimp only
  generalize hpt : (SetTable.fresh 0 0 bl).put (way (SetTable.fresh 0 0 bl).mask n 0) = pt at q1 q3 q4 q5 q6 q7 q8 q9 ⊢
  obtain ⟨t1, p⟩ := pt
  dsimp only at q1 q3 q4 q5 q6 q7 q8 q9 ⊢
  have pl : t1.plain = true := q6
  first
    | (refine wpAny_bind ?_; refine wp_if_pos pl ?_; refine hashBy_p 6 hx ?_)
    | refine wp_if_pos pl (wpAny_bind (hashBy_p 6 hx ?_))
  simp only [if_true]
  have es1 : (SetTable.insertAt (#[] : Array (Int × Value)) p (n, Value.ref x)).size = 1 := by
    have h := congrArg List.length (SetTable.toList_insertAt (xs := (#[] : Array (Int × Value))) (p := p) (x := (n, Value.ref x)))
    rw [Array.length_toList] at h
    rw [h]
    simp
  generalize SetTable.insertAt (#[] : Array (Int × Value)) p (n, Value.ref x) = es1' at es1 ⊢
  have sz1 : t1.place.size = 1 := by
    have h := q3.sz
    rw [h]
    simp
  have fit1 : t1.fits es1'.size = true := by
    unfold SetTable.fits SetTable.fill
    rw [q3.dm, Bool.and_eq_true, beq_iff_eq, decide_eq_true_eq, es1, sz1, q4]
    exact ⟨rfl, by show 1 + 0 ≤ 7; decide⟩
  refine wpAny_bind (wpAny_storeSet_of h0 hd ?_ (by rw [es1, sizeLine_eq]; omega))
  have sb : Heap.SameBut a s.heap (s.heap.update a (Obj.putSet es1' t1)) := Heap.SameBut.update ..
  have ho1 := store_at (es' := es1') (t' := t1) h0 hd
  generalize s.heap.update a (Obj.putSet es1' t1) = h1 at sb ho1 ⊢
  have hf : ¬ t1.tooFull = true := by
    unfold SetTable.tooFull
    rw [decide_eq_true_eq, q9, q4]
    show ¬ (0 + 1) * 5 ≥ 7 * 3
    decide
  first
    | refine wp_if_neg (by simp [hf]) ?_
    | (refine wpAny_bind ?_; refine wp_if_neg (by simp [hf]) ?_; refine wpAny_pure ?_)
  exact wpAny_pure (hQ true h1 sb ⟨_, es1', _, t1, ho1, ⟨ex.1, ex.2.1, ex.2.2⟩, rfl, es1, fit1⟩)
theorem oneS_keep {h h' : Heap} {a : Addr} (x : OneS h a) (hk : ∀ o, h.get? a = some o → h'.get? a = some o) : OneS h' a := by
  obtain ⟨o, es, ep, t, ho, r⟩ := x
  exact ⟨o, es, ep, t, hk o ho, r⟩
/-- the turn of set.update: one thing, then nothing -/
theorem upd_one {I : Addr} {fp wr : List Addr} {G : Array GenState → Array GenState → Prop} {Pv : Nat → Value → Prop} {St : Nat → Shared → Prop} {R : Result → Shared → Prop}
    (W : WalksS P w A.in1 I fp wr G 1 Pv St) {S x : Addr} (hSf : S ∉ fp) (hval : ∀ v, Pv 0 v → v = .ref x) {h0 : Heap} (hx : IsP P w h0 x) (hS0 : h0.get? S = none) (hw0 : ∀ b ∈ wr, h0.get? b = none)
    (hu : A.in1.units + 8 < cLine) {s : Shared} (st : St 0 s) (hkp : ∀ b o, h0.get? b = some o → s.heap.get? b = some o) (hf : Fresh w s.heap S)
    (hR : ∀ s', Moved (S :: wr) G s s' → OneS s'.heap S → (∀ b o, h0.get? b = some o → s'.heap.get? b = some o) → R (.ok (.ret .none)) s') :
    codeAny (model P w) A (.builtin "set.update.loop" ⟨[.ref S, .ref I], []⟩) R s := by
  have hSw : S ∉ wr := fun h => hSf (W.sub _ h)
  have sub : ∀ b ∈ wr, b ∈ S :: wr := fun b hb => List.mem_cons_of_mem _ hb
  have keep : ∀ {s1 s2 : Shared}, Moved wr G s1 s2 → (∀ b o, h0.get? b = some o → s1.heap.get? b = some o) → ∀ b o, h0.get? b = some o → s2.heap.get? b = some o := fun hm hk b o e =>
    hm.heap b o (fun hb => by rw [hw0 b hb] at e; cases e) (hk b o e)
  refine codeAny_builtin F.entry_set_update_loop ?_
  rw [Around.under_plainId F.plain_set_update_loop _]
  show wpAny _ A.in1 (pyNext (.ref I) >>= _) _ _ s
  refine wpAny_bind (W.item 0 s _ _ (Nat.zero_lt_succ 0) st fun v s1 hP st1 hm => ?_)
  have ev := hval v hP
  subst ev
  have k1 := keep hm hkp
  have f1 : Fresh w s1.heap S := hm.heap S _ hSw hf
  have x1 := isP_keep hx k1
  show wpAny _ A.in1 (holding [Value.ref x] (setAdd S (.ref x)) >>= _) _ _ s1
  refine wpAny_bind (wpAny_holding ?_)
  unfold setAdd
  refine wpAny_holding ?_
  refine wpAny_bind (hash_p hu x1 fun n tk ht => ?_)
  refine add_one (s := { s1 with toks := tk }) f1 x1 fun b h2 sb o2 => ?_
  have k2 : ∀ b o, h0.get? b = some o → h2.get? b = some o := fun b o e => (sb.2 b (fun z => by rw [z, hS0] at e; cases e)).trans (k1 b o e)
  refine wpAny_pure ⟨plainId_quiet F.plain_set_update_loop _, ?_⟩
  refine codeAny_builtin F.entry_set_update_loop ?_
  rw [Around.under_plainId F.plain_set_update_loop _]
  show wpAny _ A.in1 (pyNext (.ref I) >>= _) _ _ _
  have st2 : St 1 { heap := h2, gens := s1.gens, drawn := s1.drawn, toks := tk, os := s1.os } := W.frame 1 s1 h2 tk st1 ht fun b hb o e => (sb.2 b (fun z : b = S => hSf (by rw [← z]; exact hb))).trans e
  refine wpAny_bind (W.done _ _ _ st2 fun s3 hm3 => ?_)
  show wpAny _ A.in1 (ret Value.none) _ _ s3
  refine wpAny_pure (hR s3 (Moved.trans W.gtrans ((hm.mono sub).then_heap ht fun b o hb e => ?_) (hm3.mono sub)) (oneS_keep o2 fun o e => hm3.heap S o hSw e) (keep hm3 k2))
  exact (sb.2 b (fun z : b = S => hb (by rw [z]; exact List.mem_cons_self))).trans e
set_option maxHeartbeats 3200000 in
/-- set(xs), xs a list of one tuple of tuples of ints -/
theorem call_set_one {l x : Addr} {items : Array Value} {Q : Value → Shared → Prop} (hh : A.handled = none) (hl : s.heap.IsList l items) (hit : items.toList = [.ref x]) (hx : IsP P w s.heap x) (hu : A.units + 16 < cLine)
    (h : ∀ (h' : Heap) (tk : Nat), OneS h' s.heap.objs.size → (∀ b o, s.heap.get? b = some o → h'.get? b = some o) → Q (.ref s.heap.objs.size) { s with heap := h', toks := tk }) :
    wpAny (model P w) A (call (.type "set") [.ref l]) Q E s := by
  have hisz : items.size = 1 := by
    have q := congrArg List.length hit
    rw [Array.length_toList] at q
    exact q
  have none_of : ∀ b, s.heap.objs.size ≤ b → s.heap.get? b = none := fun b hb => by
    cases q : s.heap.get? b with
    | none => rfl
    | some o => exact absurd (Nat.lt_of_lt_of_le (Heap.lt_size q) hb) (Nat.lt_irrefl _)
  obtain ⟨c, tl, hmro⟩ := F.called_set.mro
  have hmade := F.called_set.made
  have hsub := F.called_set.sub
  refine wpAny_call (codeAny_of_tree ?_)
  show wpAny _ _ (callAny (.type "set") _) _ _ _
  refine wpAny_pure ⟨Code.quiet_builtin _ (by decide +kernel), codeAny_builtin F.entry_type_call ?_⟩
  rw [Around.under_plain (weight_type_call_type "set" [.ref l] []) rfl]
  have h1 := F.called_set.notType
  have h2 := F.called_set.canCreate
  have hct := F.typeCall_set_1 (.ref l)
  repeat (any_goals (first | assumption | wp_step))
  refine codeAny_mono (code_set_led1 (.ref l) (E := E) (Q₁ := fun obj s₁ => obj = .ref s.heap.objs.size ∧ s₁ = { s with heap := s.heap.push { cls := .type "set", dict := none, data := .set #[] 0 (.fresh 0 0 (!w.params.followText "set-order")) } }) ⟨rfl, rfl⟩) fun r s₁ hr => ?_
  cases r with
  | error e => exact hr
  | ok fl =>
    cases fl with
    | ret obj =>
      obtain ⟨rfl, rfl⟩ := hr
      have hS : Fresh w (s.heap.push { cls := .type "set", dict := none, data := .set #[] 0 (.fresh 0 0 (!w.params.followText "set-order")) }) s.heap.objs.size := Heap.get?_push_size _ rfl
      have hT : Shared.TypeIs { s with heap := s.heap.push { cls := .type "set", dict := none, data := .set #[] 0 (.fresh 0 0 (!w.params.followText "set-order")) } } (.ref s.heap.objs.size) "set" := ⟨_, hS, rfl⟩
      have hli := F.called_set.init.lookup
      have hbi := F.called_set.init.bind (.ref s.heap.objs.size)
      repeat (any_goals (first | assumption | wp_step))
      refine codeAny_mono (codeAny_call_builtin (R := wants (fun r s₂ => r = .none ∧ ∃ h' tk, s₂ = { s with heap := h', toks := tk } ∧ OneS h' s.heap.objs.size ∧
          (∀ b o, s.heap.get? b = some o → h'.get? b = some o)) E) F.called_set.init.plain F.entry_set_init (check_set_init_1 hT ?_)) fun r₂ s₂ hr₂ => ?_
      · obtain ⟨ol, hol, hcl, nl, hdl⟩ := hl
        obtain ⟨ocls, odict, odata, oslots⟩ := ol
        simp only at hcl hdl
        subst hcl hdl
        have hl1 : (s.heap.push { cls := .type "set", dict := none, data := .set #[] 0 (.fresh 0 0 (!w.params.followText "set-order")) }).IsList l items := ⟨_, Heap.get?_push_of_some _ hol, rfl, nl, rfl⟩
        have hol' := Heap.get?_push_of_some { cls := .type "set", dict := none, data := .set #[] 0 (.fresh 0 0 (!w.params.followText "set-order")) } hol
        have hsls := F.sub_list_set
        have hslf := F.sub_list_frozenset
        have hne : (Value.type "list" == Value.type "dict") = false := by decide
        unfold Builtin.«set.__init__» noKeywords Builtin.Frozenset.updateFrom
        generalize hPI : pyIter = PI
        wp_walk
        subst hPI
        refine wpAny_pyIter_list hl1 ?_
        refine wpAny_bind (wpAny_runValue ?_)
        have hlS : l < s.heap.objs.size := Heap.lt_size hol
        have hz1 : (s.heap.push { cls := .type "set", dict := none, data := .set #[] 0 (.fresh 0 0 (!w.params.followText "set-order")) }).objs.size = s.heap.objs.size + 1 := Heap.size_push ..
        have hneI : l ≠ (s.heap.push { cls := .type "set", dict := none, data := .set #[] 0 (.fresh 0 0 (!w.params.followText "set-order")) }).objs.size := by rw [hz1]; exact Nat.ne_of_lt (Nat.lt_succ_of_lt hlS)
        have hh3 : A.in1.in1.in1.handled = none := by simp [hh]
        have W := (Walks.list (prog := P) (w := w) hh3 _ l hneI items).toS
        rw [hisz] at W
        refine upd_one (x := x) W (S := s.heap.objs.size) ?_ ?_ hx (none_of _ (Nat.le_refl _)) (fun b hb => none_of b (by
            rw [List.mem_singleton.mp hb, hz1]
            exact Nat.le_succ _)) (by show _ < _; have : A.in1.in1.in1.units = A.units + 3 := by simp [Nat.add_assoc]
                                      omega) ⟨⟨_, Heap.get?_push_size _ rfl, rfl, rfl⟩, hl1.push _⟩ (fun b o e => Heap.get?_push_of_some _ (Heap.get?_push_of_some _ e)) (Heap.get?_push_of_some _ hS) ?_
        · simp only [List.mem_cons, List.not_mem_nil, or_false, not_or]
          exact ⟨by rw [hz1]; exact Nat.ne_of_lt (Nat.lt_succ_self _), Nat.ne_of_gt hlS⟩
        · intro v hv
          have q : items.toList[0]? = some v := by rw [Array.getElem?_toList]; exact hv
          rw [hit] at q
          exact (Option.some.inj q).symm
        · intro s' hm o1 hkp
          obtain ⟨h', g2, d', tk', os'⟩ := s'
          have eg : g2 = s.gens := hm.gens
          have ed : d' = s.drawn := hm.drawn
          have eo : os' = s.os := hm.os
          subst eg ed eo
          show wpAny _ _ _ _ _ _
          refine wpAny_pure ?_
          show wpAny _ _ (ret Value.none) _ _ _
          exact wpAny_pure ⟨rfl, h', tk', rfl, o1, hkp⟩
      · cases r₂ with
        | error e => exact hr₂
        | ok fl₂ =>
          cases fl₂ with
          | ret r =>
            obtain ⟨rfl, h', tk, rfl, o1, k1⟩ := hr₂
            repeat (any_goals (first | assumption | wp_step))
            exact h _ _ o1 k1
          | _ => exact hr₂.elim
    | _ => exact hr.elim
end
end Cw

set_option Elab.async false
set_option linter.all false
set_option maxRecDepth 100000
set_option maxHeartbeats 4000000
/-! A small tongue of pure terms over data, and its own reckoning; the machine's rules are tied to it once, in the parts that follow. -/
namespace Cw
open PySem

abbrev D := PyData

inductive R (A : Type) where
  | ok (a : A)
  | exc (c : Str)
  | bad

def R.bind {A B : Type} : R A → (A → R B) → R B
  | .ok a, f => f a
  | .exc c, _ => .exc c
  | .bad, _ => .bad

inductive Op where
  | add | sub | mul | fdiv | mod | pow | shl
  deriving DecidableEq
inductive Cm where
  | eq | ne | lt | le | gt | ge | is | isn | isin | nin
  deriving DecidableEq
inductive Bf where
  | len | abs | max | min | int | sum | all | any | tuple | list
  deriving DecidableEq
inductive Ty where
  | int | bool | tuple | list | str
  deriving DecidableEq
/-- operations on texts -/
inductive Tx where
  | str | join | split | part | isdig | idx
  deriving DecidableEq
inductive Tg where
  | one (i : Nat)
  | many (l : List Nat)

mutual
inductive E where
  | k (d : D)
  | v (i : Nat)
  | g (j : Nat)
  | tup (es : Es)
  | lst (es : Es)
  | bin (o : Op) (a b : E)
  | neg (a : E)
  | not (a : E)
  | and (es : Es)
  | or (es : Es)
  | cmp (o : Cm) (a b : E)
  | cmp2 (o p : Cm) (a b c : E)
  | ife (c a b : E)
  | ix (a i : E)
  | sl (a : E) (lo hi : Eo)
  | call (f : Nat) (es : Es)
  | bf (f : Bf) (es : Es)
  | isi (a : E) (t : Ty)
  | lc (own : List Nat) (elt : E) (tg : Tg) (it : It) (c : Eo)
  | rev (a : E)
  | mx0 (a : E)
  | ins (a : E) (j : Nat)
  | lens (a : E)
  | lcx (own : List Nat) (elt : E) (tg : Tg) (it : It)
  | orv (a b : E)
  | cnt (i : Nat) (b : E)
  | att (i k j : Nat)
  | cln (f : Nat) (a : E)
  | tx1 (o : Tx) (a : E)
  | tx2 (o : Tx) (a b : E)
  | ind (a : E) (j : Nat)
  | dg (j : Nat) (a : E)
inductive Es where
  | nil
  | cons (e : E) (es : Es)
inductive Eo where
  | no
  | yes (e : E)
inductive It where
  | seq (e : E)
  | rng1 (e : E)
  | rng2 (a b : E)
  | enum (e : E)
  | zip (a b : E)
end

/-- a slot: nothing, a datum that stays, a list of one's own, an object of one's own (or lent: b), of class k, by its fields -/
inductive Sl where
  | no
  | fr (d : D)
  | ow (ds : List D)
  | ob (b : Bool) (k : Nat) (fs : List D)
  | ln (ds : List D)
/-- the program's classes, by number: the name, the fields in the order in which they are first set -/
def clsN : Nat → Str
  | 0 => "Hunt"
  | 1 => "Look"
  | 2 => "Reader"
  | 3 => "Words"
  | _ => ""
def clsF : Nat → List Str
  | 0 => ["term", "point", "best", "high", "is_open"]
  | 1 => ["box", "middle", "worths", "rows", "far", "is_told"]
  | 2 => ["text", "at", "deep"]
  | 3 => ["row", "gone", "sides"]
  | _ => []

/-! what may change an object: calls of its methods -/
mutual
inductive M where
  | e (e : E)
  | mc (i k f : Nat) (ms : Ms)
  | mk (k f : Nat) (as : Es) (h : Nat) (bs : Es)
  | tup (ms : Ms)
  | not (m : M)
  | and (a b : M)
  | cl (i f : Nat) (a : E)
  | cmp (o : Cm) (m : M) (e : E)
  | ind (m : M) (j : Nat)
inductive Ms where
  | nil
  | cons (m : M) (ms : Ms)
end

mutual
inductive S where
  | asg (i : Nat) (ms : List Nat) (e : E)
  | asgL (i : Nat) (ms : List Nat) (e : E)
  | asgT (l : List Nat) (ms : List Nat) (e : E)
  | par (i j : Nat) (ms : List Nat) (a b : E)
  | parL (i j : Nat) (ms : List Nat) (a b : E)
  | ret (ms : List Nat) (e : E)
  | iff (ms : List Nat) (c : E) (a b : Ss)
  | whl (ms : List Nat) (c : E) (b : Ss)
  | for_ (ms : List Nat) (tg : Tg) (it : It) (b : Ss)
  | app (i : Nat) (ms : List Nat) (e : E)
  | ext (i : Nat) (ms : List Nat) (e : E)
  | popT (l : List Nat) (i : Nat)
  | setC (i : Nat) (a b : Nat)
  | setX (i : Nat) (ms : List Nat) (a e : E)
  | asgU (l : List Nat) (ms : List Nat) (e : E)
  | rais (c : Str)
  | tryN (b : Ss) (c : Str) (i : Nat) (d : D)
  | tryW (b : Ss) (i k : Nat)
  | tryA (b : Ss) (i k j : Nat)
  | expr (ms : List Nat) (e : E)
  | self (k : Nat)
  | asgM (i : Nat) (m : M)
  | retM (m : M)
  | retP (m : M)
  | iffM (m : M) (a b : Ss)
  | whlM (m : M) (b : Ss)
  | exprM (m : M)
  | fld (i k j : Nat) (m : M)
  | new (i k f : Nat) (ms : Ms)
  | selfL (i : Nat)
  | appL (i : Nat) (e : E)
  | retL (i : Nat) (e : E)
  | retLM (i : Nat) (m : M)
  | tryR (b : Ss) (c : Str) (d : D)
  | brk
  | cont
  | pass
inductive Ss where
  | nil
  | cons (s : S) (ss : Ss)
end

/-! ### values -/
def MulOk (a b : Int) : Prop := PySem.IntMulOk a b
instance (a b : Int) : Decidable (MulOk a b) := by unfold MulOk PySem.IntMulOk; exact inferInstance

/-- whether a text may be taken so often -/
def mulSB (x : Str) (n : Int) : Bool := decide (0 ≤ n) && decide (n ≤ 1000000) && decide (x.length ≤ 1000) && decide (x.length * n.toNat ≤ 1000000)
def opR : Op → D → D → R D
  | .add, .int a, .int b => .ok (.int (a + b))
  | .add, .str a, .str b => if a.length + b.length ≤ sizeLine then .ok (.str (a ++ b)) else .bad
  | .add, .list a, .list b => if a.length + b.length ≤ sizeLine then .ok (.list (a ++ b)) else .bad
  | .add, .tuple a, .tuple b => if a.length + b.length ≤ sizeLine then .ok (.tuple (a ++ b)) else .bad
  | .sub, .int a, .int b => .ok (.int (a - b))
  | .mul, .int a, .int b => if MulOk a b then .ok (.int (a * b)) else .bad
  | .mul, .tuple a, .int k => if a ≠ [] ∧ 2 ≤ k ∧ k ≤ 1000 ∧ a.length ≤ 1000 then .ok (.tuple (List.replicate k.toNat a).flatten) else .bad
  | .mul, .str z, .int k => if mulSB z k = true then .ok (.str (Txt.mul z k)) else .bad
  | .mul, .list a, .int k => if 0 ≤ k ∧ k ≤ 1000 ∧ a.length ≤ 1000 then .ok (.list (List.replicate k.toNat a).flatten) else .bad
  | .fdiv, .int a, .int b => if b = 0 then .bad else .ok (.int (a.fdiv b))
  | .mod, .int a, .int b => if b = 0 then .bad else .ok (.int (a.fmod b))
  | .pow, .int a, .int b => if 0 ≤ b ∧ b ≤ 1000000 ∧ a.natAbs < 2 ^ 64 then .ok (.int (a ^ b.toNat)) else .bad
  | .shl, .int a, .int b => if 0 ≤ b ∧ b ≤ 1000000 ∧ a.natAbs < 2 ^ 64 then .ok (.int (a * 2 ^ b.toNat)) else .bad
  | _, _, _ => .bad

def flatD : D → Bool
  | .none => true
  | .bool _ => true
  | .int _ => true
  | .str _ => true
  | _ => false

def cmR : Cm → D → D → R D
  | .eq, a, b => if SeqAt.shaped a = true ∧ SeqAt.shaped b = true then .ok (.bool (PyData.eqv a b)) else .bad
  | .ne, a, b => if SeqAt.shaped a = true ∧ SeqAt.shaped b = true then .ok (.bool (!PyData.eqv a b)) else .bad
  | .lt, .int a, .int b => .ok (.bool (decide (a < b)))
  | .le, .int a, .int b => .ok (.bool (decide (a ≤ b)))
  | .gt, .int a, .int b => .ok (.bool (decide (b < a)))
  | .ge, .int a, .int b => .ok (.bool (decide (b ≤ a)))
  | .is, .bool a, .bool b => .ok (.bool (decide (a = b)))
  | .isn, .bool a, .bool b => .ok (.bool (!decide (a = b)))
  | .is, a, .none => .ok (.bool (match a with | .none => true | _ => false))
  | .isn, a, .none => .ok (.bool (!match a with | .none => true | _ => false))
  | .isin, a, .list l => if SeqAt.shaped a = true ∧ SeqAt.shaped (.list l) = true then .ok (.bool (l.any fun z => PyData.eqv z a)) else .bad
  | .nin, a, .list l => if SeqAt.shaped a = true ∧ SeqAt.shaped (.list l) = true then .ok (.bool (!l.any fun z => PyData.eqv z a)) else .bad
  | .isin, .str x, .str z => (match x.cps.toList with
    | [c] => .ok (.bool (decide (c ∈ z.cps.toList)))
    | _ => .bad)
  | .nin, .str x, .str z => (match x.cps.toList with
    | [c] => .ok (.bool (!decide (c ∈ z.cps.toList)))
    | _ => .bad)
  | .isin, a, .tuple l => if flatD a = true ∧ l.all flatD = true then .ok (.bool (l.any fun z => PyData.eqv z a)) else .bad
  | .nin, a, .tuple l => if flatD a = true ∧ l.all flatD = true then .ok (.bool (!l.any fun z => PyData.eqv z a)) else .bad
  | _, _, _ => .bad

def ofO {A : Type} : Option A → R A
  | some a => .ok a
  | none => .bad

def ixR : D → D → R D
  | .list l, .int i => ofO (L2.atI l i)
  | .tuple l, .int i => ofO (L2.atI l i)
  | .str z, .int i => if z.length ≤ sizeLine then (ofO (L2.atI z.cps.toList i)).bind fun c => .ok (.str ⟨#[c]⟩) else .bad
  | _, _ => .bad

def cutD {A : Type} (xs : List A) (lo hi : Option Int) : List A := (xs.drop (HT.sIx xs.length 0 lo)).take (HT.sIx xs.length xs.length hi - HT.sIx xs.length 0 lo)

def slR : D → Option Int → Option Int → R D
  | .list l, lo, hi => .ok (.list (cutD l lo hi))
  | .tuple l, lo, hi => if HT.sIx l.length 0 lo = 0 ∧ HT.sIx l.length l.length hi = l.length then .bad else .ok (.tuple (cutD l lo hi))
  | .str z, lo, hi => if z.length ≤ sizeLine then .ok (.str (L2.cutS z lo hi)) else .bad
  | _, _, _ => .bad

def intsOf : List D → Option (List Int)
  | [] => some []
  | .int i :: r => (intsOf r).map fun l => i :: l
  | _ :: _ => none
def blsOf : List D → Option (List Bool)
  | [] => some []
  | .bool i :: r => (blsOf r).map fun l => i :: l
  | _ :: _ => none

def mxL : List Int → Int
  | [] => 0
  | x :: xs => xs.foldl (fun a y => if a < y then y else a) x
def bfR : Bf → List D → R D
  | .len, [.list l] => .ok (.int l.length)
  | .len, [.tuple l] => .ok (.int l.length)
  | .len, [.str z] => if z.length ≤ sizeLine then .ok (.int z.length) else .bad
  | .abs, [.int i] => .ok (.int (if i < 0 then -i else i))
  | .max, [.int i, .int j] => .ok (.int (if j > i then j else i))
  | .max, [.list l] => (ofO (intsOf l)).bind fun ns => if ns = [] then .bad else .ok (.int (mxL ns))
  | .min, [.int i, .int j] => .ok (.int (if j < i then j else i))
  | .int, [.int i] => .ok (.int i)
  | .int, [.bool b] => .ok (.int (if b then 1 else 0))
  | .int, [.str z] => if z.length ≤ 640 then (ofO (PySem.intText? z)).bind fun n => .ok (.int n) else .bad
  | .sum, [.list l] => (ofO (intsOf l)).bind fun ns => .ok (.int ns.sum)
  | .all, [.list l] => (ofO (blsOf l)).bind fun bs => .ok (.bool (bs.all id))
  | .any, [.list l] => (ofO (blsOf l)).bind fun bs => .ok (.bool (bs.any id))
  | .tuple, [.list l] => .ok (.tuple l)
  | .tuple, [.tuple l] => .ok (.tuple l)
  | .list, [.list l] => .ok (.list l)
  | .list, [.tuple l] => .ok (.list l)
  | _, _ => .bad

def revR : D → R D
  | .list l => .ok (.list l.reverse)
  | _ => .bad
def mx0R : D → R D
  | .list l => (ofO (intsOf l)).bind fun ns => .ok (.int (mxL ns))
  | _ => .bad
/-- whether something counts as true -/
def truD : D → Option Bool
  | .none => some false
  | .tuple l => some (!l.isEmpty)
  | .list l => some (!l.isEmpty)
  | _ => none
def cntR (l : List D) (d : D) : R D := if SeqAt.shaped d = true ∧ SeqAt.shaped (.list l) = true then .ok (.int (l.countP fun z => PyData.eqv z d : Nat)) else .bad
def lstR : D → R (List D)
  | .list l => .ok l
  | _ => .bad
def tupsOf : List D → Option (List (List Int))
  | [] => some []
  | .tuple x :: r => (intsOf x).bind fun k => (tupsOf r).map fun l => k :: l
  | _ :: _ => none
/-- how many unlike ones there are -/
def dedN : List (List Int) → Nat
  | [] => 0
  | x :: xs => if x ∈ xs then dedN xs else dedN xs + 1
/-- one tuple of tuples of ints -/
def oneP : List D → Bool
  | [.tuple l] => (tupsOf l).isSome
  | _ => false
def lensR : D → R D
  | .list l => (match tupsOf l with
    | some ks => if ks.length < 64 then .ok (.int (dedN ks)) else .bad
    | none => if oneP l = true then .ok (.int 1) else .bad)
  | _ => .bad
/-- of a dict of the module, by number: words that are asked for, and whether they are keys -/
def dctT : Nat → List (Str × Bool)
  | 0 => [("sum", true), ("less", true), ("times", true), ("over", true), ("num", false), ("var", false), ("power", false)]
  | _ => []
/-- of a dict of the module that holds texts by texts: what it holds -/
def dctV : Nat → List (Str × Str)
  | 0 => [("sum", "+"), ("less", "-"), ("times", "*"), ("over", ":")]
  | 1 => [("+", "sum"), ("-", "less")]
  | 2 => [("*", "times"), (":", "over")]
  | _ => []
def indR (j : Nat) : D → R D
  | .str z => .ok (.bool ((dctV j).lookup z).isSome)
  | _ => .bad
def dgR (j : Nat) : D → R D
  | .str z => (ofO ((dctV j).lookup z)).bind fun s => .ok (.str s)
  | _ => .bad
def strsOf : List D → Option (List Str)
  | [] => some []
  | .str i :: r => (strsOf r).map fun l => i :: l
  | _ :: _ => none

mutual
def shwB : D → Bool
  | .int i => decide (i.natAbs.log2 < 12900)
  | .list l => shwA l
  | .tuple l => shwA l
  | .str _ => true
  | .bool _ => true
  | .none => true
  | _ => false
def shwA : List D → Bool
  | [] => true
  | d :: l => shwB d && shwA l
end
/-- operations on texts -/
def tx1R : Tx → D → R D
  | .str, .int i => if i.natAbs.log2 < 1920 then .ok (.str (toString i)) else .bad
  | .isdig, .str z => .ok (.bool (Txt.isdigit z))
  | _, _ => .bad
def onStr : D → R Str
  | .str z => .ok z
  | _ => .bad
def tx2R : Tx → Str → D → R D
  | .join, z, .list l => (ofO (strsOf l)).bind fun ys => if (ys.map (·.length)).sum + ys.length * z.length ≤ 16777216 then .ok (.str (Txt.join z ys)) else .bad
  | .split, a, .str b => if (b.length == 0) = false ∧ a.length + 2 ≤ sizeLine then .ok (.list ((Txt.split a b).map .str)) else .bad
  | .part, a, .str b => if (b.length == 0) = false ∧ a.length ≤ sizeLine then .ok (.tuple [.str (Txt.partition a b).1, .str (Txt.partition a b).2.1, .str (Txt.partition a b).2.2]) else .bad
  | .idx, a, .str b => (match Builtin.Str.occurrences a b 0 a.length 1 with
    | i :: _ => .ok (.int (i : Nat))
    | [] => .bad)
  | _, _, _ => .bad
def insR (j : Nat) : D → R D
  | .str z => (ofO ((dctT j).lookup z)).bind fun b => .ok (.bool b)
  | _ => .bad

def isiR : Ty → D → R D
  | _, .dict _ => .bad
  | .int, .int _ => .ok (.bool true)
  | .int, .bool _ => .ok (.bool true)
  | .bool, .bool _ => .ok (.bool true)
  | .tuple, .tuple _ => .ok (.bool true)
  | .list, .list _ => .ok (.bool true)
  | .str, .str _ => .ok (.bool true)
  | _, _ => .ok (.bool false)

def getV (env : List Sl) (i : Nat) : R D := match env[i]? with
  | some (.fr d) => .ok d
  | _ => .bad

/-- field j of the object in slot i -/
def attR (env : List Sl) (i k j : Nat) : R D := match env[i]? with
  | some (.ob _ k' fs) => if k' = k then ofO fs[j]? else .bad
  | _ => .bad

def wipeE (env : List Sl) : List Nat → List Sl
  | [] => env
  | v :: vs => (wipeE env vs).set v .no

def setMany (env : List Sl) : List Nat → List D → R (List Sl)
  | [], [] => .ok env
  | i :: l, d :: ds => setMany (env.set i (.fr d)) l ds
  | _, _ => .bad

def setT (env : List Sl) : Tg → D → R (List Sl)
  | .one i, d => .ok (env.set i (.fr d))
  | .many l, .tuple ds => setMany env l ds
  | .many _, _ => .bad

def lcGo (f : D → R (Option D)) : List D → R (List D)
  | [] => .ok []
  | d :: ds => match f d with
    | .ok o => (match lcGo f ds with
      | .ok r => .ok (match o with | some x => x :: r | none => r)
      | _ => .bad)
    | _ => .bad

def lcGoX (f : D → R D) : List D → R (List D)
  | [] => .ok []
  | d :: ds => (f d).bind fun x => (lcGoX f ds).bind fun r => .ok (x :: r)

def rngL (a : Int) (n : Nat) : List D := (List.range n).map fun (k : Nat) => .int (a + (k : Int))

def enumL : Nat → List D → List D
  | _, [] => []
  | k, d :: ds => .tuple [.int k, d] :: enumL (k + 1) ds

def zipL : List D → List D → List D
  | a :: as, b :: bs => .tuple [a, b] :: zipL as bs
  | _, _ => []

def seqR : D → R (List D)
  | .list l => .ok l
  | .tuple l => .ok l
  | .str z => if z.length ≤ sizeLine then .ok (z.cps.toList.map fun c => .str ⟨#[c]⟩) else .bad
  | _ => .bad

def rngR (a b : Int) : R (List D) :=
  if -(2 ^ 62) ≤ a ∧ a < 2 ^ 62 ∧ -(2 ^ 62) ≤ b ∧ b < 2 ^ 62 ∧ b - a ≤ 1000000 then .ok (rngL a (b - a).toNat) else .bad

def zipR : D → D → R (List D)
  | .list a, .list b => if a.length ≤ sizeLine then .ok (zipL a b) else .bad
  | .tuple a, .tuple b => if a.length ≤ sizeLine then .ok (zipL a b) else .bad
  | _, _ => .bad
def enumR : D → R (List D)
  | .list a => if a.length ≤ sizeLine then .ok (enumL 0 a) else .bad
  | .tuple a => if a.length ≤ sizeLine then .ok (enumL 0 a) else .bad
  | _ => .bad

/-- the module's constants, by number -/
def cst : Nat → D
  | 0 => .tuple [.int 0, .int 1]
  | 1 => .tuple [.int 1, .int 1]
  | 2 => .tuple [.int 2, .int 1]
  | 3 => .tuple [.str "num", .tuple [.int 0, .int 1]]
  | 4 => .tuple [.str "num", .tuple [.int 1, .int 1]]
  | 5 => .tuple [.str "var", .int 0]
  | 6 => .int 24
  | 7 => .int 200
  | 8 => .int 25
  | 9 => .int 1000000000000
  | 10 => .int 6
  | 11 => .int 3
  | 12 => .int 60
  | 13 => .str "xyz"
  | 14 => .str "0123456789"
  | 15 => .int 12
  | 16 => .int 2000
  | 17 => .int 30
  | 18 => .tuple [.str "cover", .str "out", .str "kept", .str "open"]
  | 19 => .str "abcdefghijklmnopqrstuvwxyz"
  | 20 => .tuple [.str "above", .str "below", .str "apart"]
  | 21 => .int 8
  | _ => .none

/-- what a def with a lent list tells: its answer, the list behind it -/
def metL : R D → R (D × List D)
  | .ok (.tuple [d, .list es]) => .ok (d, es)
  | _ => .bad
section
variable (F : Nat → List D → R D)
mutual
def ev (env : List Sl) : E → R D
  | .k d => .ok d
  | .v i => getV env i
  | .g j => .ok (cst j)
  | .tup es => (evs env es).bind fun ds => .ok (.tuple ds)
  | .lst es => (evs env es).bind fun ds => .ok (.list ds)
  | .bin o a b => (ev env a).bind fun x => (ev env b).bind fun y => opR o x y
  | .neg a => (ev env a).bind fun x => match x with
    | .int i => .ok (.int (-i))
    | _ => .bad
  | .not a => (ev env a).bind fun x => match x with
    | .bool b => .ok (.bool (!b))
    | _ => .bad
  | .and es => evAnd env es
  | .or es => evOr env es
  | .cmp o a b => (ev env a).bind fun x => (ev env b).bind fun y => cmR o x y
  | .cmp2 o p a b c => (ev env a).bind fun x => (ev env b).bind fun y => (cmR o x y).bind fun z => match z with
    | .bool true => (ev env c).bind fun w => cmR p y w
    | .bool false => .ok (.bool false)
    | _ => .bad
  | .ife c a b => (ev env c).bind fun x => match x with
    | .bool true => ev env a
    | .bool false => ev env b
    | _ => .bad
  | .ix a i => (ev env a).bind fun x => (ev env i).bind fun y => ixR x y
  | .sl a lo hi => (ev env a).bind fun x => (evO env lo).bind fun l => (evO env hi).bind fun u => slR x l u
  | .call f es => (evs env es).bind fun ds => F f ds
  | .bf f es => (evs env es).bind fun ds => bfR f ds
  | .isi a t => (ev env a).bind fun x => isiR t x
  | .rev a => (ev env a).bind revR
  | .mx0 a => (ev env a).bind mx0R
  | .ins a j => (ev env a).bind (insR j)
  | .lens a => (ev env a).bind lensR
  | .orv a b => (ev env a).bind fun x => match truD x with
    | some true => .ok x
    | some false => ev env b
    | none => .bad
  | .att i k j => attR env i k j
  | .tx1 o a => (ev env a).bind (tx1R o)
  | .tx2 o a b => (ev env a).bind fun x => (onStr x).bind fun z => (ev env b).bind (tx2R o z)
  | .ind a j => (ev env a).bind (indR j)
  | .dg j a => (ev env a).bind (dgR j)
  | .cln f a => (ev env a).bind fun d => (metL (F f [d, .list []])).bind fun r => .ok r.1
  | .cnt i b => (getV env i).bind fun x => (lstR x).bind fun l => (ev env b).bind fun y => cntR l y
  | .lcx own elt tg it => (evI env it).bind fun ds => (lcGoX (fun d => (setT (wipeE env own) tg d).bind fun e2 => ev e2 elt) ds).bind fun l => .ok (.list l)
  | .lc own elt tg it c => (evI env it).bind fun ds => (lcGo (fun d => (setT (wipeE env own) tg d).bind fun e2 => (evC e2 c).bind fun b => if b = true then (ev e2 elt).bind fun x => .ok (some x) else .ok none) ds).bind fun l => .ok (.list l)
def evs (env : List Sl) : Es → R (List D)
  | .nil => .ok []
  | .cons e es => (ev env e).bind fun x => (evs env es).bind fun xs => .ok (x :: xs)
def evAnd (env : List Sl) : Es → R D
  | .nil => .bad
  | .cons e .nil => ev env e
  | .cons e (.cons e2 es) => (ev env e).bind fun x => match x with
    | .bool true => evAnd env (.cons e2 es)
    | .bool false => .ok (.bool false)
    | _ => .bad
def evOr (env : List Sl) : Es → R D
  | .nil => .bad
  | .cons e .nil => ev env e
  | .cons e (.cons e2 es) => (ev env e).bind fun x => match x with
    | .bool true => .ok (.bool true)
    | .bool false => evOr env (.cons e2 es)
    | _ => .bad
def evO (env : List Sl) : Eo → R (Option Int)
  | .no => .ok none
  | .yes e => (ev env e).bind fun x => match x with
    | .int i => .ok (some i)
    | _ => .bad
def evC (env : List Sl) : Eo → R Bool
  | .no => .ok true
  | .yes e => (ev env e).bind fun x => match x with
    | .bool b => .ok b
    | _ => .bad
def evI (env : List Sl) : It → R (List D)
  | .seq e => (ev env e).bind seqR
  | .rng1 e => (ev env e).bind fun x => match x with
    | .int j => rngR 0 j
    | _ => .bad
  | .rng2 a b => (ev env a).bind fun x => (ev env b).bind fun y => match x, y with
    | .int i, .int j => rngR i j
    | _, _ => .bad
  | .enum e => (ev env e).bind enumR
  | .zip a b => (ev env a).bind fun x => (ev env b).bind fun y => zipR x y
end

/-! what may change an object -/
inductive RM (A : Type) where
  | ok (a : A) (e : List Sl)
  | exc (c : Str) (e : List Sl)
  | bad
def RM.bind {A B : Type} : RM A → (A → List Sl → RM B) → RM B
  | .ok a e, f => f a e
  | .exc c e, _ => .exc c e
  | .bad, _ => .bad
def liftM {A : Type} (env : List Sl) : R A → RM A
  | .ok a => .ok a env
  | .exc c => .exc c env
  | .bad => .bad
/-- what a method tells: its answer, the object behind it -/
def metO : R D → R (D × List D)
  | .ok (.tuple [d, .tuple fs]) => .ok (d, fs)
  | .exc c => .exc c
  | _ => .bad
def hasO (env : List Sl) (i k : Nat) : Bool := match env[i]? with
  | some (.ob _ k' _) => decide (k' = k)
  | _ => false
def callM (env : List Sl) (i k f : Nat) (ds : List D) : RM D := match env[i]? with
  | some (.ob b k' fs) => if k' = k then (match metO (F f (.tuple fs :: ds)) with
    | .ok r => .ok r.1 (env.set i (.ob b k r.2))
    | .exc c => .exc c (env.set i .no)
    | .bad => .bad) else .bad
  | _ => .bad
def makeM (env : List Sl) (f : Nat) (ds : List D) : RM (List D) := match metO (F f (.tuple [] :: ds)) with
  | .ok (.none, fs) => .ok fs env
  | .exc c => .exc c env
  | _ => .bad
/-- one method of an object that is let go behind it -/
def onceM (env : List Sl) (h : Nat) (fs ds : List D) : RM D := match metO (F h (.tuple fs :: ds)) with
  | .ok r => .ok r.1 env
  | .exc c => .exc c env
  | .bad => .bad
def callL (env : List Sl) (i f : Nat) (d : D) : RM D := match env[i]? with
  | some (.ln l) => (match metL (F f [d, .list l]) with
    | .ok r => .ok r.1 (env.set i (.ln r.2))
    | _ => .bad)
  | _ => .bad
mutual
def evM (env : List Sl) : M → RM D
  | .e e => liftM env (ev F env e)
  | .mc i k f ms => if hasO env i k = true then (evMs env ms).bind fun ds e => callM F e i k f ds else .bad
  | .mk k f as h bs => (liftM env (evs F env as)).bind fun ds e => (makeM F e f ds).bind fun fs e => (liftM e (evs F e bs)).bind fun es e => onceM F e h fs es
  | .tup ms => (evMs env ms).bind fun ds e => .ok (.tuple ds) e
  | .not m => (evM env m).bind fun d e => match d with
    | .bool b => .ok (.bool (!b)) e
    | _ => .bad
  | .and a b => (evM env a).bind fun d e => match d with
    | .bool true => evM e b
    | .bool false => .ok (.bool false) e
    | _ => .bad
  | .cl i f a => (liftM env (ev F env a)).bind fun d e => callL F e i f d
  | .cmp o m e => (evM env m).bind fun d e2 => (liftM e2 (ev F e2 e)).bind fun y e3 => liftM e3 (cmR o d y)
  | .ind m j => (evM env m).bind fun d e2 => liftM e2 (indR j d)
def evMs (env : List Sl) : Ms → RM (List D)
  | .nil => .ok [] env
  | .cons m ms => (evM env m).bind fun d e => (evMs e ms).bind fun ds e => .ok (d :: ds) e
end

inductive Out where
  | next (env : List Sl)
  | ret (d : D)
  | brk (env : List Sl)
  | cont (env : List Sl)
  | exc (c : Str) (env : List Sl)
  | bad

def see (env : List Sl) : List Nat → List Sl
  | [] => env
  | i :: l => see (match env[i]? with
    | some (.ow ds) => env.set i (.fr (.list ds))
    | _ => env) l

def forGo (f : D → List Sl → Out) : List D → List Sl → Out
  | [], env => .next env
  | d :: ds, env => match f d env with
    | .next e => forGo f ds e
    | .cont e => forGo f ds e
    | .brk e => .next e
    | .ret x => .ret x
    | .exc c e => .exc c e
    | .bad => .bad

/-- so many turns of a while -/
def whlN (c : List Sl → R Bool) (b : List Sl → Out) : Nat → List Sl → Option Out
  | 0, _ => none
  | n + 1, env => match c env with
    | .ok true => (match b env with
      | .next e => whlN c b n e
      | .cont e => whlN c b n e
      | .brk e => some (.next e)
      | .ret x => some (.ret x)
      | .exc c e => some (.exc c e)
      | .bad => some .bad)
    | .ok false => some (.next env)
    | .exc x => some (.exc x env)
    | .bad => some .bad
open Classical in
noncomputable def whl (c : List Sl → R Bool) (b : List Sl → Out) (env : List Sl) : Out :=
  if h : ∃ n o, whlN c b n env = some o then Classical.choose (Classical.choose_spec h) else .bad

def toB : R D → R Bool
  | .ok (.bool b) => .ok b
  | .ok _ => .bad
  | .exc c => .exc c
  | .bad => .bad

def isSub (c d : Str) : Bool := decide (c = d) || decide (d = Str.ofString "CloseError")

/-- of the classes cs the words ws: which one the class c is told by -/
def cntB (bs : List Bool) : Int := (bs.map fun b => if b then (1 : Int) else 0).sum
def flagsW (cs : List Str) (c : Str) : List Bool := cs.map fun k => isSub c k
def wordW (cs ws : List Str) (c : Str) : Str := if cntB (flagsW cs c) = 1 then (match (flagsW cs c).idxOf? true with
  | some j => ws.getD j ""
  | none => "") else "other"
def wtab : Nat → List Str
  | 0 => ["NoFraction", "NoStretch", "BadTerm", "BadText", "NoWorth"]
  | 1 => ["BadPaper", "BadTerm", "NoStretch", "NoWorth"]
  | _ => []
def wordT (k : Nat) (c : Str) : Str := wordW (wtab k) (wtab k) c

def onR {A : Type} (env : List Sl) (r : R A) (f : A → Out) : Out := match r with
  | .ok a => f a
  | .exc c => .exc c env
  | .bad => .bad

def onM {A : Type} (r : RM A) (f : A → List Sl → Out) : Out := match r with
  | .ok a e => f a e
  | .exc c e => .exc c e
  | .bad => .bad
def retO (d : D) (e : List Sl) : Out := match (e[0]? : Option Sl) with
  | some (.ob true _ fs) => .ret (.tuple [d, .tuple fs])
  | _ => .bad
def retLO (i : Nat) (d : D) (e : List Sl) : Out := match e[i]? with
  | some (.ln ds) => .ret (.tuple [d, .list ds])
  | _ => .bad
def fldO (i k j : Nat) (d : D) (e : List Sl) : Out := match e[i]? with
  | some (.ob b k' fs) => if k' = k ∧ j < (clsF k).length then (if j < fs.length then .next (e.set i (.ob b k (fs.set j d))) else if j = fs.length then .next (e.set i (.ob b k (fs ++ [d]))) else .bad) else .bad
  | _ => .bad
/-- a datum, or a tuple of such, that may be put into a list of one's own -/
def flt2 : D → Bool
  | .tuple l => l.all flatD
  | d => flatD d
def setXO (env : List Sl) (i : Nat) (ds : List D) (d : D) : D → Out
  | .int j => if flt2 d = true ∧ 0 ≤ j ∧ j < ds.length then .next (env.set i (.ow (ds.set j.toNat d))) else .bad
  | _ => .bad
mutual
noncomputable def evS (env : List Sl) : S → Out
  | .asg i ms e => onR env (ev F (see env ms) e) fun d => .next ((if flatD d = true then env else see env ms).set i (.fr d))
  | .asgL i ms e => onR env (ev F (see env ms) e) fun d => match d with
    | .list ds => .next ((see env ms).set i (.ow ds))
    | _ => .bad
  | .asgT l ms e => onR env (ev F (see env ms) e) fun d => match setT (see env ms) (.many l) d with
    | .ok e2 => .next e2
    | _ => .bad
  | .par i j ms a b => onR env (ev F (see env ms) a) fun x => onR env (ev F (see env ms) b) fun y => .next (((see env ms).set i (.fr x)).set j (.fr y))
  | .parL i j ms a b => onR env (ev F (see env ms) a) fun x => onR env (ev F (see env ms) b) fun y => match x with
    | .list ds => .next (((see env ms).set i (.ow ds)).set j (.fr y))
    | _ => .bad
  | .ret ms e => onR env (ev F (see env ms) e) fun d => .ret d
  | .iff ms c a b => onR env (toB (ev F (see env ms) c)) fun x => if x = true then evSs env a else evSs env b
  | .whl ms c b => whl (fun e => toB (ev F (see e ms) c)) (fun e => evSs e b) env
  | .for_ ms tg it b => onR env (evI F (see env ms) it) fun ds => forGo (fun d e => match setT e tg d with
    | .ok e2 => evSs e2 b
    | _ => .bad) ds (see env ms)
  | .app i ms e => match env[i]? with
    | some (.ow ds) => onR env (ev F (see env ms) e) fun d => if ds.length < sizeLine then .next ((see env ms).set i (.ow (ds ++ [d]))) else .bad
    | _ => .bad
  | .ext i ms e => match env[i]? with
    | some (.ow ds) => onR env (ev F (see env ms) e) fun d => match d with
      | .list l => if ds.length + l.length ≤ sizeLine then .next ((see env ms).set i (.ow (ds ++ l))) else .bad
      | _ => .bad
    | _ => .bad
  | .popT l i => match env[i]? with
    | some (.ow ds) => (match ds.getLast? with
      | some d => (match setT (env.set i (.ow ds.dropLast)) (.many l) d with
        | .ok e2 => .next e2
        | _ => .bad)
      | none => .bad)
    | _ => .bad
  | .setC i a b => match env[i]? with
    | some (.ow ds) => (match ds[b]? with
      | some d => if a < ds.length then .next (env.set i (.ow (ds.set a d))) else .bad
      | none => .bad)
    | _ => .bad
  | .setX i ms a e => match env[i]? with
    | some (.ow ds) => onR env (ev F (see env ms) e) fun d => onR env (ev F (see env ms) a) (setXO env i ds d)
    | _ => .bad
  | .asgU l ms e => onR env (ev F (see env ms) e) fun d => match d with
    | .list ds => (match setMany (see env ms) l ds with
      | .ok e2 => .next e2
      | _ => .bad)
    | _ => .bad
  | .rais c => .exc c env
  | .tryN b c i d => match evSs env b with
    | .exc c2 e => if isSub c2 c = true then .next (e.set i (.fr d)) else .exc c2 e
    | o => o
  | .tryW b i k => match evSs env b with
    | .exc c e => .ret (.str (wordT k c))
    | o => o
  | .tryA b i k j => match evSs env b with
    | .exc c e => (match e[j]? with
      | some (.ow ds) => if ds.length < sizeLine then .next ((e.set i .no).set j (.ow (ds ++ [.str (wordT k c)]))) else .bad
      | _ => .bad)
    | o => o
  | .expr ms e => onR env (ev F (see env ms) e) fun _ => .next env
  | .self k => match (env[0]? : Option Sl) with
    | some (.fr (.tuple fs)) => .next (env.set 0 (.ob true k fs))
    | _ => .bad
  | .asgM i m => onM (evM F env m) fun d e => .next (e.set i (.fr d))
  | .retM m => onM (evM F env m) retO
  | .retP m => onM (evM F env m) fun d _ => .ret d
  | .iffM m a b => onM (evM F env m) fun d e => match d with
    | .bool true => evSs e a
    | .bool false => evSs e b
    | _ => .bad
  | .whlM m b => whl (fun _ => .ok true) (fun e => onM (evM F e m) fun d e2 => match d with
    | .bool true => evSs e2 b
    | .bool false => .brk e2
    | _ => .bad) env
  | .exprM m => onM (evM F env m) fun _ e => .next e
  | .fld i k j m => onM (evM F env m) (fldO i k j)
  | .new i k f ms => onM ((evMs F env ms).bind fun ds e => makeM F e f ds) fun fs e => .next (e.set i (.ob false k fs))
  | .selfL i => match env[i]? with
    | some (.fr (.list ds)) => .next (env.set i (.ln ds))
    | _ => .bad
  | .appL i e => match env[i]? with
    | some (.ln ds) => onR env (ev F env e) fun d => if ds.length < sizeLine then .next (env.set i (.ln (ds ++ [d]))) else .bad
    | _ => .bad
  | .retL i e => match env[i]? with
    | some (.ln ds) => onR env (ev F (env.set i (.fr (.list ds))) e) fun d => if flatD d = true then .ret (.tuple [d, .list ds]) else .bad
    | _ => .bad
  | .retLM i m => onM (evM F env m) (retLO i)
  | .tryR b c d => match evSs env b with
    | .exc c2 e => if isSub c2 c = true then .ret d else .exc c2 e
    | o => o
  | .brk => .brk env
  | .cont => .cont env
  | .pass => .next env
noncomputable def evSs (env : List Sl) : Ss → Out
  | .nil => .next env
  | .cons s ss => match evS env s with
    | .next e => evSs e ss
    | o => o
end
end

/-- a def: how many parameters, how many slots, its body -/
structure Def where
  ps : Nat
  sl : Nat
  body : Ss

def startE (n : Nat) (ds : List D) : List Sl := ds.map Sl.fr ++ List.replicate (n - ds.length) Sl.no

noncomputable def runD (F : Nat → List D → R D) (d : Def) (ds : List D) : R D :=
  if ds.length = d.ps then
    (match evSs F (startE d.sl ds) d.body with
    | .next _ => .ok .none
    | .ret x => .ok x
    | .exc c _ => .exc c
    | _ => .bad)
  else .bad

noncomputable def evc (T : Nat → Option Def) : Nat → Nat → List D → R D
  | 0, _, _ => .bad
  | n + 1, f, ds => match T f with
    | some d => runD (evc T n) d ds
    | none => .bad
end Cw

set_option Elab.async false
set_option linter.all false
set_option maxRecDepth 100000
set_option maxHeartbeats 4000000
namespace Cw
open PySem PySem.Spec PyProof.Rows L2

/-! ### heaps: H all that is tracked, G the part that stays for good -/
structure Ext (H G H' G' : Hp) : Prop where
  a : Same H H'
  b : Same G G'
  c : Same G' H'
  d : ∀ p o, H p = some o → G p = none → G' p = none
theorem Ext.refl {H G : Hp} (h : Same G H) : Ext H G H G := ⟨Same.refl _, Same.refl _, h, fun _ _ _ e => e⟩
theorem Ext.trans {H G H1 G1 H2 G2 : Hp} (x : Ext H G H1 G1) (y : Ext H1 G1 H2 G2) : Ext H G H2 G2 :=
  ⟨x.a.trans y.a, x.b.trans y.b, y.c, fun p o h e => y.d p o (x.a p o h) (x.d p o h e)⟩
theorem Same.upd {H : Hp} {p : Addr} {o : HO} (h : H p = none) : Same H (upd H p o) := fun b u e => by
  rw [upd_ne (ne_of_none e h)]; exact e
theorem Ext.new {H G : Hp} {p : Addr} {o : HO} (h : Same G H) (hp : H p = none) : Ext H G (upd H p o) (upd G p o) := by
  refine ⟨Same.upd hp, Same.upd (h.free hp), fun b u e => ?_, fun b u e n => ?_⟩
  · by_cases q : b = p
    · subst q; rw [upd_same] at e ⊢; exact e
    · rw [upd_ne q] at e ⊢; exact h b u e
  · have q : b ≠ p := ne_of_none e hp
    rw [upd_ne q]; exact n
theorem Same.seqT {K : PySem.W.Frag} {H H' : Hp} {a : Addr} {xs : List V} (e : Same H H') (h : SqT K H a xs) : SqT K H' a xs := by
  rcases h with (h | ⟨o, h⟩) | h
  · exact .inl (.inl (e _ _ h))
  · exact .inl (.inr ⟨o, e _ _ h⟩)
  · exact .inr h
mutual
theorem dp_mono {K : PySem.W.Frag} {H H' : Hp} (e : Same H H') : ∀ {v : V} {d : D}, Dp K H v d → Dp K H' v d
  | _, _, .non => .non
  | _, _, .bl b => .bl b
  | _, _, .int i => .int i
  | _, _, .str x => .str x
  | _, _, .lst q r => .lst (e.seq q) (dpAll_mono e r)
  | _, _, .tup q r => .tup (Same.seqT e q) (dpAll_mono e r)
theorem dpAll_mono {K : PySem.W.Frag} {H H' : Hp} (e : Same H H') : ∀ {vs : List V} {ds : List D}, DpAll K H vs ds → DpAll K H' vs ds
  | _, _, .nil => .nil
  | _, _, .cons a b => .cons (dp_mono e a) (dpAll_mono e b)
end
theorem dpAll_len {K : PySem.W.Frag} {H : Hp} : ∀ {vs : List V} {ds : List D}, DpAll K H vs ds → vs.length = ds.length
  | _, _, .nil => rfl
  | _, _, .cons _ b => by rw [List.length_cons, List.length_cons, dpAll_len b]
theorem dpAll_get {K : PySem.W.Frag} {H : Hp} : ∀ {vs : List V} {ds : List D} {i : Nat} {d : D}, DpAll K H vs ds → ds[i]? = some d → ∃ v, vs[i]? = some v ∧ Dp K H v d
  | _, _, _, _, .nil, e => by simp at e
  | _, _, 0, _, .cons a _, e => by simp at e; subst e; exact ⟨_, rfl, a⟩
  | _, _, i + 1, d, .cons _ b, e => by
    obtain ⟨v, h1, h2⟩ := dpAll_get (i := i) (d := d) b (by simpa using e)
    exact ⟨v, by simpa using h1, h2⟩
theorem dpAll_getV {K : PySem.W.Frag} {H : Hp} : ∀ {vs : List V} {ds : List D} {i : Nat} {v : V}, DpAll K H vs ds → vs[i]? = some v → ∃ d, ds[i]? = some d ∧ Dp K H v d
  | _, _, _, _, .nil, e => by simp at e
  | _, _, 0, _, .cons a _, e => by simp at e; subst e; exact ⟨_, rfl, a⟩
  | _, _, i + 1, d, .cons _ b, e => by
    obtain ⟨v, h1, h2⟩ := dpAll_getV (i := i) (v := d) b (by simpa using e)
    exact ⟨v, by simpa using h1, h2⟩
theorem dpAll_app {K : PySem.W.Frag} {H : Hp} : ∀ {vs ws : List V} {ds es : List D}, DpAll K H vs ds → DpAll K H ws es → DpAll K H (vs ++ ws) (ds ++ es)
  | _, _, _, _, .nil, h => h
  | _, _, _, _, .cons a b, h => .cons a (dpAll_app b h)
theorem dpAll_take {K : PySem.W.Frag} {H : Hp} : ∀ {vs : List V} {ds : List D} (n : Nat), DpAll K H vs ds → DpAll K H (vs.take n) (ds.take n)
  | _, _, 0, _ => .nil
  | _, _, _ + 1, .nil => .nil
  | _, _, n + 1, .cons a b => .cons a (dpAll_take n b)
theorem dpAll_drop {K : PySem.W.Frag} {H : Hp} : ∀ {vs : List V} {ds : List D} (n : Nat), DpAll K H vs ds → DpAll K H (vs.drop n) (ds.drop n)
  | _, _, 0, h => h
  | _, _, _ + 1, .nil => .nil
  | _, _, n + 1, .cons _ b => dpAll_drop n b
theorem dpAll_rep {K : PySem.W.Frag} {H : Hp} {vs : List V} {ds : List D} (h : DpAll K H vs ds) : ∀ n : Nat, DpAll K H (List.replicate n vs).flatten (List.replicate n ds).flatten
  | 0 => .nil
  | n + 1 => by rw [List.replicate_succ, List.replicate_succ, List.flatten_cons, List.flatten_cons]; exact dpAll_app h (dpAll_rep h n)
theorem dpAll_ints {K : PySem.W.Frag} {H : Hp} : ∀ {vs : List V} {ds : List D} {ns : List Int}, DpAll K H vs ds → intsOf ds = some ns → vs = ns.map V.int
  | _, _, _, .nil, e => by cases e; rfl
  | _, _, _, .cons (ds := ds) a b, e => by
    cases a with
    | int i =>
      rw [intsOf] at e
      obtain ⟨l, h1, h2⟩ := Option.map_eq_some_iff.mp e
      subst h2
      rw [dpAll_ints b h1]; rfl
    | _ => cases e
theorem dpAll_bls {K : PySem.W.Frag} {H : Hp} : ∀ {vs : List V} {ds : List D} {ns : List Bool}, DpAll K H vs ds → blsOf ds = some ns → vs = ns.map V.bl
  | _, _, _, .nil, e => by cases e; rfl
  | _, _, _, .cons (ds := ds) a b, e => by
    cases a with
    | bl i =>
      rw [blsOf] at e
      obtain ⟨l, h1, h2⟩ := Option.map_eq_some_iff.mp e
      subst h2
      rw [dpAll_bls b h1]; rfl
    | _ => cases e

/-! ### a heap without an object -/
def del (H : Hp) (p : Addr) : Hp := fun b => if b = p then none else H b
theorem del_ne {H : Hp} {p b : Addr} (h : b ≠ p) : del H p b = H b := if_neg h
theorem del_self {H : Hp} {p : Addr} : del H p p = none := if_pos rfl
theorem del_some {H : Hp} {p b : Addr} {o : HO} (h : del H p b = some o) : b ≠ p ∧ H b = some o := by
  unfold del at h
  split at h
  · cases h
  · exact ⟨‹_›, h⟩
theorem del_same {H : Hp} {p : Addr} : Same (del H p) H := fun b o h => (del_some h).2

/-! ### as long as the lists and tuples stand -/
def SameD (G G' : Hp) : Prop := ∀ b o, G b = some o → (match o with | .ins _ _ _ => false | _ => true) = true → G' b = some o
theorem Same.d {G G' : Hp} (h : Same G G') : SameD G G' := fun b o e _ => h b o e
theorem SameD.trans {G G' G2 : Hp} (h : SameD G G') (h2 : Same G' G2) : SameD G G2 := fun b o e n => h2 b o (h b o e n)
theorem SameD.seq {K : PySem.W.Frag} {H H' : Hp} {a : Addr} {xs : List V} (e : SameD H H') (h : SqL K H a xs) : SqL K H' a xs := by
  rcases h with (h | ⟨o, h⟩) | h
  · exact .inl (.inl (e _ _ h rfl))
  · exact .inl (.inr ⟨o, e _ _ h rfl⟩)
  · exact .inr h
theorem SameD.seqT {K : PySem.W.Frag} {H H' : Hp} {a : Addr} {xs : List V} (e : SameD H H') (h : SqT K H a xs) : SqT K H' a xs := by
  rcases h with (h | ⟨o, h⟩) | h
  · exact .inl (.inl (e _ _ h rfl))
  · exact .inl (.inr ⟨o, e _ _ h rfl⟩)
  · exact .inr h
mutual
theorem dp_monoD {K : PySem.W.Frag} {H H' : Hp} (e : SameD H H') : ∀ {v : V} {d : D}, Dp K H v d → Dp K H' v d
  | _, _, .non => .non
  | _, _, .bl b => .bl b
  | _, _, .int i => .int i
  | _, _, .str x => .str x
  | _, _, .lst q r => .lst (e.seq q) (dpAll_monoD e r)
  | _, _, .tup q r => .tup (e.seqT q) (dpAll_monoD e r)
theorem dpAll_monoD {K : PySem.W.Frag} {H H' : Hp} (e : SameD H H') : ∀ {vs : List V} {ds : List D}, DpAll K H vs ds → DpAll K H' vs ds
  | _, _, .nil => .nil
  | _, _, .cons a b => .cons (dp_monoD e a) (dpAll_monoD e b)
end

/-! ### slots -/
/-- the class numbered k -/
def clsA (K : PySem.W.Frag) (k : Nat) : Addr := He.ga K (clsN k)
def insO (K : PySem.W.Frag) (k : Nat) (dx : Addr) (vs : List V) : HO := .ins (clsA K k) dx ((clsF k).zip vs)
/-- the data in the slots -/
structure EnvL (K : PySem.W.Frag) (G : Hp) (σ : L2.St) (env : List Sl) : Prop where
  len : σ.length = env.length
  get : ∀ (i : Nat) (d : D), env[i]? = some (.fr d) → ∃ v, σ[i]? = some (some v) ∧ Dp K G v d
/-- the data and the objects in the slots, as long as nothing changes -/
structure EnvR (K : PySem.W.Frag) (G : Hp) (σ : L2.St) (env : List Sl) : Prop extends EnvL K G σ env where
  ob : ∀ (i : Nat) (b : Bool) (k : Nat) (fs : List D), env[i]? = some (.ob b k fs) → ∃ p dx vs, σ[i]? = some (some (.ref p)) ∧ G p = some (insO K k dx vs) ∧ DpAll K G vs fs
theorem EnvL.mono {K : PySem.W.Frag} {G G' : Hp} {σ : L2.St} {env : List Sl} (h : EnvL K G σ env) (e : Same G G') : EnvL K G' σ env :=
  ⟨h.len, fun i d q => let ⟨v, a, b⟩ := h.get i d q; ⟨v, a, dp_mono e b⟩⟩
theorem EnvR.mono {K : PySem.W.Frag} {G G' : Hp} {σ : L2.St} {env : List Sl} (h : EnvR K G σ env) (e : Same G G') : EnvR K G' σ env :=
  ⟨h.toEnvL.mono e, fun i b k fs q => let ⟨p, dx, vs, a1, a2, a3⟩ := h.ob i b k fs q; ⟨p, dx, vs, a1, e _ _ a2, dpAll_mono e a3⟩⟩
theorem EnvL.set {K : PySem.W.Frag} {G : Hp} {σ : L2.St} {env : List Sl} {i : Nat} {v : V} {d : D} (h : EnvL K G σ env) (p : Dp K G v d) : EnvL K G (σ.set i (some v)) (env.set i (.fr d)) := by
  refine ⟨by rw [List.length_set, List.length_set, h.len], fun j e q => ?_⟩
  by_cases z : i = j
  · subst z
    by_cases hi : i < env.length
    · rw [List.getElem?_set_self hi] at q
      cases q
      exact ⟨v, List.getElem?_set_self (by rw [h.len]; exact hi), p⟩
    · rw [List.getElem?_eq_none (by rw [List.length_set]; omega)] at q
      cases q
  · rw [List.getElem?_set_ne z] at q ⊢
    exact h.get j e q
theorem EnvL.unset {K : PySem.W.Frag} {G : Hp} {σ : L2.St} {env : List Sl} {i : Nat} {o : Option V} (h : EnvL K G σ env) : EnvL K G (σ.set i o) (env.set i .no) := by
  refine ⟨by rw [List.length_set, List.length_set, h.len], fun j e q => ?_⟩
  by_cases z : i = j
  · subst z
    by_cases hi : i < env.length
    · rw [List.getElem?_set_self hi] at q
      cases q
    · rw [List.getElem?_eq_none (by rw [List.length_set]; omega)] at q
      cases q
  · rw [List.getElem?_set_ne z] at q ⊢
    exact h.get j e q
theorem ob_set {env : List Sl} {i j : Nat} {z : Sl} {b : Bool} {k : Nat} {fs : List D} (hz : z ≠ .ob b k fs) (q : (env.set i z)[j]? = some (.ob b k fs)) : i ≠ j ∧ env[j]? = some (.ob b k fs) := by
  by_cases e : i = j
  · subst e
    by_cases hi : i < env.length
    · rw [List.getElem?_set_self hi] at q
      exact (hz (Option.some.inj q)).elim
    · rw [List.getElem?_eq_none (by rw [List.length_set]; omega)] at q
      cases q
  · rw [List.getElem?_set_ne e] at q
    exact ⟨e, q⟩
theorem EnvR.set {K : PySem.W.Frag} {G : Hp} {σ : L2.St} {env : List Sl} {i : Nat} {v : V} {d : D} (h : EnvR K G σ env) (p : Dp K G v d) : EnvR K G (σ.set i (some v)) (env.set i (.fr d)) :=
  ⟨h.toEnvL.set p, fun j b k fs q => by
    obtain ⟨n, q⟩ := ob_set (by intro z; cases z) q
    rw [List.getElem?_set_ne n]
    exact h.ob j b k fs q⟩
theorem EnvR.unset {K : PySem.W.Frag} {G : Hp} {σ : L2.St} {env : List Sl} {i : Nat} {o : Option V} (h : EnvR K G σ env) : EnvR K G (σ.set i o) (env.set i .no) :=
  ⟨h.toEnvL.unset, fun j b k fs q => by
    obtain ⟨n, q⟩ := ob_set (by intro z; cases z) q
    rw [List.getElem?_set_ne n]
    exact h.ob j b k fs q⟩
theorem EnvR.wipe {K : PySem.W.Frag} {G : Hp} {σ : L2.St} {env : List Sl} (h : EnvR K G σ env) : ∀ l : List Nat, EnvR K G (L2.wipe σ l) (wipeE env l)
  | [] => h
  | _ :: l => (EnvR.wipe h l).unset

/-! ### readings -/
/-- what is wanted behind something that comes to r -/
def Rs (K : PySem.W.Frag) (B : Str → Hp → Prop) (H G : Hp) (Q : VK) : R D → Prop
  | .ok d => ∀ v H' G', Ext H G H' G' → Dp K G' v d → Q v H'
  | .exc c => ∀ H' G', Ext H G H' G' → B c H'
  | .bad => False
def RsA (K : PySem.W.Frag) (B : Str → Hp → Prop) (H G : Hp) (Q : List V → Hp → Prop) : R (List D) → Prop
  | .ok d => ∀ v H' G', Ext H G H' G' → DpAll K G' v d → Q v H'
  | .exc c => ∀ H' G', Ext H G H' G' → B c H'
  | .bad => False
def RsT (B : Str → Hp → Prop) (H G : Hp) (Q : Bool → Hp → Prop) : R D → Prop
  | .ok (.bool b) => ∀ H' G', Ext H G H' G' → Q b H'
  | .ok _ => False
  | .exc c => ∀ H' G', Ext H G H' G' → B c H'
  | .bad => False
theorem Rs.step {K : PySem.W.Frag} {B : Str → Hp → Prop} {H G H1 G1 : Hp} {Q : VK} {r : R D} (h : Rs K B H G Q r) (e : Ext H G H1 G1) : Rs K B H1 G1 Q r := by
  cases r with
  | ok d => exact fun v H' G' x p => h v H' G' (e.trans x) p
  | exc c => exact fun H' G' x => h H' G' (e.trans x)
  | bad => exact h
theorem RsA.step {K : PySem.W.Frag} {B : Str → Hp → Prop} {H G H1 G1 : Hp} {Q : List V → Hp → Prop} {r : R (List D)} (h : RsA K B H G Q r) (e : Ext H G H1 G1) : RsA K B H1 G1 Q r := by
  cases r with
  | ok d => exact fun v H' G' x p => h v H' G' (e.trans x) p
  | exc c => exact fun H' G' x => h H' G' (e.trans x)
  | bad => exact h
theorem RsT.step {B : Str → Hp → Prop} {H G H1 G1 : Hp} {Q : Bool → Hp → Prop} {r : R D} (h : RsT B H G Q r) (e : Ext H G H1 G1) : RsT B H1 G1 Q r := by
  cases r with
  | ok d => cases d with
    | bool b => exact fun H' G' x => h H' G' (e.trans x)
    | _ => exact h.elim
  | exc c => exact fun H' G' x => h H' G' (e.trans x)
  | bad => exact h
theorem Rs.now {K : PySem.W.Frag} {B : Str → Hp → Prop} {H G : Hp} {Q : VK} {d : D} {v : V} (h : Rs K B H G Q (.ok d)) (s : Same G H) (p : Dp K G v d) : Q v H := h v H G (Ext.refl s) p
theorem Rs.new {K : PySem.W.Frag} {B : Str → Hp → Prop} {H G : Hp} {Q : VK} {d : D} {p : Addr} {o : HO} (h : Rs K B H G Q (.ok d)) (s : Same G H) (hp : H p = none) (q : Dp K (upd G p o) (.ref p) d) : Q (.ref p) (upd H p o) := h (.ref p) _ _ (Ext.new s hp) q
/-- where an exception of the class named c goes -/
abbrev BX (ca : Str → Value) (W : WX) (σ : L2.St) : Str → Hp → Prop := fun c H => W (ca c) none σ H
def rdE (K : PySem.W.Frag) (ca : Str → Value) (W : WX) (r : List Sl → R D) : TE := fun σ H Q => ∃ env G, Same G H ∧ EnvR K G σ env ∧ Rs K (BX ca W σ) H G Q (r env)
def rdA (K : PySem.W.Frag) (ca : Str → Value) (W : WX) (r : List Sl → R (List D)) : TA := fun σ H Q => ∃ env G, Same G H ∧ EnvR K G σ env ∧ RsA K (BX ca W σ) H G Q (r env)
def rdT (K : PySem.W.Frag) (ca : Str → Value) (W : WX) (r : List Sl → R D) : TT := fun σ H Q => ∃ env G, Same G H ∧ EnvR K G σ env ∧ RsT (BX ca W σ) H G Q (r env)

theorem PE.imp {X : Cx} {e : Expr} {t t' : TE} (h : PE X e t) (i : ∀ σ H Q, t' σ H Q → t σ H Q) : PE X e t' := ⟨fun pins s σ H Q I q => h.run pins s σ H Q I (i _ _ _ q)⟩
theorem PT.imp {X : Cx} {e : Expr} {t t' : TT} (h : PT X e t) (i : ∀ σ H Q, t' σ H Q → t σ H Q) : PT X e t' := ⟨fun pins s σ H Q I q => h.run pins s σ H Q I (i _ _ _ q)⟩
theorem PW.imp {X : Cx} {e : Expr} {t t' : TT} (h : PW X e t) (i : ∀ σ H Q, t' σ H Q → t σ H Q) : PW X e t' := ⟨fun w pins s σ H Q I q => h.run w pins s σ H Q I (i _ _ _ q)⟩
theorem PA.imp {X : Cx} {e : List Expr} {t t' : TA} (h : PA X e t) (i : ∀ σ H Q, t' σ H Q → t σ H Q) : PA X e t' := ⟨fun p pins s σ H Q I q => h.run p pins s σ H Q I (i _ _ _ q)⟩

section
variable {K : PySem.W.Frag} {ca : Str → Value} {W : WX}
/-- one part behind another one -/
theorem Rs.bind {B : Str → Hp → Prop} {H G : Hp} {Q : VK} {N : V → Hp → Prop} {r : R D} {f : D → R D} (h : Rs K B H G Q (r.bind f))
    (n : ∀ x v H1 G1, r = .ok x → Ext H G H1 G1 → Dp K G1 v x → Rs K B H1 G1 Q (f x) → N v H1) : Rs K B H G N r := by
  cases r with
  | ok x => exact fun v H1 G1 e p => n x v H1 G1 rfl e p (Rs.step h e)
  | exc c => exact h
  | bad => exact h
theorem RsT.bind {B : Str → Hp → Prop} {H G : Hp} {Q : Bool → Hp → Prop} {N : V → Hp → Prop} {r : R D} {f : D → R D} (h : RsT B H G Q (r.bind f))
    (n : ∀ x v H1 G1, r = .ok x → Ext H G H1 G1 → Dp K G1 v x → RsT B H1 G1 Q (f x) → N v H1) : Rs K B H G N r := by
  cases r with
  | ok x => exact fun v H1 G1 e p => n x v H1 G1 rfl e p (RsT.step h e)
  | exc c => exact h
  | bad => exact h
theorem RsA.bind {B : Str → Hp → Prop} {H G : Hp} {Q : VK} {N : List V → Hp → Prop} {r : R (List D)} {f : List D → R D} (h : Rs K B H G Q (r.bind f))
    (n : ∀ x v H1 G1, r = .ok x → Ext H G H1 G1 → DpAll K G1 v x → Rs K B H1 G1 Q (f x) → N v H1) : RsA K B H G N r := by
  cases r with
  | ok x => exact fun v H1 G1 e p => n x v H1 G1 rfl e p (Rs.step h e)
  | exc c => exact h
  | bad => exact h
theorem RsT.bindA {B : Str → Hp → Prop} {H G : Hp} {Q : Bool → Hp → Prop} {N : List V → Hp → Prop} {r : R (List D)} {f : List D → R D} (h : RsT B H G Q (r.bind f))
    (n : ∀ x v H1 G1, r = .ok x → Ext H G H1 G1 → DpAll K G1 v x → RsT B H1 G1 Q (f x) → N v H1) : RsA K B H G N r := by
  cases r with
  | ok x => exact fun v H1 G1 e p => n x v H1 G1 rfl e p (RsT.step h e)
  | exc c => exact h
  | bad => exact h
/-- a truth ahead -/
theorem Rs.bindT {B : Str → Hp → Prop} {H G : Hp} {Q : VK} {N : Bool → Hp → Prop} {r : R D} {f : D → R D} (h : Rs K B H G Q (r.bind f)) (nb : ∀ d, (∀ b, d ≠ .bool b) → f d = .bad)
    (n : ∀ b H1 G1, r = .ok (.bool b) → Ext H G H1 G1 → Rs K B H1 G1 Q (f (.bool b)) → N b H1) : RsT B H G N r := by
  cases r with
  | ok x =>
    have h0 : Rs K B H G Q (f x) := h
    have key : (∀ b, x ≠ .bool b) → False := fun q => by rw [nb x q] at h0; exact h0
    cases x with
    | bool b => exact fun H1 G1 e => n b H1 G1 rfl e (Rs.step h0 e)
    | _ => exact (key fun _ q => nomatch q).elim
  | exc c => exact h
  | bad => exact h
theorem RsT.bindT {B : Str → Hp → Prop} {H G : Hp} {Q : Bool → Hp → Prop} {N : Bool → Hp → Prop} {r : R D} {f : D → R D} (h : RsT B H G Q (r.bind f)) (nb : ∀ d, (∀ b, d ≠ .bool b) → f d = .bad)
    (n : ∀ b H1 G1, r = .ok (.bool b) → Ext H G H1 G1 → RsT B H1 G1 Q (f (.bool b)) → N b H1) : RsT B H G N r := by
  cases r with
  | ok x =>
    have h0 : RsT B H G Q (f x) := h
    have key : (∀ b, x ≠ .bool b) → False := fun q => by rw [nb x q] at h0; exact h0
    cases x with
    | bool b => exact fun H1 G1 e => n b H1 G1 rfl e (RsT.step h0 e)
    | _ => exact (key fun _ q => nomatch q).elim
  | exc c => exact h
  | bad => exact h
end
end Cw

set_option Elab.async false
set_option linter.all false
set_option maxRecDepth 100000
set_option maxHeartbeats 4000000
namespace Cw
open PySem PySem.Spec PyProof.Rows L2

/-! ### rules of the machine that are wanted wider -/
section
variable {X : Cx}
def rCatL (K : PySem.W.Frag) : R2 := fun x y H Q => ∃ l b xs zs, x = .ref l ∧ y = .ref b ∧ SqL K H l xs ∧ SqL K H b zs ∧ xs.length + zs.length ≤ sizeLine ∧ ∀ p, H p = none → Q (.ref p) (upd H p (.lst (xs ++ zs)))
theorem op_catL : OpR X (binaryOp .Add) (rCatL X.K) := by
  intro pins s σ H x y v u Q I rx ry h
  obtain ⟨l, b, xs, zs, rfl, rfl, hH, hB, hz, q⟩ := h
  cases rx
  cases ry
  obtain ⟨its, r, p1, z1⟩ := I.list hH
  obtain ⟨its2, r2, p2, z2⟩ := I.list hB
  obtain ⟨⟨cls, dd, data, sl⟩, n, ho, hc, _, hd⟩ := p1
  obtain ⟨⟨cls2, dd2, data2, sl2⟩, n2, ho2, hc2, _, hd2⟩ := p2
  simp only at hc hd hc2 hd2
  subst hc hd hc2 hd2
  have e1 := r.length
  have e2 := r2.length
  refine concat_meets ⟨_, ho, rfl⟩ ⟨_, ho2, rfl⟩ noFill_list_add seq_list_add PySem.F.slot_list_add PySem.F.entry_list_add (PySem.F.args_list_add_2 _ _)
    (list_addW l b its.toArray its2.toArray n n2 dd dd2 sl sl2 (by rw [List.size_toArray, List.size_toArray]; omega)) ⟨ho, ho2, ?_⟩
  have ea : its.toArray ++ its2.toArray = (its ++ its2).toArray := by simp
  rw [ea]
  exact ⟨.ref _, _, I.lnew (t' := s.toks) (r.append r2) (by rw [List.length_append]; omega), rfl, q _ I.fresh⟩
/-- () + t is t -/
def rCat0 (K : PySem.W.Frag) : R2 := fun x y H Q => ∃ a b ys, x = .ref a ∧ y = .ref b ∧ SqT K H a [] ∧ SqT K H b ys ∧ Q (.ref b) H
theorem op_cat0 : OpR X (binaryOp .Add) (rCat0 X.K) := by
  intro pins s σ H x y v u Q I rx ry h
  obtain ⟨a, b, ys, rfl, rfl, ha, hb, q⟩ := h
  cases rx
  cases ry
  obtain ⟨its, r1, p1, _⟩ := I.tuple ha
  obtain ⟨its2, r2, p2, _⟩ := I.tuple hb
  cases r1
  obtain ⟨⟨cls, dd, data, sl⟩, ho, hc, n, hd⟩ := id p1
  obtain ⟨⟨cls2, dd2, data2, sl2⟩, ho2, hc2, n2, hd2⟩ := id p2
  simp only at hc hd hc2 hd2
  subst hc hd hc2 hd2
  exact concat_meets ⟨_, ho, rfl⟩ ⟨_, ho2, rfl⟩ noFill_tuple_add seq_tuple_add PySem.F.slot_tuple_add PySem.F.entry_tuple_add (PySem.F.args_tuple_add_2 _ _)
    (tuple_addW0 a b _ its2.toArray n n2 dd dd2 sl sl2 (by simp)) ⟨ho, ho2, ⟨.ref b, H, I, rfl, q⟩⟩
/-- x.extend(list of any standing) -/
def rExtL (K : PySem.W.Frag) : V → List V → Hp → VK → Prop := fun x vs H Q => ∃ l b xs zs, x = .ref l ∧ vs = [.ref b] ∧ H l = some (.lst xs) ∧ H b = some (.lst zs) ∧ xs.length + zs.length ≤ sizeLine ∧ Q .non (upd H l (.lst (xs ++ zs)))

/-- what a division asks: room for the long one, nobody who looks on -/
structure Pyl (X : Cx) : Prop where
  room : X.A.depth + Builtin.pylongFrames < recursionLimit
  seer : X.base.NoSeer
  tree : X.prog.given.tree = none
  top : ∃ env l, X.stack = env :: l ∧ env.scope.isGenerator = false ∧ env.scope.isCoroutine = false ∧ env.builtins = builtinsNs ∧ env.globals = mainGlobals
theorem op_fdivA (h : Pyl X) : OpR X (binaryOp .FloorDiv) (rI (fun _ j => j ≠ 0) fun i j => .int (i.fdiv j)) := by
  intro pins s σ H x y v u Q I rx ry q
  obtain ⟨i, j, rfl, rfl, hc, q⟩ := q
  obtain ⟨t, rfl⟩ := rx
  obtain ⟨t', rfl⟩ := ry
  obtain ⟨env, l, e1, e2, e3, e4, e5⟩ := h.top
  refine floordiv_int hc ⟨.int _, H, I.tok _, ⟨_, rfl⟩, q⟩ (.inr (PylongRoom.of I.nolimit h.room ?_))
  exact SeerAt.of (h.seer.keeps I.bk) h.tree (by rw [I.ok.frames, e1]) e2 e3 e4 e5
theorem op_mulA : OpR X (binaryOp .Mult) (rI MulOk fun i j => .int (i * j)) := opI fun _ _ _ _ _ _ _ hc q => mul_int q hc
/-- a list of any standing times an int -/
def rRepL (K : PySem.W.Frag) : R2 := fun x y H Q => ∃ l k xs, x = .ref l ∧ y = .int k ∧ SqL K H l xs ∧ 0 ≤ k ∧ k ≤ 1000 ∧ xs.length ≤ 1000 ∧ ∀ p, H p = none → Q (.ref p) (upd H p (.lst (List.replicate k.toNat xs).flatten))
theorem op_repL : OpR X (binaryOp .Mult) (rRepL X.K) := by
  intro pins s σ H x y v u Q I rx ry h
  obtain ⟨l, k, xs, rfl, rfl, hH, h1, h2, hz, q⟩ := h
  cases rx
  obtain ⟨t, rfl⟩ := ry
  obtain ⟨its, r, p1, z1⟩ := I.list hH
  obtain ⟨⟨cls, dd, data, sl⟩, n, ho, hc, _, hd⟩ := p1
  simp only at hc hd
  subst hc hd
  have hl : its.length = xs.length := r.length.symm
  have hm : its.toArray.size * k.toNat ≤ 1000000 := by
    rw [List.size_toArray, hl]
    exact Nat.le_trans (Nat.mul_le_mul hz (show k.toNat ≤ 1000 by omega)) (by decide)
  refine wpAny_binaryOp_repeat_ref (T := "list") (U := "int") (by decide) ⟨_, ho, rfl⟩ (fun s' => typeIs_int s' k t) noFill_list_mul PySem.F.fills_int_mul PySem.F.slot_int_rmul repeat_list PySem.F.slot_int_index.lookup
    (call_meets PySem.F.slot_int_rmul (typeIs_int s k t) PySem.F.entry_int_rmul (PySem.F.args_int_rmul_2 _ _) (lm_int_rmul_list_any k t l its.toArray n dd sl)
      ⟨ho, rfl, ⟨_, ho, rfl⟩, call_meets PySem.F.slot_list_mul ⟨_, ho, rfl⟩ PySem.F.entry_list_mul (PySem.F.args_list_mul_2 _ _)
        (lm_list_mul_any l its.toArray n dd sl k t (by simp [Builtin.List.listFitsIndex]; omega) (by omega) (by simp only [Builtin.List.listTooLong, sizeLine_eq]; simp; simp at hm; omega))
        ⟨ho, ?_⟩⟩)
  rw [listMul_foldl_if]
  refine ⟨.ref _, _, I.lnew (t' := s.toks) (r.rep k.toNat) ?_, rfl, q _ I.fresh⟩
  rw [PyProof.Rows.lm_len_rep_flat, sizeLine_eq]
  exact Nat.le_trans (Nat.mul_le_mul (show k.toNat ≤ 1000 by omega) hz) (by decide)
end
end Cw

set_option Elab.async false
set_option linter.all false
set_option maxRecDepth 100000
set_option maxHeartbeats 4000000
/-! ### enumerate over a tuple -/
namespace PySem
open PySem.Sem (wp)
open AutoSeq1 (wpAny_loadPart')
theorem cw_drawsT {prog : Program} {w : World} {A : Around} (hh : A.handled = none) (it l : Addr) (hne : l ≠ it) (items : Array Value) :
    Draws prog w A it [it, l] items.size (fun i v => items[i]? = some v) (fun i h => h.IsTupleIter it l i ∧ h.IsTuple l items) where
  live := fun _ _ st => let ⟨o, ho, _⟩ := st.1; ⟨o, ho⟩
  frame := fun _ _ _ st hk => ⟨st.1.at fun o e => hk it (by simp) o e, by
    obtain ⟨o, ho, r⟩ := st.2
    exact ⟨o, hk l (by simp) o ho, r⟩⟩
  item := fun i s Q E hi st hQ => by
    refine RZ.nextOf_tuple_item st.1 st.2 (x := items[i]) (by simp [hi]) fun h' hit' hs' => ?_
    refine hQ _ h' s.toks (by simp [hi]) ⟨hit', ?_⟩ hs'
    obtain ⟨o, ho, r⟩ := st.2
    exact ⟨o, hs'.extBut l o hne ho, r⟩
  done := fun s Q E st hE => RZ.nextOf_tuple_end hh st.1 st.2 (by simp) hE
theorem cw_drawsE {prog : Program} {w : World} {A : Around} (hh : A.handled = none) (it l : Addr) (items : Array Value) (n : Nat) (hn : items[n]? = none) :
    Draws prog w A it [it, l] n (fun _ _ => False) (fun i h => i = n ∧ h.IsTupleIter it l i ∧ h.IsTuple l items) where
  live := fun _ _ st => let ⟨o, ho, _⟩ := st.2.1; ⟨o, ho⟩
  frame := fun _ _ _ st hk => ⟨st.1, st.2.1.at fun o e => hk it (by simp) o e, by
    obtain ⟨o, ho, r⟩ := st.2.2
    exact ⟨o, hk l (by simp) o ho, r⟩⟩
  item := fun i s Q E hi st hQ => absurd st.1 (Nat.ne_of_lt hi)
  done := fun s Q E st hE => RZ.nextOf_tuple_end hh st.2.1 st.2.2 hn hE
theorem cw_enumNewT (l : Addr) (items : Array Value) (n : Nat) (dct : Option Addr) (sl : Array (Option Value)) :
    Meets (Builtin.«enumerate.__new__» ⟨[.type "enumerate", .ref l], []⟩) (fun _ R s => s.heap.get? l = some { cls := .type "tuple", dict := dct, data := .seq items n, slots := sl } ∧
      R (.ok (.ret (.ref (s.heap.push { cls := .type "tuple_iterator", data := .fields #[.ref l, .int 0 0] }).objs.size)))
        { s with heap := (s.heap.push { cls := .type "tuple_iterator", data := .fields #[.ref l, .int 0 0] }).push { cls := .type "enumerate", data := .fields #[.none, .bool false, .ref s.heap.objs.size, rawInt 0, .none, .none] } }) :=
  .of_wp fun prog w A R s h => by
    obtain ⟨hp, g, d, tk, os⟩ := s; obtain ⟨hl, h⟩ := h
    have hsub := sub_enumerate
    have hL : Heap.IsTuple (Shared.heap ⟨hp, g, d, tk, os⟩) l items := ⟨_, hl, rfl, n, rfl⟩
    wp_walk using wpAny_loadPart' hl
    refine wpAny_stack_any fun st => wpAny_pure ?_
    split
    · rename_i c _ _ _ _ _
      cases (c == Value.type "enumerate")
      · wp_walk using wpAny_loadPart' hl, wpAny_pyIter_tuple hL
        exact ⟨_, rfl, h⟩
      · wp_walk using wpAny_loadPart' hl, wpAny_pyIter_tuple hL
        exact ⟨_, rfl, h⟩
    · wp_walk using wpAny_loadPart' hl, wpAny_pyIter_tuple hL
      exact ⟨_, rfl, h⟩
theorem cw_callEnumT {prog : Program} {w : World} {A : Around} {E : Value → Shared → Prop} {s : Shared} {l : Addr} {items : Array Value} {Q : Value → Shared → Prop} (hL : s.heap.IsTuple l items)
    (h : ∀ h', IsEnum h' (s.heap.objs.size + 1) s.heap.objs.size 0 .none → h'.IsTupleIter s.heap.objs.size l 0 → h'.objs.size = s.heap.objs.size + 2 →
      (∀ b o, s.heap.get? b = some o → h'.get? b = some o) → Q (.ref (s.heap.objs.size + 1)) { s with heap := h' }) :
    wpAny (model prog w) A (call (.type "enumerate") [.ref l]) Q E s := by
  obtain ⟨⟨c, dct, dt, sl⟩, hl, hc, n, hd⟩ := hL
  replace hc : c = .type "tuple" := hc
  replace hd : dt = .seq items n := hd
  subst hc hd
  refine callType_new F.called_enumerate (by decide) (F.typeCall_enumerate_1 _) (F.newCall_enumerate_1 _) (fun obj => F.args_object_init_2 obj _) F.entry_enumerate_new
    (cw_enumNewT l items n dct sl) ⟨hl, ?_⟩
  have hz : (s.heap.push { cls := .type "tuple_iterator", data := .fields #[.ref l, .int 0 0] }).objs.size = s.heap.objs.size + 1 := Heap.size_push ..
  show _ ∧ _
  rw [hz]
  have he : IsEnum ((s.heap.push { cls := .type "tuple_iterator", data := .fields #[.ref l, .int 0 0] }).push
      { cls := .type "enumerate", data := .fields #[.none, .bool false, .ref s.heap.objs.size, rawInt 0, .none, .none] }) (s.heap.objs.size + 1) s.heap.objs.size 0 .none := by
    have := Heap.get?_push_size (s.heap.push { cls := .type "tuple_iterator", data := .fields #[.ref l, .int 0 0] })
      (o := { cls := .type "enumerate", data := .fields #[.none, .bool false, .ref s.heap.objs.size, rawInt 0, .none, .none] }) rfl
    rw [hz] at this; exact this
  refine ⟨⟨_, he, rfl⟩, h _ he ⟨_, Heap.get?_push_of_some _ (Heap.get?_push_size _ rfl), rfl, rfl⟩ (by rw [Heap.size_push, hz]) fun b o x => Heap.get?_push_of_some _ (Heap.get?_push_of_some _ x)⟩
end PySem
namespace Cw
open PySem PySem.Spec PyProof.Rows L2
def IteT (K : PySem.W.Frag) (a : Addr) : L2.It :=
  ⟨fun i H => ∃ (xs : List V) (x : V), SqT K H a xs ∧ xs[i]? = some x, fun i H v H' => ∃ T x, v = .ref T ∧ H T = none ∧ H' = upd H T (.tup [.int (i : Nat), x]) ∧ ∀ xs, SqT K H a xs → xs[i]? = some x, fun i H => ∃ xs : List V, SqT K H a xs ∧ xs.length ≤ i⟩
theorem turn_enumT {P : Program} {w : World} {K : PySem.W.Frag} {elts : List Expr} {kk : Nat} {tpos : Pos} (a e it : Addr) (hae : a ≠ e) (hai : a ≠ it) :
    Turn P w K (.Tuple elts kk tpos) (IteT K a) [e, it] e (fun i h => (∃ old, IsEnum h e it ((i : Nat) : Int) old) ∧ h.IsTupleIter it a i ∧ e ≠ it) where
  mem := by simp
  obj := fun i h st b hb => by
    obtain ⟨⟨old, he⟩, ⟨o, ho, hc, hd⟩, _⟩ := st
    have e' : b = e ∨ b = it := by simpa using hb
    rcases e' with z | z
    · rw [z]; exact ⟨_, he, fun v q => nomatch q⟩
    · rw [z]; exact ⟨o, ho, fun v q => by rw [hd] at q; cases q⟩
  keep := fun i h h' st k => let ⟨⟨old, he⟩, hi, hne⟩ := st; ⟨⟨old, k e (by simp) _ he⟩, hi.at fun o q => k it (by simp) o q, hne⟩
  item := by
    intro X hP hw hK hc i pins s σ H E I hf st hg
    subst hP hw hK
    obtain ⟨⟨old, he⟩, hit, hne⟩ := st
    obtain ⟨xs, x, hq, hx⟩ := hg
    obtain ⟨its, rv, p, hz⟩ := I.tuple hq
    obtain ⟨u, hu, ru⟩ := rv.get hx
    have hel : e < s.heap.objs.size := Heap.lt_size he
    have hil : it < s.heap.objs.size := by obtain ⟨_, q, _⟩ := hit; exact Heap.lt_size q
    have hlt : i < its.toArray.size := by
      have := List.getElem?_eq_some_iff.mp hu
      obtain ⟨h1, _⟩ := this
      simpa using h1
    refine wpAny_pyNext_enum_itemD (cw_drawsT (A := X.A.in1) (show X.A.in1.handled = none from I.ok.hd hc) it a hai its.toArray) he ⟨hit, p⟩ hlt hne (by simp [hne, Ne.symm hae]) fun x' h' tk hPx ho hit' hT hsz hk => ?_
    have ex : x' = u := by
      have h1 : its.toArray[i]? = some u := by simpa using hu
      rw [h1] at hPx
      exact (Option.some.inj hPx).symm
    subst ex
    refine ⟨_, rfl, wpAny_letOwnedTupleGo_enum (s := { s with heap := h', toks := tk + 1 }) ho fun h'' he' sb => ?_⟩
    have hT2 : h''.get? s.heap.objs.size = some { cls := .type "tuple", data := .seq #[.int i tk, x'] } := (sb.2 _ (Nat.ne_of_gt hel)).trans hT
    have new : ObjOk X.prog X.w (upd H s.heap.objs.size (.tup [.int (i : Nat), x])) h'' s.heap.objs.size (.tup [.int (i : Nat), x]) :=
      ⟨by show 2 ≤ sizeLine; decide, [.int i tk, x'], .cons ⟨_, rfl⟩ (.cons ru .nil), ⟨_, hT2, rfl, _, rfl⟩⟩
    have I1 : Inv X pins σ (upd H s.heap.objs.size (.tup [.int (i : Nat), x])) { s with heap := h'', toks := tk + 1 } :=
      I.turnedNew (ch := [e, it]) (fun b ob hb q => (sb.2 b (fun z => hb (by simp [z]))).trans (hk b ob (fun z => hb (by simp [z])) (fun z => hb (by simp [z])) q)) hf (Nat.le_refl _) new
    refine ⟨.ref s.heap.objs.size, _, I1, rfl, ⟨_, x, rfl, I.hok.fresh (Nat.le_refl _), rfl, fun ys hy => by rw [I.tuple_inj hy hq]; exact hx⟩, ⟨⟨x', ?_⟩, hit'.1.at fun o q => (sb.2 it (Ne.symm hne)).trans q, hne⟩, fun b hb => ?_⟩
    · have e1 : ((i + 1 : Nat) : Int) = (i : Int) + 1 := by omega
      rw [e1]; exact he'
    · have hb' : b < s.heap.objs.size := by
        have e' : b = e ∨ b = it := by simpa using hb
        rcases e' with z | z
        · rw [z]; exact hel
        · rw [z]; exact hil
      rw [upd_ne (Nat.ne_of_lt hb')]
      exact (hf b hb).1
  done := by
    intro X hP hw hK hc i pins s σ H E I hf st hg
    subst hP hw hK
    obtain ⟨⟨old, he⟩, hit, hne⟩ := st
    obtain ⟨xs, hq, hx⟩ := hg
    obtain ⟨its, rv, p, hz⟩ := I.tuple hq
    obtain ⟨f0, f1, f2, f3, f4, f5⟩ := hf it (by simp)
    have hl := rv.length
    exact wpAny_pyNext_enum_endD (cw_drawsE (A := X.A.in1) (show X.A.in1.handled = none from I.ok.hd hc) it a its.toArray i (by simp; omega)) he ⟨rfl, hit, p⟩ fun h' eb => ⟨rfl, I.turned (t' := s.toks) (fun b o hb q => eb b o hb q) f0 f1 f3 f4 f5⟩
  self := fun A i s Q E st h => let ⟨⟨_, he⟩, _⟩ := st; wpAny_pyIter_enum he h
def iEnumA (K : PySem.W.Frag) (ta : TA) : TI := fun σ H R => ta σ H fun vs H1 => ∃ a xs, vs = [.ref a] ∧ ((SqL K H1 a xs ∧ R (Ite K a) H1) ∨ (SqT K H1 a xs ∧ R (IteT K a) H1))
theorem pi_enumA {X : Cx} {e : Expr} {ta : TA} {p pos tpos : Pos} {elts : List Expr} {kk : Nat} (hg : Gl X "enumerate") (hm : X.mg "enumerate" = none) (ha : PA X [e] ta) (hs : starEach [e] X.env = [(false, eval e X.env)] := by rfl) :
    PI X (.Tuple elts kk tpos) (.Call (.Name "enumerate" p) [e] [] pos) (iEnumA X.K ta) := by
  refine ⟨fun pins s σ H R I h => ?_⟩
  refine Call_ (ld_blt I hg hm boot_enumerate (PyProof.Rows.callWith_type1 (thn (ha.run pos pins s σ H _ I h) fun us s1 ⟨vs, H1, I1, r1, q1⟩ => ?_) hs rfl))
  obtain ⟨a, xs, ex, q1⟩ := q1
  subst ex
  cases r1 with
  | cons r rr =>
    cases rr
    cases r
    rcases q1 with ⟨hq, q⟩ | ⟨hq, q⟩
    · obtain ⟨its, rv, p', hz⟩ := I1.list hq
      refine call_enumerate_list p'.isList fun h' he hit hsz hk => wpAny_pyIter_enum he ?_
      have I2 : Inv X pins σ H1 { s1 with heap := h' } := I1.kept (t' := s1.toks) hk
      refine ⟨s1.heap.objs.size + 1, [s1.heap.objs.size + 1, s1.heap.objs.size], _, _, H1, rfl, I2, turn_enum a (s1.heap.objs.size + 1) s1.heap.objs.size, ⟨⟨.none, he⟩, hit, Nat.succ_ne_self _⟩, fun b hb => ?_, q⟩
      have e' : b = s1.heap.objs.size + 1 ∨ b = s1.heap.objs.size := by simpa using hb
      have hle : s1.heap.objs.size ≤ b := by
        rcases e' with z | z
        · rw [z]; exact Nat.le_add_right _ _
        · rw [z]; exact Nat.le_refl _
      exact I1.fpOk hle (I1.hok.fresh hle)
    · obtain ⟨its, rv, p', hz⟩ := I1.tuple hq
      obtain ⟨ot, hot, _⟩ := id p'
      have hlt : a < s1.heap.objs.size := Heap.lt_size hot
      refine cw_callEnumT (show s1.heap.IsTuple a its.toArray from p') fun h' he hit hsz hk => wpAny_pyIter_enum he ?_
      have I2 : Inv X pins σ H1 { s1 with heap := h' } := I1.kept (t' := s1.toks) hk
      refine ⟨s1.heap.objs.size + 1, [s1.heap.objs.size + 1, s1.heap.objs.size], _, _, H1, rfl, I2, turn_enumT a (s1.heap.objs.size + 1) s1.heap.objs.size (Nat.ne_of_lt (Nat.lt_succ_of_lt hlt)) (Nat.ne_of_lt hlt), ⟨⟨.none, he⟩, hit, Nat.succ_ne_self _⟩, fun b hb => ?_, q⟩
      have e' : b = s1.heap.objs.size + 1 ∨ b = s1.heap.objs.size := by simpa using hb
      have hle : s1.heap.objs.size ≤ b := by
        rcases e' with z | z
        · rw [z]; exact Nat.le_add_right _ _
        · rw [z]; exact Nat.le_refl _
      exact I1.fpOk hle (I1.hok.fresh hle)
end Cw

set_option Elab.async false
set_option linter.all false
set_option maxRecDepth 100000
set_option maxHeartbeats 4000000
/-! A comprehension whose element may let an exception out. -/
namespace Cw
open PySem PySem.Spec PyProof.Rows L2

section
variable {M : Model} {A : Around} {E : Value → Shared → Prop} {s : Shared} {Z : Obj → Prop} {B : Heap} {env : Env} {l : List Env} {L a : Addr}
theorem note_eq {u : Value} {c d : Env} (h : c.frame = d.frame) : noteFrame u c = noteFrame u d := by
  unfold noteFrame PySem.frameOf
  rw [h]
/-- noted by a frame that has not noted it yet -/
theorem note_other {fl : Value} {Q : Unit → Shared → Prop} (st : PXN.Steady1 Z) (af : A.frames = some (env :: l)) (ef : env.frame = some L) (ne : (fl == rawInt L) = false) (b1 : B.StaysIn s.heap) (b2 : B.get? a = none) (b3 : s.heap.FunFrames B (env :: l)) (tr : HandSPX.TracedZ s.heap B a Z fl)
    (q : ∀ g, HandSPX.HeldZ B (env :: l) a Z L g → s.heap.UpToSlots g → Q () { s with heap := g }) : wpAny M A (noteFrame (.ref a) env) Q E s := by
  obtain ⟨oe, vs, T, oT, ts, t1, t2, t3, t4, t5, t6, t7, t8, t9⟩ := tr
  have z1 := (Array.getElem?_eq_some_iff.mp t4).1
  have z3 := (Array.getElem?_eq_some_iff.mp t9).1
  unfold noteFrame
  simp only [ef]
  refine wpAny_bind (wpAny_field t1 t3 t4 ?_)
  rw [if_pos (by simp : (Value.ref T != Value.none) = true)]
  refine wpAny_bind (wpAny_field t7 t8 t9 ?_)
  rw [ne, if_neg Bool.false_ne_true]
  refine wpAny_bind (wpAny_setField t7 t8 z3 ?_)
  have ot : ∀ p, p ≠ T → (s.heap.update T (Obj.mapFields (·.setIfInBounds 3 Value.none))).get? p = s.heap.get? p := fun p hp => Heap.get?_update_other _ _ fun e => hp e.symm
  have nr : ∀ p o, s.heap.get? p = some o → (∀ ws, o.data ≠ .fields ws) → p ≠ T := fun p o hp hn e => by
    rw [e, t7] at hp
    cases hp
    exact hn ts t8
  refine PXN.wpAny_entryZ st af (b3.of_keeps fun p o hp hn => ⟨o, (ot p (nr p o hp hn)).trans hp, rfl⟩) ef ((ot a fun e => t6 e.symm).trans t1)
    (fun p o hp => (ot p fun e => by rw [e, t5] at hp; cases hp).trans (b1 p o hp)) b2 t3 z1 t2 fun g n => ?_
  obtain ⟨n1, n2, n3, n4⟩ := n
  exact q g ⟨n1, b2, n2, n3⟩ fun p o hp hn => n4 p o ((ot p (nr p o hp hn)).trans hp) hn
/-- in the air of a block, then noted by the def's frame -/
theorem note_sky {C : Addr} {Q : Unit → Shared → Prop} (st : PXN.Steady1 Z) (af : A.frames = some (env :: l)) (ef : env.frame = some L) (ne : C ≠ L) (x : Sky B (env :: l) a Z C s.heap)
    (q : ∀ g, HandSPX.HeldZ B (env :: l) a Z L g → s.heap.UpToSlots g → Q () { s with heap := g }) : wpAny M A (noteFrame (.ref a) env) Q E s := by
  rcases x with ⟨x1, x2, x3, oe, vs, x4, x5, x6, x7⟩ | ⟨x1, x2, x3, x4⟩ | ⟨x1, x2, x3, x4⟩
  · exact PXN.look_newZ st af x3 ef x4 x1 x2 x6 x7 x5 q
  · exact note_other st af ef (by simp [rawInt]) x1 x2 x3 x4 q
  · refine note_other st af ef ?_ x1 x2 x3 x4 q
    cases e : (rawInt C == rawInt L) with
    | false => rfl
    | true =>
      exfalso
      apply ne
      have := eq_of_beq e
      unfold rawInt at this
      injection this with h1
      first | exact h1 | exact_mod_cast h1 | (injection h1)
end

section
variable {M : Model} {A : Around} {E : Value → Shared → Prop} {s : Shared} {env : Env}
/-- what is asked behind the block of a comprehension -/
def postX (M : Model) (A : Around) (E : Value → Shared → Prop) (use : Option (Value → Sem Unit)) (Q : Value → Shared → Prop) (acc : Value) (c : Env) (r : Result) (t : Shared) : Prop :=
  match r, use with
  | .ok _, none => ∃ m, t.heap.Ns c.locals m ∧ ∀ g, Heap.SameBut c.locals t.heap g → Q acc { t with heap := g }
  | .ok _, some u => wpAny M A (u acc) (fun _ t2 => ∃ m, t2.heap.Ns c.locals m ∧ ∀ g, Heap.SameBut c.locals t2.heap g → Q .none { t2 with heap := g }) E t
  | .error x, _ => ∃ m, t.heap.Ns c.locals m ∧ ∀ g, Heap.SameBut c.locals t.heap g → wpAny M A (passOn "comprehension.variables-let-go" x c : Sem Value) (fun _ _ => False) E { t with heap := g }
theorem comp_any {e : Expr} {scope : Scope} {pos : Pos} {na fi : Sem Value} {g : Comprehension} {gs : List Comprehension} {cl : List (Str × Addr)} {use : Option (Value → Sem Unit)} {Q : Value → Shared → Prop}
    (c1 : clausesOf e = g :: gs) (c2 : ∀ x, foldedSetIterable g.iter env x = pure x) (c3 : closureFor scope env = pure cl) (c4 : scope.kind = .function) (c5 : ∀ x ∈ scope.names, x.2 = .local → scope.names.lookup x.1 = some .local)
    (h : wpAny M A fi (fun x t1 => wpAny M A (pyIter x) (fun it t2 => wpAny M A na (fun acc t3 => wpAny M A (newFunctionEnv scope env.globals cl [] env.qual none .none (some env)) (fun c t4 =>
      codeAny M A (.compStart e 0 it acc { c with scope := relabel scope env }) (postX M A E use Q acc { c with scope := relabel scope env }) t4) E t3) E t2) E t1) E s) :
    wpAny M A (comprehension e scope env pos na false fi use) Q E s := by
  unfold comprehension
  rw [c3, c1]
  refine wpAny_bind (wpAny_mono h (fun x t1 k1 => wpAny_bind (wpAny_standAt (wpAny_bind (wpAny_of_eq (c2 x) (wpAny_bind (wpAny_holding (wpAny_mono k1 (fun it t2 k2 => wpAny_standIf (wpAny_bind (wpAny_mono k2
    (fun acc t3 k3 => wpAny_bind (wpAny_pure (wpAny_bind (wpAny_mono k3 (fun c t4 k4 => ?_) fun _ _ y => y)))) fun _ _ y => y))) fun _ _ y => y))))))) fun _ _ y => y)
  dsimp only
  have v1 : ∀ x ∈ (scope.names.filter fun x => (x.2 == .local || x.2 == .cell) && x.1 != (".0" : Str)).reverse, x.2 = .local → Env.kindOf { c with scope := relabel scope env } x.1 = some .local :=
    fun x hx hl => lookup_relabel_local (c5 x (List.mem_filter.mp (List.mem_reverse.mp hx)).1 hl)
  have v2 : ∀ x ∈ (scope.names.filter fun x => (x.2 == .local || x.2 == .cell) && x.1 != (".0" : Str)).reverse.drop 1 ++ (scope.names.filter fun x => (x.2 == .local || x.2 == .cell) && x.1 != (".0" : Str)).reverse.take 1, x.2 = .local → Env.kindOf { c with scope := relabel scope env } x.1 = some .local :=
    fun x hx hl => (List.mem_append.mp hx).elim (fun z => v1 x (List.mem_of_mem_drop z) hl) fun z => v1 x (List.mem_of_mem_take z) hl
  refine wpAny_holding (wpAny_bind (wpAny_attempt (wpAny_holding (wpAny_run (codeAny_mono k4 fun r t kr => ?_)))))
  cases r with
  | ok f =>
    cases use with
    | none =>
      obtain ⟨m, n, q⟩ := kr
      exact wpAny_bind (wpAny_holding (wpAny_comp_letGo (cenv := { c with scope := relabel scope env }) c4 _ t m v1 n fun g _ _ sb => wpAny_pure (q g sb)))
    | some u =>
      refine wpAny_bind (wpAny_rule (wpAny_bind (wpAny_holding (wpAny_mono kr (fun _ t2 kq => ?_) fun _ _ y => y))))
      obtain ⟨m, n, q⟩ := kq
      exact wpAny_bind (wpAny_comp_letGo (cenv := { c with scope := relabel scope env }) c4 _ t2 m v2 n fun g _ _ sb => wpAny_pure (q g sb))
  | error x =>
    have kr2 : ∃ m, t.heap.Ns c.locals m ∧ ∀ g, Heap.SameBut c.locals t.heap g → wpAny M A (passOn "comprehension.variables-let-go" x { c with scope := relabel scope env } : Sem Value) (fun _ _ => False) E { t with heap := g } := by cases use <;> exact kr
    obtain ⟨m, n, q⟩ := kr2
    exact wpAny_bind (wpAny_holding (wpAny_comp_letGo (cenv := { c with scope := relabel scope env }) c4 _ t m v1 n fun g _ _ sb => wpAny_mono (q g sb) (fun _ _ f => f.elim) fun _ _ y => y))
end

/-! ### the block -/
theorem ns_up {h g : Heap} {C : Addr} {m : Str → Option Value} (u : h.UpToSlots g) (n : h.Ns C m) : g.Ns C m := by
  obtain ⟨o, es, ep, n1, n2, n3⟩ := n
  obtain ⟨sl, e⟩ := u C o n1 fun vs z => by rw [n2] at z; cases z
  exact ⟨_, es, ep, e, n2, n3⟩
theorem ff_sub {h h' B B' : Heap} (hB : ∀ b, B.get? b = none → B'.get? b = none) : ∀ {l : List Env}, (∀ b ∈ l.filterMap (·.frame), h'.get? b = h.get? b) → h.FunFrames B l → h'.FunFrames B' l
  | [], _, _ => trivial
  | c :: l, k, ⟨x1, ⟨L, o, y1, y2, y3, y4⟩, x3⟩ => by
    have m : L ∈ (c :: l).filterMap (·.frame) := List.mem_filterMap.mpr ⟨c, List.mem_cons_self, y1⟩
    refine ⟨x1, ⟨L, o, y1, hB L y2, (k L m).trans y3, y4⟩, ff_sub hB (fun b hb => k b ?_) x3⟩
    obtain ⟨e, e1, e2⟩ := List.mem_filterMap.mp hb
    exact List.mem_filterMap.mpr ⟨e, List.mem_cons_of_mem _ e1, e2⟩
abbrev blkX (X : Cx) (s : Shared) (H : Hp) (scope : Scope) (ce : Env) (fp : List Addr) (xe : Value → Shared → Prop) : Cx := { X.blk s H scope ce fp with xe := xe }
section
variable {X : Cx} {W : WX}
/-- an exception out of the block: it is in the def's air -/
theorem air_out {pins : List (Addr × Obj)} {σ : L2.St} {H3 : Hp} {s3 t : Shared} {scope : Scope} {ce : Env} {fp : List Addr} {xe : Value → Shared → Prop} {use : Option (Value → Sem Unit)} {Qf : Value → Shared → Prop} {D u : Value}
    (tk : L2N.Takes X W) (hs : X.stack = X.env :: X.outer) (hf : X.env.frame = some X.env.locals) (I3 : Inv X pins σ H3 s3) (f3 : ∀ b ∈ fp, FpOk X pins H3 b) (cL : ce.locals = s3.heap.objs.size) (cF : ce.frame = X.env.frame)
    (x : L2N.XE (blkX X s3 H3 scope ce fp xe) (fun cls d _ H => W cls d σ H) u t) : notedBy (model X.prog X.w) X.A ce (fun e t' => postX (model X.prog X.w) X.A X.xe use Qf D ce (.error e) t') u t := by
  obtain ⟨a, B, sI, pins', σ', H', cls, d, rfl, J, nb, up, sky, na, os, ag, w⟩ := x
  have af : X.A.frames = some (X.env :: X.outer) := by rw [I3.ok.frames, hs]
  have cne : ∀ b ∈ frs X.stack, b ≠ s3.heap.objs.size := fun b hb z => by
    obtain ⟨_, o, o1, _⟩ := I3.stack.mem hb
    rw [z] at o1
    exact Nat.lt_irrefl _ (Heap.lt_size o1)
  have cl : ce.locals ≠ X.env.locals := by
    rw [cL]
    exact Nat.ne_of_gt I3.lt
  obtain ⟨m, n, _⟩ := J.loc
  have n : sI.heap.Ns ce.locals m := n
  have nC : H' s3.heap.objs.size = none := by
    have z : H' ce.locals = none := J.free
    rw [cL] at z
    exact z
  have I7 : Inv X pins σ H' sI := I3.call' (ch := fp) J.os J.base J.hok J.bare fun b hb => ⟨(f3 b hb).2.2.2.1, (f3 b hb).2.1, (f3 b hb).2.2.2.2.1, (f3 b hb).2.2.2.2.2⟩
  obtain ⟨p0, p1, p2, p3, p4, p5⟩ := I3.fpOk (Nat.le_refl s3.heap.objs.size) nC
  have I8 := I7.turned (t' := sI.toks) (h' := sI.heap.hide s3.heap.objs.size) (fun b o hb e => (Heap.hide_ne _ hb).trans e) p0 p1 p3 p4 p5
  unfold notedBy
  rw [note_eq cF]
  have sky' : Sky B (X.env :: X.outer) a (L2N.Zn cls d) ce.locals t.heap := by rw [← hs]; exact sky
  refine note_sky L2N.Zn.steady af hf cl sky' fun g held up2 => ?_
  have ng : g.Ns ce.locals m := ns_up (up.trans up2) n
  have key : ∀ g2, Heap.SameBut ce.locals g g2 → wpAny (model X.prog X.w) X.A (passOn "comprehension.variables-let-go" (.ref a) ce : Sem Value) (fun _ _ => False) X.xe { t with heap := g2 } := fun g2 sb => by
    obtain ⟨k1, k2, k3, oe, vs, T, oT, ts, t1, t2, t3, t4, t5, t6, t7, t8, t9⟩ := held
    obtain ⟨od, es, ep, d1, d2, _⟩ := ng
    have aC : a ≠ ce.locals := fun z => by
      rw [z, d1] at t1
      cases t1
      rw [d2] at t3
      cases t3
    have tC : T ≠ ce.locals := fun z => by
      rw [z, d1] at t7
      cases t7
      rw [d2] at t8
      cases t8
    have b1 : (B.hide ce.locals).StaysIn g2 := fun b o e => by
      have hb : b ≠ ce.locals := fun z => by rw [z, Heap.hide_self] at e; cases e
      exact (sb.2 b hb).trans (k1 b o (Heap.of_hide e))
    have bn : ∀ b, B.get? b = none → (B.hide ce.locals).get? b = none := fun b e => by
      cases q : (B.hide ce.locals).get? b with
      | none => rfl
      | some o => rw [Heap.of_hide q] at e; cases e
    have b3 : g2.FunFrames (B.hide ce.locals) (X.env :: X.outer) := by
      refine ff_sub bn (fun b hb => sb.2 b ?_) k3
      rw [cL]
      exact cne b (by rw [hs]; exact hb)
    have b4 : HandSPX.TracedZ g2 (B.hide ce.locals) a (L2N.Zn cls d) (rawInt X.env.locals) := ⟨oe, vs, T, oT, ts, (sb.2 a aC).trans t1, t2, t3, t4, bn T t5, t6, (sb.2 T tC).trans t7, t8, t9⟩
    unfold PySem.passOn
    refine wpAny_bind (wpAny_field (s := { t with heap := g2 }) ((sb.2 a aC).trans t1) t3 t4 ?_)
    rw [if_neg (by simp : ¬ ((Value.ref T == Value.none) = true))]
    have fin : wpAny (model X.prog X.w) X.A (setFlight (.ref a) ce.frame) (fun _ t4 => wpAny (model X.prog X.w) X.A (throw (.ref a) : Sem Value) (fun _ _ => False) X.xe t4) X.xe { t with heap := g2 } := by
      rw [cF, hf]
      refine HandSPX.setFlight_anyZ (s := { t with heap := g2 }) b1 b3 b4 fun g3 w1 w2 w3 w4 => wpAny_throw (tk _ _ ?_)
      refine ⟨a, B.hide ce.locals, _, pins, σ, H', cls, d, rfl, I8, fun b o e hb => ?_, fun b o e hn => ?_, .inr (.inr (by rw [hs]; exact ⟨w1, bn a k2, w2, w3⟩)), na, os, ag, w⟩
      · have hb2 : b ≠ ce.locals := fun z => by rw [z, cL] at e; rw [show (sI.heap.hide s3.heap.objs.size).get? s3.heap.objs.size = none from Heap.hide_self _ _] at e; cases e
        exact (Heap.hide_ne _ hb2).trans (nb b o (Heap.of_hide e) hb)
      · have hb2 : b ≠ ce.locals := fun z => by rw [z, cL] at e; rw [show (sI.heap.hide s3.heap.objs.size).get? s3.heap.objs.size = none from Heap.hide_self _ _] at e; cases e
        obtain ⟨sl, q1⟩ := (up.trans up2) b o (Heap.of_hide e) hn
        obtain ⟨sl2, q2⟩ := w4 b _ ((sb.2 b hb2).trans q1) hn
        exact ⟨sl2, q2⟩
    first
      | exact wpAny_bind (wpAny_pure (wpAny_bind fin))
      | exact wpAny_bind fin
  cases use with
  | none => exact ⟨m, ng, key⟩
  | some u => exact ⟨m, ng, key⟩
end

section
variable {X : Cx} {W : WX}
/-- a comprehension: D the new list, V by the turn and a measure, N what a turn is to reach; what is raised goes to W at the def's slots -/
def tLcX (wi : TI) (g : TG) (tt : TT) (te : WX → TE) (vs : List Nat) (W : WX) : TE := fun σ H Q => wi σ H fun J H1 => ∀ D, H1 D = none → ∃ V : Nat → Nat → Hp → Prop, (∃ m, V 0 m (upd H1 D (.lst []))) ∧ ∀ i m H, V i m H →
  (J.stop i H ∧ Q (.ref D) H) ∨ (J.go i H ∧ ∃ N : Hp → Prop, (∀ H', N H' → ∃ k, k < m ∧ V (i + 1) k H') ∧ ∀ x H', J.yld i H x H' → g x (L2.wipe σ vs) H' fun τ H2 => L2.wipe τ vs = L2.wipe σ vs ∧ tt τ H2 fun b H3 =>
    if b = true then te (fun cls d _ H => W cls d σ H) τ H3 fun y H4 => ∃ acc, H4 D = some (.lst acc) ∧ acc.length < sizeLine ∧ N (upd H4 D (.lst (acc ++ [y]))) else N H3)
theorem lc_coreX {pins : List (Addr × Obj)} {s : Shared} {σ : L2.St} {H : Hp} {Q : VK} {elt tg iter : Expr} {ifs : List Expr} {scope : Scope} {own : List (Str × Nat)} {pos pos' : Pos} {wi : TI} {g : TG} {tt : TT} {te : WX → TE} {use : Option (Value → Sem Unit)} {Qf : Value → Shared → Prop}
    (hc : X.calm = true) (hN : X.N.Nodup) (tk : L2N.Takes X W) (hst : X.stack = X.env :: X.outer) (hfr : X.env.frame = some X.env.locals) (I : Inv X pins σ H s) (hi : PI X tg iter wi) (ok : BlkOk X.N X.env.scope scope own)
    (hg : ∀ (s : Shared) (H : Hp) (C : Addr) (cl : List (Str × Addr)) (fp : List Addr) (xe : Value → Shared → Prop), PG (blkX X s H scope (compEnvC scope cl C X.env) fp xe) tg g)
    (ht : ∀ (s : Shared) (H : Hp) (C : Addr) (cl : List (Str × Addr)) (fp : List Addr) (xe : Value → Shared → Prop), PTs (blkX X s H scope (compEnvC scope cl C X.env) fp xe) ifs tt)
    (he : ∀ (V : WX) (s : Shared) (H : Hp) (C : Addr) (cl : List (Str × Addr)) (fp : List Addr) (xe : Value → Shared → Prop), L2N.Takes (blkX X s H scope (compEnvC scope cl C X.env) fp xe) V → PE (blkX X s H scope (compEnvC scope cl C X.env) fp xe) elt (te V))
    (hs : ∀ x, foldedSetIterable iter X.env x = pure x) (h : tLcX wi g tt te (own.map (·.2)) W σ H Q)
    (fin : ∀ D C s' m H', Inv X pins σ H' s' → Q (.ref D) H' → s'.heap.Ns C m → FpOk X pins H' C → ∀ c : Env, c.locals = C → postX (model X.prog X.w) X.A X.xe use Qf (.ref D) c (.ok .next) s') :
    wpAny (model X.prog X.w) X.A (comprehension (.ListComp elt [⟨tg, iter, ifs, 0⟩] scope pos) scope X.env pos' (newList []) false (eval iter X.env) use) Qf X.xe s := by
  have fr : ∀ y ∈ scope.names, y.2 = .free → ∃ c, X.env.cells.lookup y.1 = some c := fun y hy e => (ok.free y hy e).elim (fun k => I.ok.has _ (.inl k)) fun k => I.ok.has _ (.inr k)
  refine comp_any (use := use) rfl hs (closure_ok fr) ok.kind (fun y hy e => by rw [ok.uniq y hy, e]) (thn (hi.run pins s σ H _ I h) fun xv s1 hx => thn hx fun itv s2 h2 => ?_)
  obtain ⟨it, fp, tn, J, H2, e, I2, T, st2, f2, q⟩ := h2
  subst e
  refine wpAny_newObj_type (newEnv_comp ?_) (by show 0 ≤ sizeLine; decide)
  generalize hD : s2.heap.objs.size = D
  have dn : H2 D = none := I2.hok.fresh (Nat.le_of_eq hD)
  obtain ⟨V, ⟨m0, w0⟩, turn⟩ := q D dn
  generalize hs3 : ({ s2 with heap := s2.heap.push { cls := .type "list", data := .seq ([] : List Value).toArray } } : Shared) = s3
  have I3 : Inv X pins σ (upd H2 D (.lst [])) s3 := by
    rw [← hs3]
    exact I2.laid (t' := s2.toks) (fun b o e => Heap.get?_push_of_some _ e) (Nat.le_of_eq hD) ⟨Nat.zero_le _, [], 0, .nil, by rw [← hD]; exact Heap.get?_push_size _ rfl⟩
  have h3 : s3.heap = s2.heap.push { cls := .type "list", data := .seq ([] : List Value).toArray } := by rw [← hs3]
  have f3 : ∀ b ∈ fp, FpOk X pins (upd H2 D (.lst [])) b ∧ b < s3.heap.objs.size := fun b hb => by
    obtain ⟨o, e, _⟩ := T.obj _ _ st2 b hb
    have lt := Heap.lt_size e
    exact ⟨⟨by rw [upd_ne (by rw [← hD]; exact Nat.ne_of_lt lt)]; exact (f2 b hb).1, (f2 b hb).2⟩, by rw [h3, Heap.size_push]; exact Nat.lt_succ_of_lt lt⟩
  have st3 : tn 0 s3.heap := T.keep _ _ _ st2 fun b _ o e => by rw [h3]; exact Heap.get?_push_of_some _ e
  have I4 := block_start I3 ok hN f3
  have nfp : ∀ b ∈ fp, (upd H2 D (.lst [])) b = none := fun b hb => (f3 b hb).1.1
  have pg := hg s3 (upd H2 D (.lst [])) s3.heap.objs.size (cellsFrom (s3.heap.objs.size + 1) scope.names (cloFrom X.env.cells scope.names [])) fp
  have pt := ht s3 (upd H2 D (.lst [])) s3.heap.objs.size (cellsFrom (s3.heap.objs.size + 1) scope.names (cloFrom X.env.cells scope.names [])) fp
  have pe := he (fun cls d _ H => W cls d σ H) s3 (upd H2 D (.lst [])) s3.heap.objs.size (cellsFrom (s3.heap.objs.size + 1) scope.names (cloFrom X.env.cells scope.names [])) fp
  show codeAny _ _ (.compStart (.ListComp elt [⟨tg, iter, ifs, 0⟩] scope pos) 0 (.ref it) (.ref D) (compEnvC scope (cellsFrom (s3.heap.objs.size + 1) scope.names (cloFrom X.env.cells scope.names [])) s3.heap.objs.size X.env)) (postX (model X.prog X.w) X.A X.xe use Qf (.ref D) (compEnvC scope (cellsFrom (s3.heap.objs.size + 1) scope.names (cloFrom X.env.cells scope.names [])) s3.heap.objs.size X.env)) { s3 with heap := pushCells (s3.heap.push { cls := .type "dict", data := .dict #[] }) scope.names }
  generalize hce : compEnvC scope (cellsFrom (s3.heap.objs.size + 1) scope.names (cloFrom X.env.cells scope.names [])) s3.heap.objs.size X.env = ce at I4 pg pt pe ⊢
  have cL : ce.locals = s3.heap.objs.size := by subst hce; rfl
  have cF : ce.frame = X.env.frame := by subst hce; rfl
  generalize hH3 : upd H2 D (.lst []) = H3 at I3 I4 pg pt pe w0 nfp f3
  generalize hs4 : ({ s3 with heap := pushCells (s3.heap.push { cls := .type "dict", data := .dict #[] }) scope.names } : Shared) = s4 at I4 ⊢
  have st4 : tn 0 s4.heap := T.keep _ _ _ st3 fun b _ o e => by rw [← hs4]; exact pushCells_keeps _ _ _ _ (Heap.get?_push_of_some _ e)
  generalize hxe : notedBy (model X.prog X.w) X.A ce (fun e t' => postX (model X.prog X.w) X.A X.xe use Qf (.ref D) ce (.error e) t') = xe
  have tkb : L2N.Takes (blkX X s3 H3 scope ce fp xe) (fun cls d _ H => W cls d σ H) := fun u t x => by
    have z := air_out (use := use) (Qf := Qf) (D := .ref D) tk hst hfr I3 (fun b hb => (f3 b hb).1) cL cF x
    rw [hxe] at z
    exact z
  have pe := pe xe tkb
  have pg := pg xe
  have pt := pt xe
  have I4 : Inv (blkX X s3 H3 scope ce fp xe) [] (L2.wipe σ (own.map (·.2))) H3 s4 := ⟨⟨I4.ok.1, I4.ok.2, I4.ok.3, I4.ok.4, I4.ok.5, I4.ok.6, I4.ok.7, I4.ok.8, I4.ok.9, I4.ok.10, I4.ok.11, I4.ok.12, I4.ok.13, I4.ok.14, I4.ok.15, I4.ok.16, I4.ok.17, I4.ok.18⟩, I4.os, I4.bare, I4.base, I4.loc, I4.cell, I4.free, I4.freeC, I4.pin, I4.hok, I4.len⟩
  have stat : ∀ {τ : L2.St} {H' : Hp} {s' : Shared}, Inv (blkX X s3 H3 scope ce fp xe) [] τ H' s' → (∀ b ∈ fp, H' b = none) → ∀ b ∈ fp, FpOk (blkX X s3 H3 scope ce fp xe) [] H' b := fun {τ H' s'} J' hn b hb =>
    ⟨hn b hb, (J'.ok.exf b hb).1, J'.ok.exfs b hb, .inl hb, fun x c e => (J'.ok.exf b hb).2 x c e, fun p hp => absurd (show p ∈ ([] : List (Addr × Obj)) ++ [] from hp) (by simp)⟩
  have loop : codeAny (model X.prog X.w) X.A (.compLoop (.ListComp elt [⟨tg, iter, ifs, 0⟩] scope pos) 0 (.ref it) (.ref D) ce) (postX (model X.prog X.w) X.A X.xe use Qf (.ref D) ce) s4 := by
    refine compLoop_any (fun n t => ∃ i H', Inv (blkX X s3 H3 scope ce fp xe) [] (L2.wipe σ (own.map (·.2))) H' t ∧ tn i t.heap ∧ (∀ b ∈ fp, H' b = none) ∧ V i n H') ?_ m0 ⟨0, H3, I4, st4, nfp, w0⟩
    rintro n s5 ⟨i, H5, I5, st5, n5, w5⟩
    rcases turn i n H5 w5 with ⟨stop, qq⟩ | ⟨go, N, hN2, step⟩
    · refine thnF (T.done (blkX X s3 H3 scope ce fp xe) rfl rfl rfl hc i [] s5 _ H5 (fun _ _ => False) I5 (stat I5 n5) st5 stop) fun r s6 ⟨hr, I6⟩ => ?_
      subst hr
      have I7 : Inv X pins σ H5 s6 := I3.call' (ch := fp) I6.os I6.base I6.hok I6.bare fun b hb => ⟨(f3 b hb).1.2.2.2.1, (f3 b hb).1.2.1, (f3 b hb).1.2.2.2.2.1, (f3 b hb).1.2.2.2.2.2⟩
      have nC : H5 ce.locals = none := I6.free
      obtain ⟨m, hn, _⟩ := I6.loc
      have hn : s6.heap.Ns ce.locals m := hn
      rw [cL] at nC
      exact fin D ce.locals s6 m H5 I7 qq hn (by rw [cL]; exact I3.fpOk (Nat.le_refl _) nC) ce rfl
    · refine thnF (T.item (blkX X s3 H3 scope ce fp xe) rfl rfl rfl hc i [] s5 _ H5 (fun _ _ => False) I5 (stat I5 n5) st5 go) fun r s6 ⟨u, hr, h6⟩ => ?_
      subst hr
      refine thnF h6 fun _ s7 ⟨x, H7, I7, r7, y7, st7, n7⟩ => ?_
      rw [hxe]
      refine thn (pg.run _ s7 _ H7 x u _ (I7.pinned (stat I7 n7) (T.obj _ _ st7)) r7 (step x H7 y7)) fun _ s8 ⟨σ8, H8, I8, hw8, q8⟩ => ?_
      refine thn (pt.run _ s8 σ8 H8 _ I8 q8) fun b s9 ⟨H9, I9, q9⟩ => ?_
      have done : ∀ {t : Shared} {H' : Hp}, Inv (blkX X s3 H3 scope ce fp xe) ([] ++ pinsAt fp s7.heap) σ8 H' t → N H' → ∃ m, m < n ∧ ∃ i H', Inv (blkX X s3 H3 scope ce fp xe) [] (L2.wipe σ (own.map (·.2))) H' t ∧ tn i t.heap ∧ (∀ b ∈ fp, H' b = none) ∧ V i m H' := fun {t H'} K nx => by
        obtain ⟨m', hm, w'⟩ := hN2 H' nx
        have pin' : ∀ b ∈ fp, ∀ o, s7.heap.get? b = some o → t.heap.get? b = some o ∧ H' b = none := fun b hb o e => by
          have z := K.pin (b, o) (List.mem_append_right _ (List.mem_append_right _ (mem_pinsAt hb e)))
          exact ⟨z.1, z.2.1⟩
        have hl : (L2.wipe σ (own.map (·.2))).length = σ8.length := by rw [← hw8, wipe_length]
        refine ⟨m', hm, i + 1, H', (K.unpinned (pins := [])).weak hl (fun j v e => by rw [← hw8] at e; exact (wipe_some e).1), T.keep _ _ _ st7 fun b hb o e => (pin' b hb o e).1, fun b hb => ?_, w'⟩
        obtain ⟨o, e, _⟩ := T.obj _ _ st7 b hb
        exact (pin' b hb o e).2
      cases b with
      | false =>
        simp only [Bool.false_eq_true, if_false] at q9 ⊢
        exact done I9 q9
      | true =>
        simp only [if_true] at q9 ⊢
        refine thn (pe.run _ s9 σ8 H9 _ I9 q9) fun z s10 ⟨yv, H10, I10, r10, acc, a1, a2, nx⟩ => ?_
        exact app_ok (X := blkX X s3 H3 scope ce fp xe) I10 a1 a2 r10 fun s11 I11 => done I11 nx
  exact codeAny_compStart_list loop (T.self X.A 0 _ _ _ st4 loop)
theorem pe_lcX {elt tg iter : Expr} {ifs : List Expr} {scope : Scope} {own : List (Str × Nat)} {pos : Pos} {wi : TI} {g : TG} {tt : TT} {te : WX → TE} (hc : X.calm = true) (hN : X.N.Nodup) (tk : L2N.Takes X W) (hst : X.stack = X.env :: X.outer) (hfr : X.env.frame = some X.env.locals) (hi : PI X tg iter wi) (ok : BlkOk X.N X.env.scope scope own)
    (hg : ∀ (s : Shared) (H : Hp) (C : Addr) (cl : List (Str × Addr)) (fp : List Addr) (xe : Value → Shared → Prop), PG (blkX X s H scope (compEnvC scope cl C X.env) fp xe) tg g)
    (ht : ∀ (s : Shared) (H : Hp) (C : Addr) (cl : List (Str × Addr)) (fp : List Addr) (xe : Value → Shared → Prop), PTs (blkX X s H scope (compEnvC scope cl C X.env) fp xe) ifs tt)
    (he : ∀ (V : WX) (s : Shared) (H : Hp) (C : Addr) (cl : List (Str × Addr)) (fp : List Addr) (xe : Value → Shared → Prop), L2N.Takes (blkX X s H scope (compEnvC scope cl C X.env) fp xe) V → PE (blkX X s H scope (compEnvC scope cl C X.env) fp xe) elt (te V))
    (hs : ∀ x, foldedSetIterable iter X.env x = pure x) : PE X (.ListComp elt [⟨tg, iter, ifs, 0⟩] scope pos) (tLcX wi g tt te (own.map (·.2)) W) := by
  refine ⟨fun pins s σ H Q I h => ?_⟩
  rw [eval_ListComp]
  refine lc_coreX hc hN tk hst hfr I hi ok hg ht he hs h fun D C t m H' J q hn f c ec => ⟨m, by rw [ec]; exact hn, fun g2 sb => ?_⟩
  obtain ⟨f0, f1, f2, f3, f4, f5⟩ := f
  rw [ec] at sb
  exact ⟨.ref D, H', J.turned (t' := t.toks) (fun b o hb e => (sb.2 b hb).trans e) f0 f1 f3 f4 f5, rfl, q⟩
/-- name = [..] on one row, the name a local -/
theorem ps_setLcX {i : Nat} {y : Str} {py : Pos} {elt tg iter : Expr} {ifs : List Expr} {scope : Scope} {own : List (Str × Nat)} {pos spos : Pos} {wi : TI} {g : TG} {tt : TT} {te : WX → TE} (hc : X.calm = true) (hN : X.N.Nodup) (hy : X.N[i]? = some y) (hyl : X.env.scope.names.lookup y = some .local)
    (hsw : swapsWith (.ListComp elt [⟨tg, iter, ifs, 0⟩] scope pos) (some (.Name y py)) spos.line X.env = pure true) (tk : L2N.Takes X W) (hst : X.stack = X.env :: X.outer) (hfr : X.env.frame = some X.env.locals) (hi : PI X tg iter wi) (ok : BlkOk X.N X.env.scope scope own)
    (hg : ∀ (s : Shared) (H : Hp) (C : Addr) (cl : List (Str × Addr)) (fp : List Addr) (xe : Value → Shared → Prop), PG (blkX X s H scope (compEnvC scope cl C X.env) fp xe) tg g)
    (ht : ∀ (s : Shared) (H : Hp) (C : Addr) (cl : List (Str × Addr)) (fp : List Addr) (xe : Value → Shared → Prop), PTs (blkX X s H scope (compEnvC scope cl C X.env) fp xe) ifs tt)
    (he : ∀ (V : WX) (s : Shared) (H : Hp) (C : Addr) (cl : List (Str × Addr)) (fp : List Addr) (xe : Value → Shared → Prop), L2N.Takes (blkX X s H scope (compEnvC scope cl C X.env) fp xe) V → PE (blkX X s H scope (compEnvC scope cl C X.env) fp xe) elt (te V))
    (hs : ∀ x, foldedSetIterable iter X.env x = pure x) : PS X (.Assign [.Name y py] (.ListComp elt [⟨tg, iter, ifs, 0⟩] scope pos) spos) (tAsg (tLcX wi g tt te (own.map (·.2)) W) (gName i)) := by
  refine ⟨fun pins s σ H D I h => ?_⟩
  rw [exec_Assign_Name_used _ _ _ _ hsw]
  refine wpAny_bind (wpAny_standAt (wpAny_bind ?_))
  show wpAny _ X.A (do let _ ← comprehension (.ListComp elt [⟨tg, iter, ifs, 0⟩] scope pos) scope X.env (firstIterPos [⟨tg, iter, ifs, 0⟩] pos) (newList []) false (eval iter X.env) (some (assign (.Name y py) X.env))) _ _ s
  have h : tLcX wi g tt te (own.map (·.2)) W σ H (fun x H1 => gName i x σ H1 D.nx) := h
  refine wpAny_bind (thn (lc_coreX (Qf := fun _ t => SP X pins D .next t) hc hN tk hst hfr I hi ok hg ht he hs h fun L C t m H' J q hn f c ec => ?_) fun _ t hq => wpAny_pure (wpAny_pure hq))
  show wpAny _ _ (assign (.Name y py) X.env (.ref L)) _ _ _
  refine wpAny_assign_Name (store_ok2 (v := V.ref L) J hN hy (.inl hyl) rfl (fun t2 J2 ⟨a, sb, ha⟩ => ?_) (.inr hyl))
  obtain ⟨f0, f1, f2, f3, f4, f5⟩ := f
  have aC : C ≠ a := ha.elim (fun z => by rw [z]; exact f1) fun z e => f4 y a z e.symm
  refine ⟨m, by rw [ec]; exact hn.sameBut sb aC, fun h3 sb3 => ?_⟩
  rw [ec] at sb3
  exact ⟨_, H', J2.turned (t' := t2.toks) (fun b o hb e => (sb3.2 b hb).trans e) f0 f1 f3 f4 f5, q⟩
end
end Cw

set_option Elab.async false
set_option linter.all false
set_option maxRecDepth 100000
set_option maxHeartbeats 4000000
namespace Cw
open PySem PySem.Spec PyProof.Rows L2

/-! ### operations: the machine's rule r serves what f says of data -/
def SemOp (K : PySem.W.Frag) (r : R2) (f : D → D → R D) : Prop := ∀ (B : Str → Hp → Prop) (H G : Hp) (v u : V) (x y : D) (Q : VK), Same G H → Dp K G v x → Dp K G u y → Rs K B H G Q (f x y) → r v u H Q
def SemCall (K : PySem.W.Frag) (r : List V → Hp → VK → Prop) (f : List D → R D) : Prop := ∀ (B : Str → Hp → Prop) (H G : Hp) (vs : List V) (ds : List D) (Q : VK), Same G H → DpAll K G vs ds → Rs K B H G Q (f ds) → r vs H Q

section
variable {K : PySem.W.Frag} {X : Cx}
def opOf : Op → Operator
  | .add => .Add
  | .sub => .Sub
  | .mul => .Mult
  | .fdiv => .FloorDiv
  | .mod => .Mod
  | .pow => .Pow
  | .shl => .LShift
def rAddAll (K : PySem.W.Frag) : R2 := fun x y H Q => rI0 (fun i j => .int (i + j)) x y H Q ∨ (∃ i j, x = .str i ∧ y = .str j ∧ i.length + j.length ≤ sizeLine ∧ Q (.str (i ++ j)) H) ∨ rCatL K x y H Q ∨ rCat0 K x y H Q ∨ rCatT K x y H Q
theorem rule_add : OpR X (binaryOp .Add) (rAddAll X.K) := op_add.or (op_add_str.or (op_catL.or (op_cat0.or op_catT)))
theorem sem_add : SemOp K (rAddAll K) (opR .add) := by
  intro B H G v u x y Q s hx hy h
  cases hx with
  | int i => cases hy with
    | int j => exact .inl ⟨i, j, rfl, rfl, h.now s (.int _)⟩
    | _ => exact h.elim
  | str i => cases hy with
    | str j =>
      dsimp only [opR] at h
      split at h
      · exact .inr (.inl ⟨i, j, rfl, rfl, ‹_›, h.now s (.str _)⟩)
      · exact h.elim
    | _ => exact h.elim
  | lst q r => cases hy with
    | lst q2 r2 =>
      dsimp only [opR] at h
      split at h
      · rename_i hl
        refine .inr (.inr (.inl ⟨_, _, _, _, rfl, rfl, s.seq q, s.seq q2, by rw [dpAll_len r, dpAll_len r2]; exact hl, fun p hp => ?_⟩))
        refine h.new s hp (.lst (SqL.of upd_same) (dpAll_mono (Same.upd (s.free hp)) (dpAll_app r r2)))
      · exact h.elim
    | _ => exact h.elim
  | tup q r => cases hy with
    | tup q2 r2 =>
      dsimp only [opR] at h
      split at h
      · rename_i hl
        cases r with
        | nil => exact .inr (.inr (.inr (.inl ⟨_, _, _, rfl, rfl, Same.seqT s q, Same.seqT s q2, h.now s (.tup q2 r2)⟩)))
        | cons r0 r1 =>
          refine .inr (.inr (.inr (.inr ⟨_, _, _, _, rfl, rfl, Same.seqT s q, Same.seqT s q2, List.cons_ne_nil _ _, ?_, fun z => ?_, fun z p hp => ?_⟩)))
          · rw [dpAll_len (.cons r0 r1), dpAll_len r2]; exact hl
          · subst z
            cases r2
            rw [List.append_nil] at h
            exact h.now s (.tup q (.cons r0 r1))
          · exact h.new s hp (.tup (SqT.of upd_same) (dpAll_mono (Same.upd (s.free hp)) (dpAll_app (.cons r0 r1) r2)))
      · exact h.elim
    | _ => exact h.elim
  | _ => exact h.elim
theorem sem_sub : SemOp K (rI0 fun i j => .int (i - j)) (opR .sub) := by
  intro B H G v u x y Q s hx hy h
  cases hx with
  | int i => cases hy with
    | int j => exact ⟨i, j, rfl, rfl, h.now s (.int _)⟩
    | _ => exact h.elim
  | _ => exact h.elim
def rRepS : R2 := fun x y H Q => ∃ z k, x = .str z ∧ y = .int k ∧ PySem.MulOk z k ∧ Q (.str (Txt.mul z k)) H
theorem op_repS : OpR X (binaryOp .Mult) rRepS := by
  intro pins s σ H x y v u Q I rx ry h
  obtain ⟨z, k, rfl, rfl, hk, q⟩ := h
  obtain ⟨t, rfl⟩ := rx
  obtain ⟨t', rfl⟩ := ry
  exact PySem.SB.mul hk fun t' k => ⟨.str _, H, I.tok _, ⟨_, rfl⟩, q⟩
theorem mulSB_ok {z : Str} {k : Int} (h : mulSB z k = true) : PySem.MulOk z k := by
  unfold mulSB at h
  simp only [Bool.and_eq_true, decide_eq_true_eq] at h
  obtain ⟨⟨⟨h0, h1⟩, h2⟩, h3⟩ := h
  refine ⟨?_, fun hk _ => ?_, fun hk _ => ?_⟩
  · rw [Bool.or_eq_false_iff]
    exact ⟨decide_eq_false (by omega), decide_eq_false (by omega)⟩
  · have e : (1000 : Int) ≤ (2 ^ 63 - 1) / k := Int.le_ediv_of_mul_le (by omega) (by omega)
    omega
  · unfold Builtin.Str.tooLong
    simp
    rw [sizeLine_eq]
    omega
def rMulAll (K : PySem.W.Frag) : R2 := fun x y H Q => rI MulOk (fun i j => .int (i * j)) x y H Q ∨ rRepT K x y H Q ∨ rRepL K x y H Q ∨ rRepS x y H Q
theorem rule_mul : OpR X (binaryOp .Mult) (rMulAll X.K) := op_mulA.or (op_repT.or (op_repL.or op_repS))
theorem sem_mul : SemOp K (rMulAll K) (opR .mul) := by
  intro B H G v u x y Q s hx hy h
  cases hx with
  | int i => cases hy with
    | int j =>
      dsimp only [opR] at h
      split at h
      · exact .inl ⟨i, j, rfl, rfl, ‹_›, h.now s (.int _)⟩
      · exact h.elim
    | _ => exact h.elim
  | tup q r => cases hy with
    | int j =>
      dsimp only [opR] at h
      split at h
      · rename_i hc
        obtain ⟨h1, h2, h3, h4⟩ := hc
        refine .inr (.inl ⟨_, j, _, rfl, rfl, Same.seqT s q, fun z => h1 ?_, h2, h3, by rw [dpAll_len r]; exact h4, fun p hp => ?_⟩)
        · subst z; cases r; rfl
        · exact h.new s hp (.tup (SqT.of upd_same) (dpAll_mono (Same.upd (s.free hp)) (dpAll_rep r _)))
      · exact h.elim
    | _ => exact h.elim
  | lst q r => cases hy with
    | int j =>
      dsimp only [opR] at h
      split at h
      · rename_i hc
        obtain ⟨h2, h3, h4⟩ := hc
        refine .inr (.inr (.inl ⟨_, j, _, rfl, rfl, s.seq q, h2, h3, by rw [dpAll_len r]; exact h4, fun p hp => ?_⟩))
        exact h.new s hp (.lst (SqL.of upd_same) (dpAll_mono (Same.upd (s.free hp)) (dpAll_rep r _)))
      · exact h.elim
    | _ => exact h.elim
  | str z => cases hy with
    | int j =>
      dsimp only [opR] at h
      split at h
      · exact .inr (.inr (.inr ⟨z, j, rfl, rfl, mulSB_ok ‹_›, h.now s (.str _)⟩))
      · exact h.elim
    | _ => exact h.elim
  | _ => exact h.elim
theorem sem_fdiv : SemOp K (rI (fun _ j => j ≠ 0) fun i j => .int (i.fdiv j)) (opR .fdiv) := by
  intro B H G v u x y Q s hx hy h
  cases hx with
  | int i => cases hy with
    | int j =>
      dsimp only [opR] at h
      split at h
      · exact h.elim
      · exact ⟨i, j, rfl, rfl, ‹_›, h.now s (.int _)⟩
    | _ => exact h.elim
  | _ => exact h.elim
theorem sem_mod : SemOp K (rI (fun _ j => j ≠ 0) fun i j => .int (i.fmod j)) (opR .mod) := by
  intro B H G v u x y Q s hx hy h
  cases hx with
  | int i => cases hy with
    | int j =>
      dsimp only [opR] at h
      split at h
      · exact h.elim
      · exact ⟨i, j, rfl, rfl, ‹_›, h.now s (.int _)⟩
    | _ => exact h.elim
  | _ => exact h.elim
theorem sem_pow : SemOp K (rI CPow fun i j => .int (i ^ j.toNat)) (opR .pow) := by
  intro B H G v u x y Q s hx hy h
  cases hx with
  | int i => cases hy with
    | int j =>
      dsimp only [opR] at h
      split at h
      · exact ⟨i, j, rfl, rfl, ‹_›, h.now s (.int _)⟩
      · exact h.elim
    | _ => exact h.elim
  | _ => exact h.elim
theorem sem_shl : SemOp K (rI CPow fun i j => .int (i * 2 ^ j.toNat)) (opR .shl) := by
  intro B H G v u x y Q s hx hy h
  cases hx with
  | int i => cases hy with
    | int j =>
      dsimp only [opR] at h
      split at h
      · exact ⟨i, j, rfl, rfl, ‹_›, h.now s (.int _)⟩
      · exact h.elim
    | _ => exact h.elim
  | _ => exact h.elim
theorem rule_op (hp : Pyl X) : ∀ o : Op, ∃ r : R2, OpR X (binaryOp (opOf o)) r ∧ SemOp X.K r (opR o)
  | .add => ⟨_, rule_add, sem_add⟩
  | .sub => ⟨_, op_sub, sem_sub⟩
  | .mul => ⟨_, rule_mul, sem_mul⟩
  | .fdiv => ⟨_, op_fdivA hp, sem_fdiv⟩
  | .mod => ⟨_, op_modN, sem_mod⟩
  | .pow => ⟨_, op_pow, sem_pow⟩
  | .shl => ⟨_, op_shl, sem_shl⟩

/-! ### comparisons -/
def cmOf : Cm → CmpOp
  | .eq => .Eq
  | .ne => .NotEq
  | .lt => .Lt
  | .le => .LtE
  | .gt => .Gt
  | .ge => .GtE
  | .is => .Is
  | .isn => .IsNot
  | .isin => .In
  | .nin => .NotIn
theorem flat_dp {G : Hp} {v : V} {x : D} (h : Dp K G v x) (f : flatD x = true) : flatV v = true := by
  cases h <;> first | rfl | cases f
theorem flat_all {G : Hp} : ∀ {vs : List V} {xs : List D}, DpAll K G vs xs → xs.all flatD = true → vs.all flatV = true
  | _, _, .nil, _ => rfl
  | _, _, .cons a b, f => by
    rw [List.all_cons, Bool.and_eq_true] at f ⊢
    exact ⟨flat_dp a f.1, flat_all b f.2⟩
theorem eqV_eqv {G : Hp} {v u : V} {x y : D} (h : Dp K G v x) (g : Dp K G u y) (f : flatD x = true) (f2 : flatD y = true) : eqV v u = PyData.eqv x y := by
  cases h <;> first | (cases f; done) | (cases g <;> first | (cases f2; done) | rfl)
theorem inV_any {G : Hp} {v : V} {x : D} (h : Dp K G v x) (f : flatD x = true) : ∀ {vs : List V} {xs : List D}, DpAll K G vs xs → xs.all flatD = true → inV v vs = xs.any fun z => PyData.eqv z x
  | _, _, .nil, _ => rfl
  | _, _, .cons a b, f2 => by
    rw [List.all_cons, Bool.and_eq_true] at f2
    have e := inV_any h f b f2.2
    unfold inV at e ⊢
    rw [List.any_cons, List.any_cons, eqV_eqv a h f2.1 f, e]
theorem sem_eq : SemOp K (rEqD K) (cmR .eq) := by
  intro B H G v u x y Q s hx hy h
  dsimp only [cmR] at h
  split at h
  · exact ⟨x, y, dp_mono s hx, dp_mono s hy, (‹_ ∧ _›).1, (‹_ ∧ _›).2, h.now s (.bl _)⟩
  · exact h.elim
theorem sem_ne : SemOp K (rNeD K) (cmR .ne) := by
  intro B H G v u x y Q s hx hy h
  dsimp only [cmR] at h
  split at h
  · exact ⟨x, y, dp_mono s hx, dp_mono s hy, (‹_ ∧ _›).1, (‹_ ∧ _›).2, h.now s (.bl _)⟩
  · exact h.elim
theorem sem_lt : SemOp K (rI0 fun i j => .bl (decide (i < j))) (cmR .lt) := by
  intro B H G v u x y Q s hx hy h
  cases hx with
  | int i => cases hy with
    | int j => exact ⟨i, j, rfl, rfl, h.now s (.bl _)⟩
    | _ => exact h.elim
  | _ => exact h.elim
theorem sem_le : SemOp K (rI0 fun i j => .bl (decide (i ≤ j))) (cmR .le) := by
  intro B H G v u x y Q s hx hy h
  cases hx with
  | int i => cases hy with
    | int j => exact ⟨i, j, rfl, rfl, h.now s (.bl _)⟩
    | _ => exact h.elim
  | _ => exact h.elim
theorem sem_gt : SemOp K (rI0 fun i j => .bl (decide (j < i))) (cmR .gt) := by
  intro B H G v u x y Q s hx hy h
  cases hx with
  | int i => cases hy with
    | int j => exact ⟨i, j, rfl, rfl, h.now s (.bl _)⟩
    | _ => exact h.elim
  | _ => exact h.elim
theorem sem_ge : SemOp K (rI0 fun i j => .bl (decide (j ≤ i))) (cmR .ge) := by
  intro B H G v u x y Q s hx hy h
  cases hx with
  | int i => cases hy with
    | int j => exact ⟨i, j, rfl, rfl, h.now s (.bl _)⟩
    | _ => exact h.elim
  | _ => exact h.elim
theorem sem_is : SemOp K (fun x y H Q => (y = .non ∧ Q (.bl (decide (x = .non))) H) ∨ rIsB x y H Q) (cmR .is) := by
  intro B H G v u x y Q s hx hy h
  cases hy with
  | non =>
    refine .inl ⟨rfl, ?_⟩
    cases hx <;> exact h.now s (.bl _)
  | bl b =>
    cases hx with
    | bl a => exact .inr ⟨a, b, rfl, rfl, h.now s (.bl _)⟩
    | _ => exact h.elim
  | _ => cases hx <;> exact h.elim
theorem sem_isn : SemOp K (fun x y H Q => (y = .non ∧ Q (.bl (!decide (x = .non))) H) ∨ rNotB x y H Q) (cmR .isn) := by
  intro B H G v u x y Q s hx hy h
  cases hy with
  | non =>
    refine .inl ⟨rfl, ?_⟩
    cases hx <;> exact h.now s (.bl _)
  | bl b =>
    cases hx with
    | bl a => exact .inr ⟨a, b, rfl, rfl, h.now s (.bl _)⟩
    | _ => exact h.elim
  | _ => cases hx <;> exact h.elim
theorem sign_of {x : Str} {c : Nat} (h : x.cps.toList = [c]) : x = ⟨#[c]⟩ := by
  obtain ⟨a⟩ := x
  congr 1
  exact Array.toList_inj.mp h
theorem sem_in : SemOp K (fun x y H Q => (rInD K x y H Q ∨ rIn K false x y H Q) ∨ ∃ (c : Nat) (z : Str), x = .str ⟨#[c]⟩ ∧ y = .str z ∧ Q (.bl (decide (c ∈ z.cps.toList))) H) (cmR .isin) := by
  intro B H G v u x y Q s hx hy h
  cases hy with
  | lst q r =>
    dsimp only [cmR] at h
    split at h
    · exact .inl (.inl ⟨x, _, dp_mono s hx, dp_mono s (.lst q r), (‹_ ∧ _›).1, (‹_ ∧ _›).2, h.now s (.bl _)⟩)
    · exact h.elim
  | tup q r =>
    dsimp only [cmR] at h
    split at h
    · rename_i hc
      refine .inl (.inr ⟨_, _, rfl, .inr (Same.seqT s q), flat_dp hx hc.1, flat_all r hc.2, ?_⟩)
      rw [inV_any hx hc.1 r hc.2]
      exact h.now s (.bl _)
    · exact h.elim
  | str z =>
    cases hx with
    | str x =>
      dsimp only [cmR] at h
      split at h
      · rename_i c e
        rw [sign_of e]
        exact .inr ⟨c, z, rfl, rfl, h.now s (.bl _)⟩
      · exact h.elim
    | _ => exact h.elim
  | _ => exact h.elim
theorem sem_nin : SemOp K (fun x y H Q => (rNotInD K x y H Q ∨ rIn K true x y H Q) ∨ ∃ (c : Nat) (z : Str), x = .str ⟨#[c]⟩ ∧ y = .str z ∧ Q (.bl (!decide (c ∈ z.cps.toList))) H) (cmR .nin) := by
  intro B H G v u x y Q s hx hy h
  cases hy with
  | lst q r =>
    dsimp only [cmR] at h
    split at h
    · exact .inl (.inl ⟨x, _, dp_mono s hx, dp_mono s (.lst q r), (‹_ ∧ _›).1, (‹_ ∧ _›).2, h.now s (.bl _)⟩)
    · exact h.elim
  | tup q r =>
    dsimp only [cmR] at h
    split at h
    · rename_i hc
      refine .inl (.inr ⟨_, _, rfl, .inr (Same.seqT s q), flat_dp hx hc.1, flat_all r hc.2, ?_⟩)
      rw [inV_any hx hc.1 r hc.2]
      exact h.now s (.bl _)
    · exact h.elim
  | str z =>
    cases hx with
    | str x =>
      dsimp only [cmR] at h
      split at h
      · rename_i c e
        rw [sign_of e]
        exact .inr ⟨c, z, rfl, rfl, h.now s (.bl _)⟩
      · exact h.elim
    | _ => exact h.elim
  | _ => exact h.elim
theorem rule_cm (hu : X.A.units + 65 < cLine) : ∀ o : Cm, ∃ r : R2, OpR X (compareOp (cmOf o)) r ∧ SemOp X.K r (cmR o)
  | .eq => ⟨_, op_eqD (by omega), sem_eq⟩
  | .ne => ⟨_, op_neD (by omega), sem_ne⟩
  | .lt => ⟨_, op_lt, sem_lt⟩
  | .le => ⟨_, op_le, sem_le⟩
  | .gt => ⟨_, op_gt, sem_gt⟩
  | .ge => ⟨_, op_ge, sem_ge⟩
  | .is => ⟨_, op_isN.or op_isBl, sem_is⟩
  | .isn => ⟨_, op_notN.or op_notBl, sem_isn⟩
  | .isin => ⟨_, ((op_inD hu).or op_in_seq).or op_in_sign, sem_in⟩
  | .nin => ⟨_, ((op_notInD hu).or op_notIn_seq).or op_notIn_sign, sem_nin⟩
/-- what comparisons come to is a truth -/
theorem cm_bool {o : Cm} {x y d : D} (h : cmR o x y = .ok d) : ∃ b, d = .bool b := by
  unfold cmR at h
  split at h <;> first | (split at h <;> first | (cases h; exact ⟨_, rfl⟩) | cases h) | (cases h; exact ⟨_, rfl⟩) | cases h

/-! ### places, cuts -/
theorem atI_dp {G : Hp} {vs : List V} {xs : List D} {i : Int} {d : D} (r : DpAll K G vs xs) (h : L2.atI xs i = some d) : ∃ v, L2.atI vs i = some v ∧ Dp K G v d := by
  unfold L2.atI at h ⊢
  rw [dpAll_len r]
  obtain ⟨j, h1, h2⟩ := Option.bind_eq_some_iff.mp h
  obtain ⟨v, h3, h4⟩ := dpAll_get r h2
  exact ⟨v, by rw [h1]; exact h3, h4⟩
theorem sem_ix : SemOp K (rIx K) ixR := by
  intro B H G v u x y Q s hx hy h
  cases hx with
  | lst q r => cases hy with
    | int i =>
      rename_i ds
      dsimp only [ixR] at h
      cases e : L2.atI ds i with
      | none => rw [e] at h; exact h.elim
      | some d =>
        rw [e] at h
        obtain ⟨w, h1, h2⟩ := atI_dp r e
        exact .inl ⟨_, _, i, w, rfl, rfl, s.seq q, h1, Rs.now h s h2⟩
    | _ => exact h.elim
  | tup q r => cases hy with
    | int i =>
      rename_i ds
      dsimp only [ixR] at h
      cases e : L2.atI ds i with
      | none => rw [e] at h; exact h.elim
      | some d =>
        rw [e] at h
        obtain ⟨w, h1, h2⟩ := atI_dp r e
        exact .inr (.inl ⟨_, _, i, w, rfl, rfl, Same.seqT s q, h1, Rs.now h s h2⟩)
    | _ => exact h.elim
  | str z => cases hy with
    | int i =>
      dsimp only [ixR] at h
      split at h
      · cases e : L2.atI z.cps.toList i with
        | none => rw [e] at h; exact h.elim
        | some d =>
          rw [e] at h
          exact .inr (.inr ⟨z, i, d, rfl, rfl, ‹_›, e, Rs.now h s (.str _)⟩)
      · exact h.elim
    | _ => exact h.elim
  | _ => exact h.elim
theorem cut_dp {G : Hp} {vs : List V} {xs : List D} {lo hi : Option Int} (r : DpAll K G vs xs) : DpAll K G (cutV vs lo hi) (cutD xs lo hi) := by
  unfold cutV cutD
  rw [dpAll_len r]
  exact dpAll_take _ (dpAll_drop _ r)
def rSlAll (K : PySem.W.Frag) : V → Option Int → Option Int → Hp → VK → Prop := fun x lo hi H Q => rSlL K x lo hi H Q ∨ rSlT K x lo hi H Q ∨ rSlS x lo hi H Q
theorem rule_sl : SlR X (rSlAll X.K) := sl_list.or (sl_tup.or sl_str)
theorem sem_sl {B : Str → Hp → Prop} {H G : Hp} {v : V} {x : D} {lo hi : Option Int} {Q : VK} (s : Same G H) (hx : Dp K G v x) (h : Rs K B H G Q (slR x lo hi)) : rSlAll K v lo hi H Q := by
  cases hx with
  | lst q r => exact .inl ⟨_, _, rfl, s.seq q, fun p hp => Rs.new h s hp (.lst (SqL.of upd_same) (dpAll_mono (Same.upd (s.free hp)) (cut_dp r)))⟩
  | tup q r =>
    dsimp only [slR] at h
    split at h
    · exact h.elim
    · rename_i hc
      exact .inr (.inl ⟨_, _, rfl, Same.seqT s q, by rw [dpAll_len r]; exact hc, fun p hp => Rs.new h s hp (.tup (SqT.of upd_same) (dpAll_mono (Same.upd (s.free hp)) (cut_dp r)))⟩)
  | str z =>
    dsimp only [slR] at h
    split at h
    · exact .inr (.inr ⟨z, rfl, ‹_›, h.now s (.str _)⟩)
    · exact h.elim
  | _ => exact h.elim

/-! ### built-in calls -/
theorem sem_len : SemCall K (fun xs H Q => ∃ x n, xs = [x] ∧ LenV K x H n ∧ Q (.int n) H) (bfR .len) := by
  intro B H G vs ds Q s hd h
  cases hd with
  | nil => exact h.elim
  | cons a b => cases b with
    | cons _ _ => cases a <;> exact h.elim
    | nil =>
      cases a with
      | lst q r => exact ⟨_, _, rfl, .inl ⟨_, s.seq q, rfl⟩, by rw [dpAll_len r]; exact h.now s (.int _)⟩
      | tup q r => exact ⟨_, _, rfl, .inr ⟨_, Same.seqT s q, rfl⟩, by rw [dpAll_len r]; exact h.now s (.int _)⟩
      | str z =>
        dsimp only [bfR] at h
        split at h
        · exact ⟨_, _, rfl, ⟨‹_›, rfl⟩, h.now s (.int _)⟩
        · exact h.elim
      | _ => exact h.elim
theorem sem_abs : SemCall K (fun xs H Q => ∃ i, xs = [.int i] ∧ Q (.int (if i < 0 then -i else i)) H) (bfR .abs) := by
  intro B H G vs ds Q s hd h
  cases hd with
  | nil => exact h.elim
  | cons a b => cases b with
    | cons _ _ => cases a <;> exact h.elim
    | nil =>
      cases a with
      | int i => exact ⟨i, rfl, h.now s (.int _)⟩
      | _ => exact h.elim
theorem CallR.or {v : Value} {r1 r2 : List V → Hp → VK → Prop} (h1 : CallR X v r1) (h2 : CallR X v r2) : CallR X v (fun xs H Q => r1 xs H Q ∨ r2 xs H Q) := by
  intro pins s σ H vs us Q I r h
  rcases h with h | h
  · exact h1 pins s σ H vs us Q I r h
  · exact h2 pins s σ H vs us Q I r h
theorem mxL_mem : ∀ (xs : List Int) (x : Int), mxL (x :: xs) ∈ x :: xs ∧ ∀ y ∈ x :: xs, y ≤ mxL (x :: xs) := by
  intro xs
  induction xs with
  | nil => intro x; exact ⟨List.mem_cons_self, fun y hy => by cases hy with | head => exact Int.le_refl _ | tail _ h => cases h⟩
  | cons z zs ih =>
    intro x
    have e : mxL (x :: z :: zs) = mxL ((if x < z then z else x) :: zs) := rfl
    obtain ⟨a, b⟩ := ih (if x < z then z else x)
    rw [e]
    refine ⟨?_, fun y hy => ?_⟩
    · rcases List.mem_cons.mp a with h | h
      · rw [h]; split
        · exact List.mem_cons_of_mem _ List.mem_cons_self
        · exact List.mem_cons_self
      · exact List.mem_cons_of_mem _ (List.mem_cons_of_mem _ h)
    · have c := b _ List.mem_cons_self
      rcases List.mem_cons.mp hy with h | h
      · subst h
        refine Int.le_trans ?_ c
        split <;> omega
      · rcases List.mem_cons.mp h with h | h
        · subst h
          refine Int.le_trans ?_ c
          split <;> omega
        · exact b _ (List.mem_cons_of_mem _ h)
theorem sem_max : SemCall K (fun xs H Q => (∃ i j, xs = [.int i, .int j] ∧ Q (.int (if j > i then j else i)) H) ∨ rMax K xs H Q) (bfR .max) := by
  intro B H G vs ds Q s hd h
  cases hd with
  | nil => exact h.elim
  | cons a b => cases b with
    | nil =>
      cases a with
      | lst q r =>
        rename_i ds
        dsimp only [bfR] at h
        cases e : intsOf ds with
        | none => rw [e] at h; exact h.elim
        | some ns =>
          rw [e] at h
          have z := dpAll_ints r e
          subst z
          cases ns with
          | nil => exact (show False from h).elim
          | cons n ns =>
            refine .inr ⟨_, n :: ns, rfl, s.seq q, Nat.succ_pos _, fun m hm hy => ?_⟩
            obtain ⟨a1, a2⟩ := mxL_mem ns n
            have : m = mxL (n :: ns) := Int.le_antisymm (a2 m hm) (hy _ a1)
            rw [this]
            exact Rs.now h s (.int _)
      | _ => exact h.elim
    | cons a2 b2 => cases b2 with
      | cons _ _ => cases a <;> cases a2 <;> exact h.elim
      | nil => cases a with
        | int i => cases a2 with
          | int j => exact .inl ⟨i, j, rfl, h.now s (.int _)⟩
          | _ => exact h.elim
        | _ => cases a2 <;> exact h.elim
theorem sem_min : SemCall K (fun xs H Q => ∃ i j, xs = [.int i, .int j] ∧ Q (.int (if j < i then j else i)) H) (bfR .min) := by
  intro B H G vs ds Q s hd h
  cases hd with
  | nil => exact h.elim
  | cons a b => cases b with
    | nil => cases a <;> exact h.elim
    | cons a2 b2 => cases b2 with
      | cons _ _ => cases a <;> cases a2 <;> exact h.elim
      | nil => cases a with
        | int i => cases a2 with
          | int j => exact ⟨i, j, rfl, h.now s (.int _)⟩
          | _ => exact h.elim
        | _ => exact h.elim
theorem sem_int : SemCall K (fun xs H Q => ((∃ i, xs = [.int i] ∧ Q (.int i) H) ∨ ∃ k, xs = [.bl k] ∧ Q (.int (if k then 1 else 0)) H) ∨ ∃ a n, xs = [.str a] ∧ PySem.intText? a = some n ∧ a.length ≤ 640 ∧ Q (.int n) H) (bfR .int) := by
  intro B H G vs ds Q s hd h
  cases hd with
  | nil => exact h.elim
  | cons a b => cases b with
    | cons _ _ => cases a <;> exact h.elim
    | nil =>
      cases a with
      | int i => exact .inl (.inl ⟨i, rfl, h.now s (.int _)⟩)
      | bl i => exact .inl (.inr ⟨i, rfl, h.now s (.int _)⟩)
      | str z =>
        dsimp only [bfR] at h
        split at h
        · cases e : PySem.intText? z with
          | none => rw [e] at h; exact h.elim
          | some n => rw [e] at h; exact .inr ⟨z, n, rfl, e, ‹_›, Rs.now h s (.int _)⟩
        · exact h.elim
      | _ => exact h.elim
theorem sem_sum : SemCall K (rSum K) (bfR .sum) := by
  intro B H G vs ds Q s hd h
  cases hd with
  | nil => exact h.elim
  | cons a b => cases b with
    | cons _ _ => cases a <;> exact h.elim
    | nil =>
      cases a with
      | lst q r =>
        rename_i ds
        dsimp only [bfR] at h
        cases e : intsOf ds with
        | none => rw [e] at h; exact h.elim
        | some ns =>
          rw [e] at h
          have z := dpAll_ints r e
          subst z
          exact ⟨_, ns, rfl, s.seq q, Rs.now h s (.int _)⟩
      | _ => exact h.elim
theorem sem_all : SemCall K (rAll K) (bfR .all) := by
  intro B H G vs ds Q s hd h
  cases hd with
  | nil => exact h.elim
  | cons a b => cases b with
    | cons _ _ => cases a <;> exact h.elim
    | nil =>
      cases a with
      | lst q r =>
        rename_i ds
        dsimp only [bfR] at h
        cases e : blsOf ds with
        | none => rw [e] at h; exact h.elim
        | some ns =>
          rw [e] at h
          have z := dpAll_bls r e
          subst z
          exact ⟨_, ns, rfl, s.seq q, Rs.now h s (.bl _)⟩
      | _ => exact h.elim
theorem sem_any : SemCall K (rAny K) (bfR .any) := by
  intro B H G vs ds Q s hd h
  cases hd with
  | nil => exact h.elim
  | cons a b => cases b with
    | cons _ _ => cases a <;> exact h.elim
    | nil =>
      cases a with
      | lst q r =>
        rename_i ds
        dsimp only [bfR] at h
        cases e : blsOf ds with
        | none => rw [e] at h; exact h.elim
        | some ns =>
          rw [e] at h
          have z := dpAll_bls r e
          subst z
          exact ⟨_, ns, rfl, s.seq q, Rs.now h s (.bl _)⟩
      | _ => exact h.elim
theorem sem_tuple : SemCall K (fun xs H Q => ∃ p ys, xs = [.ref p] ∧ ((SqL K H p ys ∧ ∀ l, H l = none → Q (.ref l) (upd H l (.tup ys))) ∨ (SqT K H p ys ∧ Q (.ref p) H))) (bfR .tuple) := by
  intro B H G vs ds Q s hd h
  cases hd with
  | nil => exact h.elim
  | cons a b => cases b with
    | cons _ _ => cases a <;> exact h.elim
    | nil =>
      cases a with
      | lst q r => exact ⟨_, _, rfl, .inl ⟨s.seq q, fun p hp => Rs.new h s hp (.tup (SqT.of upd_same) (dpAll_mono (Same.upd (s.free hp)) r))⟩⟩
      | tup q r => exact ⟨_, _, rfl, .inr ⟨Same.seqT s q, h.now s (.tup q r)⟩⟩
      | _ => exact h.elim
theorem sem_list : SemCall K (fun xs H Q => ∃ p ys, xs = [.ref p] ∧ (SqL K H p ys ∨ SqT K H p ys) ∧ ∀ l, H l = none → Q (.ref l) (upd H l (.lst ys))) (bfR .list) := by
  intro B H G vs ds Q s hd h
  cases hd with
  | nil => exact h.elim
  | cons a b => cases b with
    | cons _ _ => cases a <;> exact h.elim
    | nil =>
      cases a with
      | lst q r => exact ⟨_, _, rfl, .inl (s.seq q), fun p hp => Rs.new h s hp (.lst (SqL.of upd_same) (dpAll_mono (Same.upd (s.free hp)) r))⟩
      | tup q r => exact ⟨_, _, rfl, .inr (Same.seqT s q), fun p hp => Rs.new h s hp (.lst (SqL.of upd_same) (dpAll_mono (Same.upd (s.free hp)) r))⟩
      | _ => exact h.elim
def bfName : Bf → Str
  | .len => "len"
  | .abs => "abs"
  | .max => "max"
  | .min => "min"
  | .int => "int"
  | .sum => "sum"
  | .all => "all"
  | .any => "any"
  | .tuple => "tuple"
  | .list => "list"
def bfVal : Bf → Value
  | .len => .builtin "len"
  | .abs => .builtin "abs"
  | .max => .builtin "max"
  | .min => .builtin "min"
  | .int => .type "int"
  | .sum => .builtin "sum"
  | .all => .builtin "all"
  | .any => .builtin "any"
  | .tuple => .type "tuple"
  | .list => .type "list"
theorem bf_boot (f : Bf) : bootBuiltins (bfName f) = some (bfVal f) := by cases f <;> decide +kernel
theorem bf_name (f : Bf) : bfName f ≠ "__name__" := by cases f <;> decide +kernel
theorem bf_dbg (f : Bf) : (bfName f == ("__debug__" : Str)) = false := by cases f <;> decide +kernel
theorem rule_bf (hc : X.calm = true) : ∀ f : Bf, ∃ r, CallR X (bfVal f) r ∧ SemCall X.K r (bfR f)
  | .len => ⟨_, call_len, sem_len⟩
  | .abs => ⟨_, call_abs, sem_abs⟩
  | .max => ⟨_, CallR.or (call_max2 hc) (cr_max hc), sem_max⟩
  | .min => ⟨_, call_min2 hc, sem_min⟩
  | .int => ⟨_, CallR.or call_int1 call_int_str, sem_int⟩
  | .sum => ⟨_, cr_sum hc, sem_sum⟩
  | .all => ⟨_, cr_all hc, sem_all⟩
  | .any => ⟨_, cr_any hc, sem_any⟩
  | .tuple => ⟨_, call_tuple_of, sem_tuple⟩
  | .list => ⟨_, call_list_of, sem_list⟩

/-! ### isinstance -/
def tyName : Ty → String
  | .int => "int"
  | .bool => "bool"
  | .tuple => "tuple"
  | .list => "list"
  | .str => "str"
theorem ty_boot (t : Ty) : bootBuiltins (Str.ofString (tyName t)) = some (.type (tyName t)) := by cases t <;> decide +kernel
theorem ty_name (t : Ty) : Str.ofString (tyName t) ≠ "__name__" := by cases t <;> decide +kernel
theorem ty_dbg (t : Ty) : (Str.ofString (tyName t) == ("__debug__" : Str)) = false := by cases t <;> decide +kernel
theorem tyX_lst {H : Hp} {a : Addr} {xs : List V} (h : SqL K H a xs) : TyX K H (.ref a) (.type "list") := by
  rcases h with (h | ⟨o, h⟩) | ⟨o, its, n, h, hc, _⟩
  · exact .base (.lst h)
  · exact .base (.frz h)
  · exact .kList h hc
theorem tyX_tup {H : Hp} {a : Addr} {xs : List V} (h : SqT K H a xs) : TyX K H (.ref a) (.type "tuple") := by
  rcases h with (h | ⟨o, h⟩) | ⟨o, its, n, h, hc, _⟩
  · exact .base (.tup h)
  · exact .fTuple h
  · exact .kTuple h hc
theorem kit_all (t : Ty) : ∀ n ∈ ["NoneType", "bool", "int", "str", "list", "tuple"], kitB n (tyName t) = some (decide (n = tyName t) || (decide (n = "bool") && decide (tyName t = "int"))) := by
  cases t <;> decide +kernel
theorem sem_isi {B : Str → Hp → Prop} {H G : Hp} {v : V} {x : D} {t : Ty} {Q : VK} (s : Same G H) (hx : Dp K G v x) (h : Rs K B H G Q (isiR t x)) : rIsi K [v, .ty (tyName t)] H Q := by
  cases hx with
  | non => exact ⟨_, _, _, _, _, rfl, .ty _, .base .non, kit_ty (kit_all t "NoneType" (by decide)), by cases t <;> exact h.now s (.bl _)⟩
  | bl b => exact ⟨_, _, _, _, _, rfl, .ty _, .base (.bl b), kit_ty (kit_all t "bool" (by decide)), by cases t <;> exact h.now s (.bl _)⟩
  | int b => exact ⟨_, _, _, _, _, rfl, .ty _, .base (.int b), kit_ty (kit_all t "int" (by decide)), by cases t <;> exact h.now s (.bl _)⟩
  | str b => exact ⟨_, _, _, _, _, rfl, .ty _, .base (.str b), kit_ty (kit_all t "str" (by decide)), by cases t <;> exact h.now s (.bl _)⟩
  | lst q r => exact ⟨_, _, _, _, _, rfl, .ty _, tyX_lst (s.seq q), kit_ty (kit_all t "list" (by decide)), by cases t <;> exact h.now s (.bl _)⟩
  | tup q r => exact ⟨_, _, _, _, _, rfl, .ty _, tyX_tup (Same.seqT s q), kit_ty (kit_all t "tuple" (by decide)), by cases t <;> exact h.now s (.bl _)⟩
end
end Cw

set_option Elab.async false
set_option linter.all false
set_option maxRecDepth 100000
set_option maxHeartbeats 4000000
namespace Cw
open PySem PySem.Spec PyProof.Rows L2

/-! ### walks -/
structure WalkD (K : PySem.W.Frag) (J : L2.It) (G : Hp) (ds : List D) : Prop where
  le : ds.length ≤ sizeLine
  goes : ∀ i H, i < ds.length → SameD G H → J.go i H
  stops : ∀ H, SameD G H → J.stop ds.length H
  yields : ∀ i H x H' G1, i < ds.length → SameD G G1 → Same G1 H → J.yld i H x H' → ∃ d G2, ds[i]? = some d ∧ Ext H G1 H' G2 ∧ Dp K G2 x d
theorem WalkD.back {K : PySem.W.Frag} {J : L2.It} {G G3 : Hp} {ds : List D} (w : WalkD K J G ds) (s3 : SameD G G3) (s4 : Same G3 G) : WalkD K J G3 ds :=
  have t : ∀ {H : Hp}, SameD G3 H → SameD G H := fun h b o e n => h b o (s3 b o e n) n
  ⟨w.le, fun i H hi s => w.goes i H hi (t s), fun H s => w.stops H (t s), fun i H x H' G1 hi s s1 y => w.yields i H x H' G1 hi (t s) s1 y⟩
theorem walkD_list {K : PySem.W.Frag} {G : Hp} {a : Addr} {vs : List V} {ds : List D} (q : SqL K G a vs) (r : DpAll K G vs ds) (hz : vs.length ≤ sizeLine) : WalkD K (Itl K a) G ds := by
  have e := dpAll_len r
  refine ⟨by omega, fun i H hi s => ?_, fun H s => ⟨vs, s.seq q, by omega⟩, fun i H x H' G1 hi s s1 y => ?_⟩
  · exact ⟨vs, vs[i]'(by omega), s.seq q, List.getElem?_eq_getElem (by omega)⟩
  · obtain ⟨rfl, y⟩ := y
    obtain ⟨d, h1, h2⟩ := dpAll_getV r (y vs ((s.trans s1).seq q))
    exact ⟨d, G1, h1, Ext.refl s1, dp_monoD s h2⟩
theorem walkD_tup {K : PySem.W.Frag} {G : Hp} {a : Addr} {vs : List V} {ds : List D} (q : SqT K G a vs) (r : DpAll K G vs ds) (hz : vs.length ≤ sizeLine) : WalkD K (Itt K a) G ds := by
  have e := dpAll_len r
  refine ⟨by omega, fun i H hi s => ?_, fun H s => ⟨vs, SameD.seqT s q, by omega⟩, fun i H x H' G1 hi s s1 y => ?_⟩
  · exact ⟨vs, vs[i]'(by omega), SameD.seqT s q, List.getElem?_eq_getElem (by omega)⟩
  · obtain ⟨rfl, y⟩ := y
    obtain ⟨d, h1, h2⟩ := dpAll_getV r (y vs (SameD.seqT (s.trans s1) q))
    exact ⟨d, G1, h1, Ext.refl s1, dp_monoD s h2⟩
theorem walkD_range {K : PySem.W.Frag} {G : Hp} {lo : Int} {n : Nat} (hn : n ≤ 1000000) : WalkD K (Itr lo n) G (rngL lo n) := by
  have e : (rngL lo n).length = n := by unfold rngL; rw [List.length_map, List.length_range]
  refine ⟨by rw [e, sizeLine_eq]; omega, fun i H hi s => ?_, fun H s => ?_, fun i H x H' G1 hi s s1 y => ?_⟩
  · rw [e] at hi; exact hi
  · rw [e]; exact Nat.le_refl _
  · obtain ⟨rfl, rfl⟩ := y
    rw [e] at hi
    refine ⟨_, G1, ?_, Ext.refl s1, .int (lo + i)⟩
    unfold rngL
    rw [List.getElem?_map, List.getElem?_range hi]; rfl
theorem zipL_len : ∀ (as bs : List D), (zipL as bs).length = min as.length bs.length
  | [], _ => by simp [zipL]
  | _ :: _, [] => by simp [zipL]
  | a :: as, b :: bs => by simp only [zipL, List.length_cons, zipL_len as bs]; omega
theorem zipL_get : ∀ (as bs : List D) (i : Nat) (a b : D), as[i]? = some a → bs[i]? = some b → (zipL as bs)[i]? = some (.tuple [a, b])
  | [], _, i, a, b, h, _ => by simp at h
  | _ :: _, [], i, a, b, _, h => by simp at h
  | x :: as, y :: bs, 0, a, b, h, g => by simp at h g; subst h g; rfl
  | x :: as, y :: bs, i + 1, a, b, h, g => by
    simp only [List.getElem?_cons_succ] at h g
    simp only [zipL, List.getElem?_cons_succ]
    exact zipL_get as bs i a b h g
theorem pair_dp {K : PySem.W.Frag} {G : Hp} {T : Addr} {x y : V} {a b : D} (hT : G T = none) (h1 : Dp K G x a) (h2 : Dp K G y b) : Dp K (upd G T (.tup [x, y])) (.ref T) (.tuple [a, b]) :=
  .tup (SqT.of upd_same) (.cons (dp_mono (Same.upd hT) h1) (.cons (dp_mono (Same.upd hT) h2) .nil))
theorem walkD_zipL {K : PySem.W.Frag} {G : Hp} {a b : Addr} {vs ws : List V} {ds es : List D} (q : SqL K G a vs) (r : DpAll K G vs ds) (q2 : SqL K G b ws) (r2 : DpAll K G ws es) (hz : ds.length ≤ sizeLine) : WalkD K (Itz K a b) G (zipL ds es) := by
  have e := dpAll_len r
  have e2 := dpAll_len r2
  have e3 := zipL_len ds es
  refine ⟨by omega, fun i H hi s => ?_, fun H s => ⟨vs, ws, s.seq q, s.seq q2, by omega⟩, fun i H x H' G1 hi s s1 y => ?_⟩
  · exact ⟨vs, ws, vs[i]'(by omega), ws[i]'(by omega), s.seq q, s.seq q2, List.getElem?_eq_getElem (by omega), List.getElem?_eq_getElem (by omega)⟩
  · obtain ⟨T, x1, x2, rfl, hT, rfl, y1, y2⟩ := y
    obtain ⟨d, h1, h2⟩ := dpAll_getV r (y1 vs ((s.trans s1).seq q))
    obtain ⟨d2, h3, h4⟩ := dpAll_getV r2 (y2 ws ((s.trans s1).seq q2))
    exact ⟨_, upd G1 T (.tup [x1, x2]), zipL_get ds es i d d2 h1 h3, Ext.new s1 hT, pair_dp (s1.free hT) (dp_monoD s h2) (dp_monoD s h4)⟩
theorem walkD_zipT {K : PySem.W.Frag} {G : Hp} {a b : Addr} {vs ws : List V} {ds es : List D} (q : SqT K G a vs) (r : DpAll K G vs ds) (q2 : SqT K G b ws) (r2 : DpAll K G ws es) (hz : ds.length ≤ sizeLine) : WalkD K (RZ.ItzT K a b) G (zipL ds es) := by
  have e := dpAll_len r
  have e2 := dpAll_len r2
  have e3 := zipL_len ds es
  refine ⟨by omega, fun i H hi s => ?_, fun H s => ⟨vs, ws, SameD.seqT s q, SameD.seqT s q2, by omega⟩, fun i H x H' G1 hi s s1 y => ?_⟩
  · exact ⟨vs, ws, vs[i]'(by omega), ws[i]'(by omega), SameD.seqT s q, SameD.seqT s q2, List.getElem?_eq_getElem (by omega), List.getElem?_eq_getElem (by omega)⟩
  · obtain ⟨T, x1, x2, rfl, hT, rfl, y1, y2⟩ := y
    obtain ⟨d, h1, h2⟩ := dpAll_getV r (y1 vs (SameD.seqT (s.trans s1) q))
    obtain ⟨d2, h3, h4⟩ := dpAll_getV r2 (y2 ws (SameD.seqT (s.trans s1) q2))
    exact ⟨_, upd G1 T (.tup [x1, x2]), zipL_get ds es i d d2 h1 h3, Ext.new s1 hT, pair_dp (s1.free hT) (dp_monoD s h2) (dp_monoD s h4)⟩
theorem enumL_len : ∀ (k : Nat) (as : List D), (enumL k as).length = as.length
  | _, [] => rfl
  | k, a :: as => by simp only [enumL, List.length_cons, enumL_len (k + 1) as]
theorem enumL_get : ∀ (k : Nat) (as : List D) (i : Nat) (a : D), as[i]? = some a → (enumL k as)[i]? = some (.tuple [.int ((k + i : Nat) : Int), a])
  | _, [], i, a, h => by simp at h
  | k, x :: as, 0, a, h => by simp at h; subst h; rfl
  | k, x :: as, i + 1, a, h => by
    simp only [List.getElem?_cons_succ] at h
    simp only [enumL, List.getElem?_cons_succ]
    rw [enumL_get (k + 1) as i a h]
    have z : k + 1 + i = k + (i + 1) := by omega
    rw [z]
theorem walkD_enum {K : PySem.W.Frag} {G : Hp} {a : Addr} {vs : List V} {ds : List D} (q : SqL K G a vs) (r : DpAll K G vs ds) (hz : ds.length ≤ sizeLine) : WalkD K (Ite K a) G (enumL 0 ds) := by
  have e := dpAll_len r
  have e3 := enumL_len 0 ds
  have w := walk_enum (K := K) (a := a) (xs := vs)
  refine ⟨by omega, fun i H hi s => w.goes i H (by omega) (s.seq q), fun H s => ?_, fun i H x H' G1 hi s s1 y => ?_⟩
  · have z := w.stops H (s.seq q)
    rw [e3, ← e]; exact z
  · obtain ⟨T, x1, x2, rfl, hT, rfl, y1, y2⟩ := w.yields i H x H' (by omega) ((s.trans s1).seq q) y
    cases y1
    obtain ⟨d, h1, h2⟩ := dpAll_getV r y2
    refine ⟨_, upd G1 T (.tup [.int (i : Nat), x2]), enumL_get 0 ds i d h1, Ext.new s1 hT, ?_⟩
    rw [Nat.zero_add]
    exact pair_dp (s1.free hT) (.int _) (dp_monoD s h2)

theorem walk_enumT {K : PySem.W.Frag} {a : Addr} {xs : List V} : Walk (IteT K a) xs.length (fun H => SqT K H a xs) (YPair (fun i => some (.int (i : Nat))) (fun i => xs[i]?)) := by
  refine ⟨fun i _ hi q => ⟨xs, xs[i], q, by simp [hi]⟩, fun _ q => ⟨xs, q, Nat.le_refl _⟩, fun i H v H' _ q y => ?_⟩
  obtain ⟨T, x, h1, h2, h3, h4⟩ := y
  exact ⟨T, .int (i : Nat), x, h1, h2, h3, rfl, h4 xs q⟩
theorem walkD_enumT {K : PySem.W.Frag} {G : Hp} {a : Addr} {vs : List V} {ds : List D} (q : SqT K G a vs) (r : DpAll K G vs ds) (hz : ds.length ≤ sizeLine) : WalkD K (IteT K a) G (enumL 0 ds) := by
  have e := dpAll_len r
  have e3 := enumL_len 0 ds
  have w := walk_enumT (K := K) (a := a) (xs := vs)
  refine ⟨by omega, fun i H hi s => w.goes i H (by omega) (SameD.seqT s q), fun H s => ?_, fun i H x H' G1 hi s s1 y => ?_⟩
  · have z := w.stops H (SameD.seqT s q)
    rw [e3, ← e]; exact z
  · obtain ⟨T, x1, x2, rfl, hT, rfl, y1, y2⟩ := w.yields i H x H' (by omega) (SameD.seqT (s.trans s1) q) y
    cases y1
    obtain ⟨d, h1, h2⟩ := dpAll_getV r y2
    refine ⟨_, upd G1 T (.tup [.int (i : Nat), x2]), enumL_get 0 ds i d h1, Ext.new s1 hT, ?_⟩
    rw [Nat.zero_add]
    exact pair_dp (s1.free hT) (.int _) (dp_monoD s h2)

theorem walkD_str {K : PySem.W.Frag} {G : Hp} {z : Str} (hz : z.length ≤ sizeLine) : WalkD K (Its z) G (z.cps.toList.map fun c => .str ⟨#[c]⟩) := by
  have w := walk_str (z := z)
  have e : (z.cps.toList.map fun c => (.str ⟨#[c]⟩ : D)).length = z.cps.size := by simp
  refine ⟨by rw [e]; exact hz, fun i H hi s => w.goes i H (by omega) trivial, fun H s => ?_, fun i H x H' G1 hi s s1 y => ?_⟩
  · rw [e]; exact w.stops H trivial
  · obtain ⟨rfl, c, h1, rfl⟩ := w.yields i H x H' (by omega) trivial y
    refine ⟨.str ⟨#[c]⟩, G1, ?_, Ext.refl s1, .str _⟩
    rw [List.getElem?_map, Array.getElem?_toList, h1]
    rfl
/-- what is wanted of a walk -/
def RsI (K : PySem.W.Frag) (B : Str → Hp → Prop) (H G : Hp) (R0 : L2.It → Hp → Prop) : R (List D) → Prop
  | .ok ds => ∀ J H' G', Ext H G H' G' → WalkD K J G' ds → R0 J H'
  | .exc c => ∀ H' G', Ext H G H' G' → B c H'
  | .bad => False
theorem RsI.step {K : PySem.W.Frag} {B : Str → Hp → Prop} {H G H1 G1 : Hp} {R0 : L2.It → Hp → Prop} {r : R (List D)} (h : RsI K B H G R0 r) (e : Ext H G H1 G1) : RsI K B H1 G1 R0 r := by
  cases r with
  | ok d => exact fun J H' G' x p => h J H' G' (e.trans x) p
  | exc c => exact fun H' G' x => h H' G' (e.trans x)
  | bad => exact h
def rdI (K : PySem.W.Frag) (ca : Str → Value) (W : WX) (r : List Sl → R (List D)) : TI := fun σ H R0 => ∃ env G, Same G H ∧ EnvR K G σ env ∧ RsI K (BX ca W σ) H G R0 (r env)
theorem PI.imp {X : Cx} {tg e : Expr} {t t' : TI} (h : PI X tg e t) (i : ∀ σ H R0, t' σ H R0 → t σ H R0) : PI X tg e t' := ⟨fun pins s σ H Q I q => h.run pins s σ H Q I (i _ _ _ q)⟩
section
variable {K : PySem.W.Frag} {ca : Str → Value} {W : WX} {X : Cx}
theorem RsI.bind {B : Str → Hp → Prop} {H G : Hp} {Q : L2.It → Hp → Prop} {N : V → Hp → Prop} {r : R D} {f : D → R (List D)} (h : RsI K B H G Q (r.bind f))
    (n : ∀ x v H1 G1, r = .ok x → Ext H G H1 G1 → Dp K G1 v x → RsI K B H1 G1 Q (f x) → N v H1) : Rs K B H G N r := by
  cases r with
  | ok x => exact fun v H1 G1 e p => n x v H1 G1 rfl e p (RsI.step h e)
  | exc c => exact h
  | bad => exact h
def iSeq (K : PySem.W.Frag) (tl : TE) : TI := fun σ H R0 => tl σ H fun x H1 => (∃ z, x = .str z ∧ R0 (Its z) H1) ∨ ∃ a, x = .ref a ∧ ((∃ xs, SqL K H1 a xs ∧ (xs.length ≤ sizeLine → R0 (Itl K a) H1)) ∨ (∃ xs, SqT K H1 a xs ∧ (xs.length ≤ sizeLine → R0 (Itt K a) H1)))
theorem pi_seq {l tg : Expr} {tl : TE} (hl : PE X l tl) : PI X tg l (iSeq X.K tl) := by
  refine ⟨fun pins s σ H R0 I h => ?_⟩
  refine thn (hl.run pins s σ H _ I h) fun v s1 ⟨x, H1, I1, r1, q1⟩ => ?_
  rcases q1 with ⟨z, e, q1⟩ | ⟨a, e, q1⟩
  · subst e
    obtain ⟨t, rfl⟩ := r1
    cases ha : z.cps.all (· < 128)
    · exact wpAny_pyIter_wide ha (pi_one (tk := s1.toks) I1 _ (turn_str _ z t "str_iterator" (.inr rfl)) ⟨_, Heap.get?_push_size _ rfl, rfl, rfl⟩ q1)
    · exact wpAny_pyIter_ascii ha (pi_one (tk := s1.toks) I1 _ (turn_str _ z t "str_ascii_iterator" (.inl rfl)) ⟨_, Heap.get?_push_size _ rfl, rfl, rfl⟩ q1)
  subst e
  cases r1
  rcases q1 with ⟨xs, hq, q⟩ | ⟨xs, hq, q⟩
  · obtain ⟨its, rv, p, hz⟩ := I1.list hq
    refine wpAny_pyIter_list p.isList ?_
    refine ⟨s1.heap.objs.size, [s1.heap.objs.size], _, _, H1, rfl, I1.kept (t' := s1.toks) fun b o e => Heap.get?_push_of_some _ e, turn_list a _, ⟨_, Heap.get?_push_size _ rfl, rfl, rfl⟩, fun b hb => ?_, q hz⟩
    have e : b = s1.heap.objs.size := by simpa using hb
    subst e
    exact I1.fpOk (Nat.le_refl _) (I1.hok.fresh (Nat.le_refl _))
  · obtain ⟨its, rv, p, hz⟩ := I1.tuple hq
    refine wpAny_pyIter_tuple (show s1.heap.IsTuple a its.toArray from p) ?_
    refine ⟨s1.heap.objs.size, [s1.heap.objs.size], _, _, H1, rfl, I1.kept (t' := s1.toks) fun b o e => Heap.get?_push_of_some _ e, turn_tuple a _, ⟨_, Heap.get?_push_size _ rfl, rfl, rfl⟩, fun b hb => ?_, q hz⟩
    have e : b = s1.heap.objs.size := by simpa using hb
    subst e
    exact I1.fpOk (Nat.le_refl _) (I1.hok.fresh (Nat.le_refl _))
theorem it_seq {l tg : Expr} {r : List Sl → R D} (hl : PE X l (rdE X.K ca W r)) : PI X tg l (rdI X.K ca W fun env => (r env).bind seqR) :=
  PI.imp (pi_seq hl) fun σ H R0 ⟨env, G, hg, he, hm0⟩ => ⟨env, G, hg, he, RsI.bind hm0 fun x v H1 G1 _ e1 hx hm => by
    have s := e1.c
    cases hx with
    | lst q rr => exact .inr ⟨_, rfl, .inl ⟨_, s.seq q, fun hz => hm _ H1 G1 (Ext.refl s) (walkD_list q rr hz)⟩⟩
    | tup q rr => exact .inr ⟨_, rfl, .inr ⟨_, Same.seqT s q, fun hz => hm _ H1 G1 (Ext.refl s) (walkD_tup q rr hz)⟩⟩
    | str z =>
      dsimp only [seqR] at hm
      split at hm
      · exact .inl ⟨z, rfl, hm _ H1 G1 (Ext.refl s) (walkD_str ‹_›)⟩
      · exact hm.elim
    | _ => exact hm.elim⟩

/-! ### argument lists -/
def notStar : Expr → Bool
  | .Starred _ _ => false
  | _ => true
theorem star_cons {e : Expr} {es : List Expr} {env : Env} (h : notStar e = true) : starEach (e :: es) env = (false, eval e env) :: starEach es env := by
  cases e <;> first | rfl | cases h
theorem star_none {env : Env} {pos : Pos} : ∀ {es : List Expr}, es.all notStar = true → (backTo pos (starEach es env)).any (·.1) = false
  | [], _ => rfl
  | e :: es, h => by
    rw [List.all_cons, Bool.and_eq_true] at h
    have ih := star_none (env := env) (pos := pos) h.2
    rw [star_cons h.1]
    show (false || (backTo pos (starEach es env)).any (·.1)) = false
    rw [ih]; rfl
theorem a_nil : PA X [] (rdA X.K ca W fun _ => .ok []) := PA.imp pa_nil fun σ H Q ⟨env, G, s, he, hm⟩ => hm [] H G (Ext.refl s) .nil
theorem a_cons {e : Expr} {es : List Expr} {ra : List Sl → R D} {rb : List Sl → R (List D)} (n : notStar e = true) (ha : PE X e (rdE X.K ca W ra)) (hb : PA X es (rdA X.K ca W rb)) :
    PA X (e :: es) (rdA X.K ca W fun env => (ra env).bind fun x => (rb env).bind fun xs => .ok (x :: xs)) :=
  PA.imp (pa_cons ha hb (star_cons n)) fun σ H Q ⟨env, G, hg, he, hm⟩ => by
    refine ⟨env, G, hg, he, ?_⟩
    dsimp only at hm
    cases ea : ra env with
    | exc c => rw [ea] at hm; exact hm
    | bad => rw [ea] at hm; exact hm
    | ok x =>
      rw [ea] at hm
      intro v H1 G1 e1 p1
      refine ⟨env, G1, e1.c, he.mono e1.b, ?_⟩
      have hm1 := RsA.step hm e1
      dsimp only [R.bind] at hm1
      cases eb : rb env with
      | exc c => rw [eb] at hm1; exact hm1
      | bad => rw [eb] at hm1; exact hm1
      | ok xs =>
        rw [eb] at hm1
        intro vs H2 G2 e2 p2
        exact hm1 (v :: vs) H2 G2 e2 (.cons (dp_mono e2.b p1) p2)

/-! ### nodes -/
structure Both (X : Cx) (ca : Str → Value) (W : WX) (e : Expr) (r : List Sl → R D) : Prop where
  pe : PE X e (rdE X.K ca W r)
  pt : PT X e (rdT X.K ca W r)
theorem rdT_val {r : List Sl → R D} {σ : L2.St} {H : Hp} {Q : Bool → Hp → Prop} (h : rdT K ca W r σ H Q) : rdE K ca W r σ H fun x H1 => ∃ c, x = .bl c ∧ Q c H1 := by
  obtain ⟨env, G, hg, he, hm⟩ := h
  refine ⟨env, G, hg, he, ?_⟩
  cases ha : r env with
  | exc c => rw [ha] at hm; exact hm
  | bad => rw [ha] at hm; exact hm
  | ok d =>
    rw [ha] at hm
    intro v H1 G1 e p
    cases p with
    | bl b => exact ⟨b, rfl, hm H1 G1 e⟩
    | _ => exact hm.elim
theorem both_val {e : Expr} {r : List Sl → R D} (h : PE X e (rdE X.K ca W r)) (he : ∀ whole, isTrue e X.env whole = (do let v ← whole; standAt e.pos; holding [v] (truthy v))) : Both X ca W e r :=
  ⟨h, PT.imp (pt_val h he) fun _ _ _ q => rdT_val q⟩
theorem e_const {e : Expr} {v : V} {d : D} (h : PE X e (tC v)) (hd : ∀ G, Dp X.K G v d) : PE X e (rdE X.K ca W fun _ => .ok d) :=
  PE.imp h fun σ H Q ⟨env, G, s, he, hm⟩ => hm v H G (Ext.refl s) (hd G)
theorem e_var {e : Expr} {i : Nat} (h : PE X e (tVar i)) : PE X e (rdE X.K ca W fun env => getV env i) :=
  PE.imp h fun σ H Q ⟨env, G, s, he, hm⟩ => by
    dsimp only [getV] at hm
    cases q : env[i]? with
    | none => rw [q] at hm; exact hm.elim
    | some z =>
      rw [q] at hm
      cases z with
      | fr d =>
        obtain ⟨v, h1, h2⟩ := he.get i d q
        exact ⟨v, h1, hm v H G (Ext.refl s) h2⟩
      | _ => exact hm.elim
theorem e_tup {es : List Expr} {k : Nat} {pos : Pos} {r : List Sl → R (List D)} (h : PA X es (rdA X.K ca W r)) (hl : es.length ≤ 1000) (hn : ∀ env ds, r env = .ok ds → ds.length = es.length) :
    PE X (.Tuple es k pos) (rdE X.K ca W fun env => (r env).bind fun ds => .ok (.tuple ds)) :=
  PE.imp (pe_tup h) fun σ H Q hh => by
    obtain ⟨env0, G0, s0, he0, hm0⟩ := hh
    refine ⟨env0, G0, s0, he0, ?_⟩
    dsimp only at hm0
    cases ha : r env0 with
    | exc c => rw [ha] at hm0; exact hm0
    | bad => rw [ha] at hm0; exact hm0
    | ok ds =>
      rw [ha] at hm0
      intro vs H1 G1 e p
      refine ⟨by rw [dpAll_len p, hn env0 ds ha, sizeLine_eq]; omega, fun q hq => ?_⟩
      exact Rs.new (Rs.step hm0 e) e.c hq (.tup (SqT.of upd_same) (dpAll_mono (Same.upd (e.c.free hq)) p))
/-- a new list -/
def RsL (K : PySem.W.Frag) (B : Str → Hp → Prop) (H G : Hp) (Q : VK) : R D → Prop
  | .ok (.list ds) => ∀ p vs H' G', Ext H G H' G' → H p = none → G' p = none → H' p = some (.lst vs) → DpAll K G' vs ds → Q (.ref p) H'
  | .ok _ => False
  | .exc c => ∀ H' G', Ext H G H' G' → B c H'
  | .bad => False
def rdL (K : PySem.W.Frag) (ca : Str → Value) (W : WX) (r : List Sl → R D) : TE := fun σ H Q => ∃ env G, Same G H ∧ EnvR K G σ env ∧ RsL K (BX ca W σ) H G Q (r env)
theorem Ext.freeze {H G H' G' : Hp} {p : Addr} {vs : List V} (e : Ext H G H' G') (h1 : H p = none) (h2 : G' p = none) (h3 : H' p = some (.lst vs)) : Ext H G H' (upd G' p (.lst vs)) := by
  refine ⟨e.a, e.b.trans (Same.upd h2), fun b o q => ?_, fun b o q n => ?_⟩
  · by_cases z : b = p
    · subst z; rw [upd_same] at q; cases q; exact h3
    · rw [upd_ne z] at q; exact e.c b o q
  · rw [upd_ne (ne_of_none q h1)]; exact e.d b o q n
theorem e_ofL {e : Expr} {r : List Sl → R D} (h : PE X e (rdL X.K ca W r)) (hl : ∀ env d, r env = .ok d → ∃ l, d = .list l) : PE X e (rdE X.K ca W r) :=
  PE.imp h fun σ H Q ⟨env, G, s, he, hm⟩ => by
    refine ⟨env, G, s, he, ?_⟩
    cases ha : r env with
    | exc c => rw [ha] at hm; exact hm
    | bad => rw [ha] at hm; exact hm
    | ok d =>
      obtain ⟨l, rfl⟩ := hl env d ha
      rw [ha] at hm
      exact fun p vs H' G' x h1 h2 h3 h4 => hm (.ref p) H' _ (x.freeze h1 h2 h3) (.lst (SqL.of upd_same) (dpAll_mono (Same.upd h2) h4))
theorem e_lst {es : List Expr} {pos : Pos} {r : List Sl → R (List D)} (h : PA X es (rdA X.K ca W r)) (hl : es.length ≤ 1000) (hn : ∀ env ds, r env = .ok ds → ds.length = es.length) :
    PE X (.List es pos) (rdL X.K ca W fun env => (r env).bind fun ds => .ok (.list ds)) :=
  PE.imp (pe_lst h) fun σ H Q hh => by
    obtain ⟨env0, G0, s0, he0, hm0⟩ := hh
    refine ⟨env0, G0, s0, he0, ?_⟩
    dsimp only at hm0
    cases ha : r env0 with
    | exc c => rw [ha] at hm0; exact hm0
    | bad => rw [ha] at hm0; exact hm0
    | ok ds =>
      rw [ha] at hm0
      intro vs H1 G1 e p
      refine ⟨by rw [dpAll_len p, hn env0 ds ha, sizeLine_eq]; omega, fun q hq => ?_⟩
      have h0 : H q = none := by
        cases z : H q with
        | none => rfl
        | some o => rw [e.a q o z] at hq; cases hq
      refine hm0 q vs _ G1 ⟨e.a.trans (Same.upd hq), e.b, e.c.trans (Same.upd hq), e.d⟩ h0 (e.c.free hq) upd_same p
theorem e_bin {a b : Expr} {o : Op} {pos : Pos} {ra rb : List Sl → R D} (hp : Pyl X) (ha : PE X a (rdE X.K ca W ra)) (hb : PE X b (rdE X.K ca W rb)) :
    PE X (.BinOp a (opOf o) b pos) (rdE X.K ca W fun env => (ra env).bind fun x => (rb env).bind fun y => opR o x y) := by
  obtain ⟨r, h1, h2⟩ := rule_op hp o
  exact PE.imp (pe_op h1 ha hb) fun σ H Q ⟨env, G, hg, he, hm⟩ => ⟨env, G, hg, he, Rs.bind hm fun x v H1 G1 _ e1 hx hm1 => ⟨env, G1, e1.c, he.mono e1.b, Rs.bind hm1 fun y u H2 G2 _ e2 hy hm2 =>
    h2 _ _ _ _ _ _ _ _ e2.c (dp_mono e2.b hx) hy hm2⟩⟩
theorem RsL.step {B : Str → Hp → Prop} {H G H1 G1 : Hp} {Q : VK} {r : R D} (h : RsL K B H G Q r) (e : Ext H G H1 G1) : RsL K B H1 G1 Q r := by
  cases r with
  | ok d =>
    cases d with
    | list ds =>
      intro p vs H' G' x h1 h2 h3 h4
      refine h p vs H' G' (e.trans x) ?_ h2 h3 h4
      cases z : H p with
      | none => rfl
      | some o => rw [e.a p o z] at h1; cases h1
    | _ => exact h
  | exc c => exact fun H' G' x => h H' G' (e.trans x)
  | bad => exact h
theorem RsL.bind {B : Str → Hp → Prop} {H G : Hp} {Q : VK} {N : VK} {r : R D} {f : D → R D} (h : RsL K B H G Q (r.bind f))
    (n : ∀ x v H1 G1, r = .ok x → Ext H G H1 G1 → Dp K G1 v x → RsL K B H1 G1 Q (f x) → N v H1) : Rs K B H G N r := by
  cases r with
  | ok x => exact fun v H1 G1 e p => n x v H1 G1 rfl e p (RsL.step h e)
  | exc c => exact h
  | bad => exact h
/-- one list and another one, a new list -/
theorem e_catL {a b : Expr} {pos : Pos} {ra rb : List Sl → R D} (ha : PE X a (rdE X.K ca W ra)) (hb : PE X b (rdE X.K ca W rb)) (hl : ∀ env d, rb env = .ok d → ∃ l, d = .list l) :
    PE X (.BinOp a .Add b pos) (rdL X.K ca W fun env => (ra env).bind fun x => (rb env).bind fun y => opR .add x y) :=
  PE.imp (pe_op op_catL ha hb) fun σ H Q ⟨env, G, hg, he, hm⟩ => ⟨env, G, hg, he, RsL.bind hm fun x v H1 G1 _ e1 hx hm1 => ⟨env, G1, e1.c, he.mono e1.b, RsL.bind hm1 fun y u H2 G2 qy e2 hy hm2 => by
    obtain ⟨l, rfl⟩ := hl _ _ qy
    have s := e2.c
    have hx := dp_mono e2.b hx
    cases hx with
    | lst q r =>
      cases hy with
      | lst q2 r2 =>
        dsimp only [opR] at hm2
        split at hm2
        · rename_i hz
          exact ⟨_, _, _, _, rfl, rfl, s.seq q, s.seq q2, by rw [dpAll_len r, dpAll_len r2]; exact hz, fun p hp => hm2 p _ _ G2 ⟨Same.upd hp, Same.refl _, s.trans (Same.upd hp), fun _ _ _ e => e⟩ hp (s.free hp) upd_same (dpAll_app r r2)⟩
        · exact hm2.elim
    | _ => exact hm2.elim⟩⟩
theorem e_neg {a : Expr} {pos : Pos} {ra : List Sl → R D} (ha : PE X a (rdE X.K ca W ra)) :
    PE X (.UnaryOp .USub a pos) (rdE X.K ca W fun env => (ra env).bind fun x => match x with | .int i => .ok (.int (-i)) | _ => .bad) :=
  PE.imp (pe_un un_neg ha) fun σ H Q ⟨env, G, hg, he, hm⟩ => ⟨env, G, hg, he, Rs.bind hm fun x v H1 G1 _ e1 hx hm1 => by
    cases hx with
    | int i => exact ⟨i, rfl, hm1.now e1.c (.int _)⟩
    | _ => exact hm1.elim⟩
theorem e_cmp {a b : Expr} {o : Cm} {pos : Pos} {ra rb : List Sl → R D} (hu : X.A.units + 65 < cLine) (hm0 : behindInMarks (cmOf o) b = false) (ha : PE X a (rdE X.K ca W ra)) (hb : PE X b (rdE X.K ca W rb)) :
    Both X ca W (.Compare a [cmOf o] [b] pos) (fun env => (ra env).bind fun x => (rb env).bind fun y => cmR o x y) := by
  obtain ⟨r, h1, h2⟩ := rule_cm hu o
  refine ⟨PE.imp (pe_cmpR h1 ha hb hm0) fun σ H Q ⟨env, G, hg, he, hm⟩ => ⟨env, G, hg, he, Rs.bind hm fun x v H1 G1 _ e1 hx hm1 => ⟨env, G1, e1.c, he.mono e1.b, Rs.bind hm1 fun y u H2 G2 _ e2 hy hm2 =>
    h2 _ _ _ _ _ _ _ _ e2.c (dp_mono e2.b hx) hy hm2⟩⟩, ?_⟩
  exact PT.imp (pt_cmpR h1 ha hb hm0) fun σ H Q h => by
    obtain ⟨env, G, hg, he, hm⟩ := rdT_val h
    exact ⟨env, G, hg, he, Rs.bind hm fun x v H1 G1 _ e1 hx hm1 => ⟨env, G1, e1.c, he.mono e1.b, Rs.bind hm1 fun y u H2 G2 _ e2 hy hm2 =>
      h2 _ _ _ _ _ _ _ _ e2.c (dp_mono e2.b hx) hy hm2⟩⟩
theorem e_ix {a b : Expr} {pos : Pos} {ra rb : List Sl → R D} (hs : PlainIx b) (ha : PE X a (rdE X.K ca W ra)) (hb : PE X b (rdE X.K ca W rb)) :
    PE X (.Subscript a b pos) (rdE X.K ca W fun env => (ra env).bind fun x => (rb env).bind fun y => ixR x y) :=
  PE.imp (pe_ix ix_seq ha hb hs) fun σ H Q ⟨env, G, hg, he, hm⟩ => ⟨env, G, hg, he, Rs.bind hm fun x v H1 G1 _ e1 hx hm1 => ⟨env, G1, e1.c, he.mono e1.b, Rs.bind hm1 fun y u H2 G2 _ e2 hy hm2 =>
    sem_ix _ _ _ _ _ _ _ _ e2.c (dp_mono e2.b hx) hy hm2⟩⟩
theorem e_not {a : Expr} {pos : Pos} {ra : List Sl → R D} (ha : Both X ca W a ra) : Both X ca W (.UnaryOp .Not a pos) (fun env => (ra env).bind fun x => match x with | .bool b => .ok (.bool (!b)) | _ => .bad) := by
  refine ⟨PE.imp (pe_not ha.pe) fun σ H Q ⟨env, G, hg, he, hm⟩ => ⟨env, G, hg, he, Rs.bind hm fun x v H1 G1 _ e1 hx hm1 => ?_⟩, PT.imp (pt_not ha.pt) fun σ H Q ⟨env, G, hg, he, hm⟩ => ⟨env, G, hg, he, RsT.bindT hm (fun d nd => ?_) fun b H1 G1 _ e1 hm1 => ?_⟩⟩
  · cases hx with
    | bl i => exact ⟨i, rfl, hm1.now e1.c (.bl _)⟩
    | _ => exact hm1.elim
  · cases d <;> first | rfl | exact (nd _ rfl).elim
  · exact hm1 H1 G1 (Ext.refl e1.c)
theorem e_ife {c a b : Expr} {pos : Pos} {rc ra rb : List Sl → R D} (hc : Both X ca W c rc) (ha : Both X ca W a ra) (hb : Both X ca W b rb) :
    PE X (.IfExp c a b pos) (rdE X.K ca W fun env => (rc env).bind fun x => match x with | .bool true => ra env | .bool false => rb env | _ => .bad) :=
  PE.imp (pe_ifExp hc.pt ha.pe hb.pe) fun σ H Q ⟨env, G, hg, he, hm⟩ => ⟨env, G, hg, he, Rs.bindT hm (fun d nd => by cases d <;> first | rfl | exact (nd _ rfl).elim) fun k H1 G1 _ e1 hm1 => by
    cases k with
    | true => rw [if_pos rfl]; exact ⟨env, G1, e1.c, he.mono e1.b, hm1⟩
    | false => rw [if_neg Bool.false_ne_true]; exact ⟨env, G1, e1.c, he.mono e1.b, hm1⟩⟩
theorem t_ife {c a b : Expr} {pos : Pos} {rc ra rb : List Sl → R D} (hc : Both X ca W c rc) (ha : Both X ca W a ra) (hb : Both X ca W b rb) :
    PT X (.IfExp c a b pos) (rdT X.K ca W fun env => (rc env).bind fun x => match x with | .bool true => ra env | .bool false => rb env | _ => .bad) := by
  have key : PT X (.IfExp c a b pos) (fun σ H Q => rdT X.K ca W rc σ H fun k H1 => if k = true then rdT X.K ca W ra σ H1 Q else rdT X.K ca W rb σ H1 Q) := by
    refine ⟨fun pins s σ H Q I h => ?_⟩
    show wpAny _ _ (do if ← isTrue c X.env (eval c X.env) then isTrue a X.env (eval a X.env) else isTrue b X.env (eval b X.env)) _ _ s
    refine wpAny_bind (thn (hc.pt.run pins s σ H _ I h) fun k s1 ⟨H1, I1, q⟩ => ?_)
    cases k with
    | true => rw [if_pos rfl] at q; exact ha.pt.run pins s1 σ H1 Q I1 q
    | false => rw [if_neg Bool.false_ne_true] at q; exact hb.pt.run pins s1 σ H1 Q I1 q
  exact PT.imp key fun σ H Q ⟨env, G, hg, he, hm⟩ => ⟨env, G, hg, he, RsT.bindT hm (fun d nd => by cases d <;> first | rfl | exact (nd _ rfl).elim) fun k H1 G1 _ e1 hm1 => by
    cases k with
    | true => rw [if_pos rfl]; exact ⟨env, G1, e1.c, he.mono e1.b, hm1⟩
    | false => rw [if_neg Bool.false_ne_true]; exact ⟨env, G1, e1.c, he.mono e1.b, hm1⟩⟩
/-- and, or: the first, then the rest -/
structure BothW (X : Cx) (ca : Str → Value) (W : WX) (op : BoolOp) (es : List Expr) (pos : Pos) (r : List Sl → R D) : Prop where
  pe : PE X (.BoolOp op es pos) (rdE X.K ca W r)
  pw : PW X (.BoolOp op es pos) (rdT X.K ca W r)
theorem BothW.both {op : BoolOp} {es : List Expr} {pos : Pos} {r : List Sl → R D} (h : BothW X ca W op es pos r) : Both X ca W (.BoolOp op es pos) r := ⟨h.pe, h.pw.pt⟩
theorem w_one1 {a : Expr} {pos : Pos} {ra : List Sl → R D} (ha : Both X ca W a ra) : BothW X ca W .And [a] pos ra := ⟨pe_one ha.pe, pw_and1 ha.pt⟩
theorem w_one2 {a : Expr} {pos : Pos} {ra : List Sl → R D} (ha : Both X ca W a ra) : BothW X ca W .Or [a] pos ra := ⟨pe_one ha.pe, pw_or1 ha.pt⟩
theorem w_and {a b : Expr} {rest : List Expr} {pos : Pos} {ra rb : List Sl → R D} (ha : Both X ca W a ra) (hb : BothW X ca W .And (b :: rest) pos rb) :
    BothW X ca W .And (a :: b :: rest) pos (fun env => (ra env).bind fun x => match x with | .bool true => rb env | .bool false => .ok (.bool false) | _ => .bad) := by
  refine ⟨PE.imp (pe_and ha.pe hb.pe) fun σ H Q ⟨env, G, hg, he, hm⟩ => ⟨env, G, hg, he, Rs.bind hm fun x v H1 G1 _ e1 hx hm1 => ?_⟩, PW.imp (pw_and ha.pt hb.pw) fun σ H Q ⟨env, G, hg, he, hm⟩ => ⟨env, G, hg, he, RsT.bindT hm (fun d nd => by cases d <;> first | rfl | exact (nd _ rfl).elim) fun k H1 G1 _ e1 hm1 => ?_⟩⟩
  · cases hx with
    | bl k =>
      refine ⟨k, rfl, ?_⟩
      cases k with
      | true => rw [if_pos rfl]; exact ⟨env, G1, e1.c, he.mono e1.b, hm1⟩
      | false => rw [if_neg Bool.false_ne_true]; exact hm1.now e1.c (.bl _)
    | _ => exact hm1.elim
  · cases k with
    | true => rw [if_pos rfl]; exact ⟨env, G1, e1.c, he.mono e1.b, hm1⟩
    | false => rw [if_neg Bool.false_ne_true]; exact hm1 H1 G1 (Ext.refl e1.c)
theorem w_or {a b : Expr} {rest : List Expr} {pos : Pos} {ra rb : List Sl → R D} (ha : Both X ca W a ra) (hb : BothW X ca W .Or (b :: rest) pos rb) :
    BothW X ca W .Or (a :: b :: rest) pos (fun env => (ra env).bind fun x => match x with | .bool true => .ok (.bool true) | .bool false => rb env | _ => .bad) := by
  refine ⟨PE.imp (pe_or ha.pe hb.pe) fun σ H Q ⟨env, G, hg, he, hm⟩ => ⟨env, G, hg, he, Rs.bind hm fun x v H1 G1 _ e1 hx hm1 => ?_⟩, PW.imp (pw_or ha.pt hb.pw) fun σ H Q ⟨env, G, hg, he, hm⟩ => ⟨env, G, hg, he, RsT.bindT hm (fun d nd => by cases d <;> first | rfl | exact (nd _ rfl).elim) fun k H1 G1 _ e1 hm1 => ?_⟩⟩
  · cases hx with
    | bl k =>
      refine ⟨k, rfl, ?_⟩
      cases k with
      | true => rw [if_pos rfl]; exact hm1.now e1.c (.bl _)
      | false => rw [if_neg Bool.false_ne_true]; exact ⟨env, G1, e1.c, he.mono e1.b, hm1⟩
    | _ => exact hm1.elim
  · cases k with
    | true => rw [if_pos rfl]; exact hm1 H1 G1 (Ext.refl e1.c)
    | false => rw [if_neg Bool.false_ne_true]; exact ⟨env, G1, e1.c, he.mono e1.b, hm1⟩
/-- a < b < c -/
theorem e_cmp2 {a b c : Expr} {o o2 : Cm} {pos : Pos} {ra rb rc : List Sl → R D} (hu : X.A.units + 65 < cLine) (h01 : o ≠ .isin ∧ o ≠ .nin) (h02 : o2 ≠ .isin ∧ o2 ≠ .nin) (ha : PE X a (rdE X.K ca W ra)) (hb : PE X b (rdE X.K ca W rb)) (hc : PE X c (rdE X.K ca W rc)) :
    Both X ca W (.Compare a [cmOf o, cmOf o2] [b, c] pos) (fun env => (ra env).bind fun x => (rb env).bind fun y => (cmR o x y).bind fun z => match z with | .bool true => (rc env).bind fun w => cmR o2 y w | .bool false => .ok (.bool false) | _ => .bad) := by
  obtain ⟨r, h1, h2⟩ := rule_cm hu o
  obtain ⟨r', h1', h2'⟩ := rule_cm hu o2
  have mk : lastMarks [cmOf o, cmOf o2] [b, c] = false := by
    show behindInMarks (cmOf o2) c = false
    exact nomark c (by cases o2 <;> first | decide | exact (h02.1 rfl).elim) (by cases o2 <;> first | decide | exact (h02.2 rfl).elim)
  have key : ∀ {σ : L2.St} {H G : Hp} {Q : VK} {env : List Sl}, Same G H → EnvR X.K G σ env → Rs X.K (BX ca W σ) H G Q ((ra env).bind fun x => (rb env).bind fun y => (cmR o x y).bind fun z => match z with | .bool true => (rc env).bind fun w => cmR o2 y w | .bool false => .ok (.bool false) | _ => .bad) →
      tChain r r' (rdE X.K ca W ra) (rdE X.K ca W rb) (rdE X.K ca W rc) σ H Q := fun {σ H G Q env} hg he hm =>
    ⟨env, G, hg, he, Rs.bind hm fun x v H1 G1 _ e1 hx hm1 => ⟨env, G1, e1.c, he.mono e1.b, Rs.bind hm1 fun y u H2 G2 _ e2 hy hm2 =>
      h2 _ _ _ _ _ _ _ _ e2.c (dp_mono e2.b hx) hy (Rs.bind hm2 fun z w H3 G3 ez e3 hz hm3 => by
        obtain ⟨k, rfl⟩ := cm_bool ez
        cases hz
        refine ⟨k, rfl, ?_⟩
        cases k with
        | false => rw [if_neg Bool.false_ne_true]; exact hm3.now e3.c (.bl _)
        | true =>
          rw [if_pos rfl]
          exact ⟨env, G3, e3.c, he.mono (e1.b.trans (e2.b.trans e3.b)), Rs.bind hm3 fun q t H4 G4 _ e4 hq hm4 => h2' _ _ _ _ _ _ _ _ e4.c (dp_mono (e3.b.trans e4.b) hy) hq hm4⟩)⟩⟩
  refine ⟨PE.imp (pe_chain h1 h1' ha hb hc mk) fun σ H Q ⟨env, G, hg, he, hm⟩ => key hg he hm, PT.imp (pt_chain h1 h1' ha hb hc mk) fun σ H Q h => ?_⟩
  obtain ⟨env, G, hg, he, hm⟩ := rdT_val h
  exact key hg he hm
end
end Cw

set_option Elab.async false
set_option linter.all false
set_option maxRecDepth 100000
set_option maxHeartbeats 4000000
namespace Cw
open PySem PySem.Spec PyProof.Rows L2

section
variable {K : PySem.W.Frag} {ca : Str → Value} {W : WX} {X : Cx}
/-! ### slices -/
def RsO (B : Str → Hp → Prop) (H G : Hp) (Q : Option Int → Hp → Prop) : R (Option Int) → Prop
  | .ok d => ∀ H' G', Ext H G H' G' → Q d H'
  | .exc c => ∀ H' G', Ext H G H' G' → B c H'
  | .bad => False
def rdO (K : PySem.W.Frag) (ca : Str → Value) (W : WX) (r : List Sl → R (Option Int)) : TO := fun σ H Q => ∃ env G, Same G H ∧ EnvR K G σ env ∧ RsO (BX ca W σ) H G Q (r env)
theorem PO.imp {e : Option Expr} {t t' : TO} (h : PO X e t) (i : ∀ σ H Q, t' σ H Q → t σ H Q) : PO X e t' := ⟨fun pins s σ H Q I q => h.run pins s σ H Q I (i _ _ _ q)⟩
theorem o_none : PO X none (rdO X.K ca W fun _ => .ok none) := PO.imp po_none fun σ H Q ⟨env, G, hg, he, hm⟩ => hm H G (Ext.refl hg)
theorem o_some {e : Expr} {r : List Sl → R D} (h : PE X e (rdE X.K ca W r)) : PO X (some e) (rdO X.K ca W fun env => (r env).bind fun x => match x with | .int i => .ok (some i) | _ => .bad) :=
  PO.imp (po_some h) fun σ H Q ⟨env, G, hg, he, hm⟩ => by
    refine ⟨env, G, hg, he, ?_⟩
    dsimp only at hm
    cases ha : r env with
    | exc c => rw [ha] at hm; exact hm
    | bad => rw [ha] at hm; exact hm
    | ok d =>
      rw [ha] at hm
      intro v H1 G1 e p
      cases p with
      | int i => exact ⟨i, rfl, hm H1 G1 e⟩
      | _ => exact hm.elim
theorem RsO.bind {B : Str → Hp → Prop} {H G : Hp} {Q : VK} {N : Option Int → Hp → Prop} {r : R (Option Int)} {f : Option Int → R D} (h : Rs K B H G Q (r.bind f))
    (n : ∀ x H1 G1, r = .ok x → Ext H G H1 G1 → Rs K B H1 G1 Q (f x) → N x H1) : RsO B H G N r := by
  cases r with
  | ok x => exact fun H1 G1 e => n x H1 G1 rfl e (Rs.step h e)
  | exc c => exact h
  | bad => exact h
theorem e_sl {a : Expr} {lo hi : Option Expr} {p2 pos : Pos} {ra : List Sl → R D} {rl rh : List Sl → R (Option Int)} (ha : PE X a (rdE X.K ca W ra)) (hl : PO X lo (rdO X.K ca W rl)) (hh : PO X hi (rdO X.K ca W rh)) :
    PE X (.Subscript a (.Slice lo hi none p2) pos) (rdE X.K ca W fun env => (ra env).bind fun x => (rl env).bind fun l => (rh env).bind fun u => slR x l u) :=
  PE.imp (pe_slice rule_sl ha hl hh) fun σ H Q ⟨env, G, hg, he, hm⟩ => ⟨env, G, hg, he, Rs.bind hm fun x v H1 G1 _ e1 hx hm1 => ⟨env, G1, e1.c, he.mono e1.b, RsO.bind hm1 fun l H2 G2 _ e2 hm2 =>
    ⟨env, G2, e2.c, he.mono (e1.b.trans e2.b), RsO.bind hm2 fun u H3 G3 _ e3 hm3 => sem_sl e3.c (dp_mono (e2.b.trans e3.b) hx) hm3⟩⟩⟩

/-! ### calls -/
theorem e_call {x : Str} {id : Value} {e : Expr} {es : List Expr} {p pos : Pos} {r : List Sl → R (List D)} {f : List D → R D} {rr : List V → Hp → VK → Prop} (h : PE X (.Call (.Name x p) (e :: es) [] pos) (tCB rr (rdA X.K ca W r))) (hs : SemCall X.K rr f) :
    PE X (.Call (.Name x p) (e :: es) [] pos) (rdE X.K ca W fun env => (r env).bind f) :=
  PE.imp h fun σ H Q ⟨env, G, hg, he, hm⟩ => ⟨env, G, hg, he, RsA.bind hm fun xs vs H1 G1 _ e1 hx hm1 => hs _ _ _ _ _ _ e1.c hx hm1⟩
theorem e_bf {f : Bf} {e : Expr} {es : List Expr} {p pos : Pos} {r : List Sl → R (List D)} (hc : X.calm = true) (hg : Gl X (bfName f)) (hm : X.mg (bfName f) = none) (n : (e :: es).all notStar = true) (ha : PA X (e :: es) (rdA X.K ca W r)) :
    PE X (.Call (.Name (bfName f) p) (e :: es) [] pos) (rdE X.K ca W fun env => (r env).bind (bfR f)) := by
  obtain ⟨rr, h1, h2⟩ := rule_bf hc f
  rw [List.all_cons, Bool.and_eq_true] at n
  have hv := bf_boot f
  have hn := bf_name f
  have hd := bf_dbg f
  have s1 := star_cons (env := X.env) (es := es) n.1
  have s2 := star_none (env := X.env) (pos := pos) n.2
  cases f with
  | int => exact e_call (id := .none) (pe_callTy h1 hg hm hv ha hn hd s1 s2) h2
  | tuple => exact e_call (id := .none) (pe_callTy h1 hg hm hv ha hn hd s1 s2) h2
  | list => exact e_call (id := .none) (pe_callTy h1 hg hm hv ha hn hd s1 s2) h2
  | _ => exact e_call (id := .none) (pe_callB h1 hg hm hv ha hn hd s1 s2) h2
theorem e_isi {a : Expr} {t : Ty} {p p2 pos : Pos} {ra : List Sl → R D} (hg : Gl X "isinstance") (hm : X.mg "isinstance" = none) (hg2 : Gl X (Str.ofString (tyName t))) (hm2 : X.mg (Str.ofString (tyName t)) = none) (n : notStar a = true) (ha : PE X a (rdE X.K ca W ra)) :
    PE X (.Call (.Name "isinstance" p) [a, .Name (Str.ofString (tyName t)) p2] [] pos) (rdE X.K ca W fun env => (ra env).bind fun x => isiR t x) := by
  have hT : PE X (.Name (Str.ofString (tyName t)) p2) (tC (.ty (tyName t))) := pe_bltn hg2 hm2 (ty_boot t) rfl (ty_name t) (ty_dbg t)
  have hA : PA X [a, .Name (Str.ofString (tyName t)) p2] (tCons (rdE X.K ca W ra) (tCons (tC (.ty (tyName t))) tNil)) := pa_cons ha (pa_cons hT pa_nil rfl) (star_cons n)
  refine PE.imp (pe_callB call_isi hg hm boot_isinstance hA (by decide +kernel) (by decide +kernel) (star_cons n) rfl) fun σ H Q ⟨env, G, hg, he, hm⟩ => ⟨env, G, hg, he, Rs.bind hm fun x v H1 G1 _ e1 hx hm1 => ?_⟩
  exact sem_isi e1.c hx hm1

/-! ### calls of defs -/
/-- what the def numbered i promises, within n calls -/
def spF (T : Nat → Option Def) (ca : Str → Value) (K : PySem.W.Frag) (n i : Nat) : Sp := fun vs H Q E => ∃ ds G, Same G H ∧ DpAll K G vs ds ∧ Rs K (fun c H' => E (ca c) none H') H G Q (evc T n i ds)
theorem e_def {T : Nat → Option Def} {n i k : Nat} {x : Str} {f : Addr} {fd : FuncData} {ps : List Str} {e : Expr} {es : List Expr} {p pos : Pos} {r : List Sl → R (List D)} (F : FnOk X.prog X.w X.K X.mg X.base (L2N.CX X.prog X.w) k f fd ps (spF T ca X.K n i)) (hr : Room k X.A) (hg : Gl X x) (hm : X.mg x = some (.ref f)) (hk : PySem.W.keepIn X.K (.ref f) = true) (hb : Binds X.K fd ps [])
    (tk : L2N.Takes X W) (hd : (x == ("__debug__" : Str)) = false) (ns : (e :: es).all notStar = true) (ha : PA X (e :: es) (rdA X.K ca W r)) :
    PE X (.Call (.Name x p) (e :: es) [] pos) (rdE X.K ca W fun env => (r env).bind (evc T n i)) := by
  rw [List.all_cons, Bool.and_eq_true] at ns
  refine PE.imp (pe_callS F hr hg hm hk hb (fun σ => L2N.passAt tk σ) ha hd (star_cons ns.1) (star_none ns.2)) fun σ H Q ⟨env, G, hg, he, hm⟩ => ⟨env, G, hg, he, RsA.bind hm fun xs vs H1 G1 _ e1 hx hm1 => ?_⟩
  exact ⟨xs, G1, e1.c, hx, hm1⟩

/-- what the def numbered i with a lent list promises, within n calls -/
def RsLn (K : PySem.W.Frag) (H G : Hp) (p : Addr) (Q : VK) : R (D × List D) → Prop
  | .ok r => ∀ v H' G' ws, Ext (del H p) G (del H' p) G' → H' p = some (.lst ws) → DpAll K G' ws r.2 → G' p = none → Dp K G' v r.1 → Q v H'
  | _ => False
def spL (T : Nat → Option Def) (K : PySem.W.Frag) (n i : Nat) : Sp := fun vs H Q E => ∃ v p ws es d G, vs = [v, .ref p] ∧ H p = some (.lst ws) ∧ DpAll K G ws es ∧ G p = none ∧ Same G H ∧ Dp K G v d ∧ RsLn K H G p Q (metL (evc T n i [d, .list es]))
theorem metL_exc {r : R D} {c : Str} : metL r ≠ .exc c := by
  intro h
  unfold metL at h
  split at h <;> cases h
theorem metL_ok {r : R D} {x : D × List D} (h : metL r = .ok x) : r = .ok (.tuple [x.1, .list x.2]) := by
  unfold metL at h
  split at h
  · cases h; rfl
  · cases h
theorem Ext.madeL {H G H' G' : Hp} {q : Addr} {o : HO} (n1 : H q = none) (e : Ext (del (upd H q o) q) G (del H' q) G') : Ext H G H' G' := by
  have k : ∀ (b : Addr) (u : HO), H b = some u → del (upd H q o) q b = some u := fun b u h => by
    have h1 : b ≠ q := ne_of_none h n1
    rw [del_ne h1, upd_ne h1]
    exact h
  exact ⟨fun b u h => (del_some (e.a b u (k b u h))).2, e.b, fun b u h => (del_some (e.c b u h)).2, fun b u h n => e.d b u (k b u h) n⟩
theorem e_cln {T : Nat → Option Def} {n i k : Nat} {x : Str} {f : Addr} {fd : FuncData} {ps : List Str} {e : Expr} {p lp pos : Pos} {r : List Sl → R D} (F : FnOk X.prog X.w X.K X.mg X.base (L2N.CX X.prog X.w) k f fd ps (spL T X.K n i)) (hr : Room k X.A) (hg : Gl X x) (hm : X.mg x = some (.ref f)) (hk : PySem.W.keepIn X.K (.ref f) = true) (hb : Binds X.K fd ps [])
    (tk : L2N.Takes X W) (hd : (x == ("__debug__" : Str)) = false) (ns : notStar e = true) (ha : PE X e (rdE X.K ca W r)) :
    PE X (.Call (.Name x p) [e, .List [] lp] [] pos) (rdE X.K ca W fun env => (r env).bind fun d => (metL (evc T n i [d, .list []])).bind fun r => .ok r.1) := by
  have hA : PA X [e, .List [] lp] (tCons (rdE X.K ca W r) (tCons _ tNil)) := pa_cons ha (pa_cons (pe_lst pa_nil) pa_nil rfl) (star_cons ns)
  refine PE.imp (pe_callS F hr hg hm hk hb (fun σ => L2N.passAt tk σ) hA hd (star_cons ns) (star_none rfl)) fun σ H Q ⟨env, G, hg, he, hm⟩ => ⟨env, G, hg, he, Rs.bind hm fun d v H1 G1 _ e1 hx hm1 => ?_⟩
  refine ⟨Nat.zero_le _, fun q hq => ?_⟩
  refine ⟨v, q, [], [], d, G1, rfl, upd_same, .nil, e1.c.free hq, e1.c.trans (Same.upd hq), hx, ?_⟩
  cases er : metL (evc T n i [d, .list []]) with
  | ok r =>
    rw [er] at hm1
    exact fun v' H' G' ws y h1 h2 h3 h4 => hm1 v' H' G' (Ext.madeL hq y) h4
  | exc c => exact (metL_exc er).elim
  | bad => rw [er] at hm1; exact hm1.elim

/-! ### things walked -/
theorem it_rng1 {a tg : Expr} {p pos : Pos} {ra : List Sl → R D} (hg : Gl X "range") (hm : X.mg "range" = none) (n : notStar a = true) (ha : PE X a (rdE X.K ca W ra)) :
    PI X tg (.Call (.Name "range" p) [a] [] pos) (rdI X.K ca W fun env => (ra env).bind fun x => match x with | .int j => rngR 0 j | _ => .bad) := by
  have hA : PA X [a] (tCons (rdE X.K ca W ra) tNil) := pa_cons ha pa_nil (star_cons n)
  refine PI.imp (pi_range1 hg hm hA (star_cons n)) fun σ H R0 ⟨env, G, hg, he, hm⟩ => ⟨env, G, hg, he, RsI.bind hm fun x v H1 G1 _ e1 hx hm1 => ?_⟩
  cases hx with
  | int j =>
    dsimp only [rngR] at hm1
    split at hm1
    · rename_i hc
      obtain ⟨_, _, h3, h4, h5⟩ := hc
      refine ⟨j, rfl, h3, h4, ?_⟩
      have e : (j - 0).toNat = j.toNat := by omega
      rw [e] at hm1
      exact hm1 _ H1 G1 (Ext.refl e1.c) (walkD_range (by omega))
    · exact hm1.elim
  | _ => exact hm1.elim
theorem it_rng2 {a b tg : Expr} {p pos : Pos} {ra rb : List Sl → R D} (hg : Gl X "range") (hm : X.mg "range" = none) (n : notStar a = true) (n2 : notStar b = true) (ha : PE X a (rdE X.K ca W ra)) (hb : PE X b (rdE X.K ca W rb)) :
    PI X tg (.Call (.Name "range" p) [a, b] [] pos) (rdI X.K ca W fun env => (ra env).bind fun x => (rb env).bind fun y => match x, y with | .int i, .int j => rngR i j | _, _ => .bad) := by
  have hA : PA X [a, b] (tCons (rdE X.K ca W ra) (tCons (rdE X.K ca W rb) tNil)) := pa_cons ha (pa_cons hb pa_nil (star_cons n2)) (star_cons n)
  have st : starEach [a, b] X.env = [(false, eval a X.env), (false, eval b X.env)] := by rw [star_cons n, star_cons n2]; rfl
  refine PI.imp (pi_range2 hg hm hA st (star_cons n2)) fun σ H R0 ⟨env, G, hg, he, hm⟩ => ⟨env, G, hg, he, RsI.bind hm fun x v H1 G1 _ e1 hx hm1 => ⟨env, G1, e1.c, he.mono e1.b, RsI.bind hm1 fun y u H2 G2 _ e2 hy hm2 => ?_⟩⟩
  cases hx with
  | int i => cases hy with
    | int j =>
      dsimp only [rngR] at hm2
      split at hm2
      · rename_i hc
        obtain ⟨h1, h2, h3, h4, h5⟩ := hc
        exact ⟨i, j, rfl, ⟨h1, h2, h3, h4⟩, hm2 _ H2 G2 (Ext.refl e2.c) (walkD_range (by omega))⟩
      · exact hm2.elim
    | _ => exact hm2.elim
  | _ => cases hy <;> exact hm2.elim
theorem it_enum {a : Expr} {elts : List Expr} {kk : Nat} {tpos p pos : Pos} {ra : List Sl → R D} (hg : Gl X "enumerate") (hm : X.mg "enumerate" = none) (n : notStar a = true) (ha : PE X a (rdE X.K ca W ra)) :
    PI X (.Tuple elts kk tpos) (.Call (.Name "enumerate" p) [a] [] pos) (rdI X.K ca W fun env => (ra env).bind enumR) := by
  have hA : PA X [a] (tCons (rdE X.K ca W ra) tNil) := pa_cons ha pa_nil (star_cons n)
  refine PI.imp (pi_enumA hg hm hA (star_cons n)) fun σ H R0 ⟨env, G, hg, he, hm⟩ => ⟨env, G, hg, he, RsI.bind hm fun x v H1 G1 _ e1 hx hm1 => ?_⟩
  cases hx with
  | lst q r =>
    dsimp only [enumR] at hm1
    split at hm1
    · exact ⟨_, _, rfl, .inl ⟨e1.c.seq q, hm1 _ H1 G1 (Ext.refl e1.c) (walkD_enum q r ‹_›)⟩⟩
    · exact hm1.elim
  | tup q r =>
    dsimp only [enumR] at hm1
    split at hm1
    · exact ⟨_, _, rfl, .inr ⟨Same.seqT e1.c q, hm1 _ H1 G1 (Ext.refl e1.c) (walkD_enumT q r ‹_›)⟩⟩
    · exact hm1.elim
  | _ => exact hm1.elim
theorem it_zip {a b : Expr} {elts : List Expr} {kk : Nat} {tpos p pos : Pos} {ra rb : List Sl → R D} (hg : Gl X "zip") (hm : X.mg "zip" = none) (n : notStar a = true) (n2 : notStar b = true) (ha : PE X a (rdE X.K ca W ra)) (hb : PE X b (rdE X.K ca W rb)) :
    PI X (.Tuple elts kk tpos) (.Call (.Name "zip" p) [a, b] [] pos) (rdI X.K ca W fun env => (ra env).bind fun x => (rb env).bind fun y => zipR x y) := by
  have hA : PA X [a, b] (tCons (rdE X.K ca W ra) (tCons (rdE X.K ca W rb) tNil)) := pa_cons ha (pa_cons hb pa_nil (star_cons n2)) (star_cons n)
  have s2 : (backTo pos (starEach [b] X.env)).any (·.1) = false := star_none (by rw [List.all_cons, n2]; rfl)
  refine PI.imp (RZ.pi_zipA hg hm hA (star_cons n) s2) fun σ H R0 ⟨env, G, hg, he, hm⟩ => ⟨env, G, hg, he, RsI.bind hm fun x v H1 G1 _ e1 hx hm1 => ⟨env, G1, e1.c, he.mono e1.b, RsI.bind hm1 fun y u H2 G2 _ e2 hy hm2 => ?_⟩⟩
  have hx2 := dp_mono e2.b hx
  cases hx2 with
  | lst q r => cases hy with
    | lst q2 r2 =>
      dsimp only [zipR] at hm2
      split at hm2
      · exact ⟨_, _, _, _, rfl, .inl ⟨e2.c.seq q, e2.c.seq q2, hm2 _ H2 G2 (Ext.refl e2.c) (walkD_zipL q r q2 r2 ‹_›)⟩⟩
      · exact hm2.elim
    | _ => exact hm2.elim
  | tup q r => cases hy with
    | tup q2 r2 =>
      dsimp only [zipR] at hm2
      split at hm2
      · exact ⟨_, _, _, _, rfl, .inr ⟨Same.seqT e2.c q, Same.seqT e2.c q2, hm2 _ H2 G2 (Ext.refl e2.c) (walkD_zipT q r q2 r2 ‹_›)⟩⟩
      · exact hm2.elim
    | _ => exact hm2.elim
  | _ => cases hy <;> exact hm2.elim

/-! ### targets -/
def gMany : List Nat → TGs
  | [] => gNil
  | i :: l => gCons (gName i) (gMany l)
def gT (K : PySem.W.Frag) : Tg → TG
  | .one i => gName i
  | .many l => gTup K l.length (gMany l)
theorem many_ok {G H : Hp} {Q : L2.St → Hp → Prop} : ∀ {l : List Nat} {ds : List D} {vs : List V} {σ : L2.St} {env e2 : List Sl}, EnvR K G σ env → DpAll K G vs ds → setMany env l ds = .ok e2 → (∀ σ2, EnvR K G σ2 e2 → (∀ vs', (∀ i ∈ l, i ∈ vs') → L2.wipe σ2 vs' = L2.wipe σ vs') → Q σ2 H) → gMany l vs σ H Q
  | [], ds, vs, σ, env, e2, he, r, h, q => by
    cases r with
    | nil =>
      cases h
      exact ⟨rfl, q σ he fun _ _ => rfl⟩
    | cons _ _ => cases h
  | i :: l, ds, vs, σ, env, e2, he, r, h, q => by
    cases r with
    | nil => cases h
    | cons a b =>
      refine ⟨_, _, rfl, ?_⟩
      refine many_ok (he.set a) b h fun σ2 h2 w => q σ2 h2 fun vs' hv => ?_
      rw [w vs' fun j hj => hv j (List.mem_cons_of_mem _ hj)]
      exact wipe_set _ (hv i List.mem_cons_self)
where
  wipe_set {σ : L2.St} {i : Nat} {o : Option V} : ∀ (vs : List Nat), i ∈ vs → L2.wipe (σ.set i o) vs = L2.wipe σ vs
    | [], h => nomatch h
    | v :: vs, h => by
      unfold L2.wipe
      by_cases z : i ∈ vs
      · rw [wipe_set vs z]
      · have e : i = v := by
          rcases List.mem_cons.mp h with e | e
          · exact e
          · exact (z e).elim
        subst e
        have c : ∀ (vs : List Nat), i ∉ vs → L2.wipe (σ.set i o) vs = (L2.wipe σ vs).set i o := by
          intro vs
          induction vs with
          | nil => intro _; rfl
          | cons u us ih =>
            intro hn
            have hu : u ≠ i := fun e => hn (by rw [e]; exact List.mem_cons_self)
            unfold L2.wipe
            rw [ih fun z => hn (List.mem_cons_of_mem _ z), List.set_comm _ _ (Ne.symm hu)]
        rw [c vs z, List.set_set]
theorem gT_ok {G H : Hp} {Q : L2.St → Hp → Prop} {t : Tg} {d : D} {v : V} {σ : L2.St} {env e2 : List Sl} (s : Same G H) (he : EnvR K G σ env) (r : Dp K G v d) (h : setT env t d = .ok e2)
    (q : ∀ σ2, EnvR K G σ2 e2 → (∀ vs', (∀ i ∈ (match t with | .one i => [i] | .many l => l), i ∈ vs') → L2.wipe σ2 vs' = L2.wipe σ vs') → Q σ2 H) : gT K t v σ H Q := by
  cases t with
  | one i =>
    cases h
    exact q _ (he.set r) fun vs' hv => many_ok.wipe_set _ (hv i List.mem_cons_self)
  | many l =>
    cases r with
    | tup q0 r0 =>
      have hl : ∀ {l : List Nat} {ds : List D} {env e2 : List Sl}, setMany env l ds = .ok e2 → ds.length = l.length := by
        intro l
        induction l with
        | nil => intro ds env e2 h; cases ds with
          | nil => rfl
          | cons _ _ => cases h
        | cons i l ih => intro ds env e2 h; cases ds with
          | nil => cases h
          | cons d ds => rw [List.length_cons, List.length_cons, ih h]
      exact ⟨_, _, rfl, Same.seqT s q0, by rw [dpAll_len r0, hl h], many_ok he r0 h q⟩
    | _ => cases h

/-! ### comprehensions -/
theorem lcGo_cons {f : D → R (Option D)} {d : D} {ds l : List D} (h : lcGo f (d :: ds) = .ok l) : ∃ o r, f d = .ok o ∧ lcGo f ds = .ok r ∧ l = (match o with | some x => x :: r | none => r) := by
  unfold lcGo at h
  cases e : f d with
  | ok o =>
    rw [e] at h
    dsimp only at h
    cases e2 : lcGo f ds with
    | ok r => rw [e2] at h; cases h; exact ⟨o, r, rfl, rfl, rfl⟩
    | _ => rw [e2] at h; cases h
  | _ => rw [e] at h; cases h
/-- what is walked, the target, the test, the element: a comprehension -/
theorem lc_read {own : List Nat} {tg : Tg} {wi : List Sl → R (List D)} {rt : List Sl → R Bool} {re : List Sl → R D} {tt : TT} {σ : L2.St} {H : Hp} {Q : VK} (hown : ∀ i ∈ (match tg with | .one i => [i] | .many l => l), i ∈ own)
    (ht : ∀ (σ : L2.St) (H : Hp) (G : Hp) (env : List Sl) (b : Bool) (N : Bool → Hp → Prop), Same G H → EnvR K G σ env → rt env = .ok b → (∀ H' G', Ext H G H' G' → N b H') → tt σ H N)
    (h : rdL K ca W (fun env => (wi env).bind fun ds => (lcGo (fun d => (setT (wipeE env own) tg d).bind fun e2 => (rt e2).bind fun b => if b = true then (re e2).bind fun x => .ok (some x) else .ok none) ds).bind fun l => .ok (.list l)) σ H Q) :
    tLc (rdI K ca W wi) (gT K tg) tt (rdE K ca (fun _ _ _ _ => False) re) own σ H Q := by
  obtain ⟨env, G, hg, he, hm⟩ := h
  refine ⟨env, G, hg, he, ?_⟩
  dsimp only at hm
  cases ew : wi env with
  | exc c => rw [ew] at hm; exact hm
  | bad => rw [ew] at hm; exact hm
  | ok ds =>
    rw [ew] at hm
    intro J H1 G1 x1 wk Dd hD
    change RsL K (BX ca W σ) H G Q ((lcGo (fun d => (setT (wipeE env own) tg d).bind fun e2 => (rt e2).bind fun b => if b = true then (re e2).bind fun x => .ok (some x) else .ok none) ds).bind fun l => .ok (.list l)) at hm
    generalize hf : (fun d => (setT (wipeE env own) tg d).bind fun e2 => (rt e2).bind fun b => if b = true then (re e2).bind fun x => .ok (some x) else .ok none) = f at hm
    cases el : lcGo f ds with
    | exc c =>
      exfalso
      clear hm
      have nx : ∀ (l : List D), lcGo f l ≠ .exc c := by
        intro l
        cases l with
        | nil => intro z; cases z
        | cons d l =>
          intro z
          unfold lcGo at z
          split at z
          · split at z <;> cases z
          · cases z
      exact nx ds el
    | bad => rw [el] at hm; exact hm.elim
    | ok l =>
      rw [el] at hm
      have hH0 : H Dd = none := by
        cases z : H Dd with
        | none => rfl
        | some o => rw [x1.a _ o z] at hD; cases hD
      refine ⟨fun i m H' => m = ds.length - i ∧ i ≤ ds.length ∧ ∃ G' acc outs rest, Same H1 H' ∧ Same G1 G' ∧ Same G' H' ∧ G' Dd = none ∧ (∀ p o, H1 p = some o → G1 p = none → G' p = none) ∧ H' Dd = some (.lst acc) ∧ DpAll K G' acc outs ∧ outs.length ≤ i ∧ lcGo f (ds.drop i) = .ok rest ∧ outs ++ rest = l,
        ⟨ds.length, by simp, Nat.zero_le _, G1, [], [], l, Same.upd hD, Same.refl _, x1.c.trans (Same.upd hD), x1.c.free hD, fun _ _ _ z => z, upd_same, .nil, Nat.le_refl _, by simpa using el, rfl⟩, ?_⟩
      rintro i m H' ⟨rfl, hi, G', acc, outs, rest, a1, a2, a3, a4, a5, a6, a7, a8, a9, a10⟩
      by_cases hlt : i < ds.length
      · refine .inr ⟨wk.goes i H' hlt (Same.d (a2.trans a3)), fun H'' => i + 1 ≤ ds.length ∧ ∃ G' acc outs rest, Same H1 H'' ∧ Same G1 G' ∧ Same G' H'' ∧ G' Dd = none ∧ (∀ p o, H1 p = some o → G1 p = none → G' p = none) ∧ H'' Dd = some (.lst acc) ∧ DpAll K G' acc outs ∧ outs.length ≤ i + 1 ∧ lcGo f (ds.drop (i + 1)) = .ok rest ∧ outs ++ rest = l,
          fun H'' z => ⟨ds.length - (i + 1), by omega, rfl, z.1, z.2⟩, fun x H2 y => ?_⟩
        obtain ⟨d, G2, hd, x2, dp⟩ := wk.yields i H' x H2 G' hlt (Same.d a2) a3 y
        have ed : ds.drop i = d :: ds.drop (i + 1) := by
          have q := List.drop_eq_getElem_cons hlt
          rw [q]
          have q2 : ds[i] = d := by
            have q3 := List.getElem?_eq_getElem hlt
            rw [hd] at q3
            exact (Option.some.inj q3).symm
          rw [q2]
        rw [ed] at a9
        obtain ⟨o, r0, f1, f2, f3⟩ := lcGo_cons a9
        rw [← hf] at f1
        dsimp only at f1
        cases es : setT (wipeE env own) tg d with
        | exc c => rw [es] at f1; cases f1
        | bad => rw [es] at f1; cases f1
        | ok e2 =>
          rw [es] at f1
          dsimp only [R.bind] at f1
          have heW : EnvR K G2 (L2.wipe σ own) (wipeE env own) := (he.mono (x1.b.trans (a2.trans x2.b))).wipe own
          refine gT_ok x2.c heW dp es fun σ2 he2 hw => ⟨?_, ?_⟩
          · rw [hw own hown]
            have ww : ∀ (l : List Nat) (τ : L2.St), (∀ i ∈ l, i ∈ own) → L2.wipe (L2.wipe τ l) own = L2.wipe τ own := by
              intro l
              induction l with
              | nil => intro τ _; rfl
              | cons v vs ih =>
                intro τ hh
                show L2.wipe ((L2.wipe τ vs).set v none) own = L2.wipe τ own
                rw [many_ok.wipe_set own (hh v List.mem_cons_self), ih τ fun j hj => hh j (List.mem_cons_of_mem _ hj)]
            exact ww own σ fun _ z => z
          · cases eb : rt e2 with
            | exc c => rw [eb] at f1; cases f1
            | bad => rw [eb] at f1; cases f1
            | ok b =>
              rw [eb] at f1
              dsimp only at f1
              have y6 : H2 Dd = some (.lst acc) := x2.a _ _ a6
              have y4 : G2 Dd = none := x2.d _ _ a6 a4
              refine ht σ2 H2 G2 e2 b _ x2.c he2 eb fun H3 G3 x3 => ?_
              have z6 : H3 Dd = some (.lst acc) := x3.a _ _ y6
              have z4 : G3 Dd = none := x3.d _ _ y6 y4
              have b1 : Same H1 H3 := a1.trans (x2.a.trans x3.a)
              have b2 : Same G1 G3 := a2.trans (x2.b.trans x3.b)
              have b5 : ∀ p o, H1 p = some o → G1 p = none → G3 p = none := fun p o h1 h2 => x3.d p o (x2.a p o (a1 p o h1)) (x2.d p o (a1 p o h1) (a5 p o h1 h2))
              cases b with
              | false =>
                rw [if_neg Bool.false_ne_true] at f1 ⊢
                cases f1
                exact ⟨hlt, G3, acc, outs, rest, b1, b2, x3.c, z4, b5, z6, dpAll_mono (x2.b.trans x3.b) a7, by omega, by rw [f2]; exact congrArg R.ok f3.symm, a10⟩
              | true =>
                rw [if_pos rfl] at f1 ⊢
                cases er : re e2 with
                | exc c => rw [er] at f1; cases f1
                | bad => rw [er] at f1; cases f1
                | ok xx =>
                  rw [er] at f1
                  cases f1
                  refine ⟨e2, G3, x3.c, he2.mono x3.b, ?_⟩
                  rw [er]
                  intro v H4 G4 x4 p4
                  have w6 : H4 Dd = some (.lst acc) := x4.a _ _ z6
                  have w4 : G4 Dd = none := x4.d _ _ z6 z4
                  have hup : Same G4 (upd H4 Dd (.lst (acc ++ [v]))) := fun b o q => by
                    by_cases z : b = Dd
                    · rw [z, w4] at q; cases q
                    · rw [upd_ne z]; exact x4.c b o q
                  refine ⟨acc, w6, ?_, hlt, G4, acc ++ [v], outs ++ [xx], r0, fun b o q => ?_, b2.trans x4.b, hup, w4, fun p o h1 h2 => x4.d p o (b1 p o h1) (b5 p o h1 h2), upd_same, dpAll_app (dpAll_mono (x2.b.trans (x3.b.trans x4.b)) a7) (.cons p4 .nil), by rw [List.length_append]; simpa using a8, f2, ?_⟩
                  · have := wk.le
                    rw [dpAll_len a7]
                    omega
                  · rw [upd_ne (ne_of_none q hD)]; exact x4.a b o (b1 b o q)
                  · rw [← a10, f3, List.append_assoc]; rfl
      · have e : i = ds.length := by omega
        subst e
        rw [List.drop_length] at a9
        cases a9
        rw [List.append_nil] at a10
        subst a10
        exact .inl ⟨wk.stops H' (Same.d (a2.trans a3)), hm Dd acc H' G' ⟨x1.a.trans a1, x1.b.trans a2, a3, fun p o h1 h2 => a5 p o (x1.a p o h1) (x1.d p o h1 h2)⟩ hH0 a4 a6 a7⟩
/-- a comprehension whose element may raise -/
theorem lcx_read {own : List Nat} {tg : Tg} {wi : List Sl → R (List D)} {re : List Sl → R D} {σ : L2.St} {H : Hp} {Q : VK} (hown : ∀ i ∈ (match tg with | .one i => [i] | .many l => l), i ∈ own)
    (h : rdL K ca W (fun env => (wi env).bind fun ds => (lcGoX (fun d => (setT (wipeE env own) tg d).bind fun e2 => re e2) ds).bind fun l => .ok (.list l)) σ H Q) :
    tLcX (rdI K ca W wi) (gT K tg) tYes (fun V => rdE K ca V re) own W σ H Q := by
  obtain ⟨env, G, hg, he, hm⟩ := h
  refine ⟨env, G, hg, he, ?_⟩
  dsimp only at hm
  cases ew : wi env with
  | exc c => rw [ew] at hm; exact hm
  | bad => rw [ew] at hm; exact hm
  | ok ds =>
    rw [ew] at hm
    intro J H1 G1 x1 wk Dd hD
    change RsL K (BX ca W σ) H G Q ((lcGoX (fun d => (setT (wipeE env own) tg d).bind fun e2 => re e2) ds).bind fun l => .ok (.list l)) at hm
    generalize hf : (fun d => (setT (wipeE env own) tg d).bind fun e2 => re e2) = f at hm
    have hH0 : H Dd = none := by
      cases z : H Dd with
      | none => rfl
      | some o => rw [x1.a _ o z] at hD; cases hD
    refine ⟨fun i m H' => m = ds.length - i ∧ i ≤ ds.length ∧ ∃ G' acc outs, Same H1 H' ∧ Same G1 G' ∧ Same G' H' ∧ G' Dd = none ∧ (∀ p o, H1 p = some o → G1 p = none → G' p = none) ∧ H' Dd = some (.lst acc) ∧ DpAll K G' acc outs ∧ outs.length = i ∧ RsL K (BX ca W σ) H G Q ((lcGoX f (ds.drop i)).bind fun r => .ok (.list (outs ++ r))),
      ⟨ds.length, by simp, Nat.zero_le _, G1, [], [], Same.upd hD, Same.refl _, x1.c.trans (Same.upd hD), x1.c.free hD, fun _ _ _ z => z, upd_same, .nil, rfl, hm⟩, ?_⟩
    rintro i m H' ⟨rfl, hi, G', acc, outs, a1, a2, a3, a4, a5, a6, a7, a8, a9⟩
    by_cases hlt : i < ds.length
    · refine .inr ⟨wk.goes i H' hlt (Same.d (a2.trans a3)), fun H'' => i + 1 ≤ ds.length ∧ ∃ G' acc outs, Same H1 H'' ∧ Same G1 G' ∧ Same G' H'' ∧ G' Dd = none ∧ (∀ p o, H1 p = some o → G1 p = none → G' p = none) ∧ H'' Dd = some (.lst acc) ∧ DpAll K G' acc outs ∧ outs.length = i + 1 ∧ RsL K (BX ca W σ) H G Q ((lcGoX f (ds.drop (i + 1))).bind fun r => .ok (.list (outs ++ r))),
        fun H'' z => ⟨ds.length - (i + 1), by omega, rfl, z.1, z.2⟩, fun x H2 y => ?_⟩
      obtain ⟨d, G2, hd, x2, dp⟩ := wk.yields i H' x H2 G' hlt (Same.d a2) a3 y
      have ed : ds.drop i = d :: ds.drop (i + 1) := by
        have q := List.drop_eq_getElem_cons hlt
        rw [q]
        have q2 : ds[i] = d := by
          have q3 := List.getElem?_eq_getElem hlt
          rw [hd] at q3
          exact (Option.some.inj q3).symm
        rw [q2]
      rw [ed] at a9
      have a9 : RsL K (BX ca W σ) H G Q (((f d).bind fun x => (lcGoX f (ds.drop (i + 1))).bind fun r => .ok (x :: r)).bind fun r => .ok (.list (outs ++ r))) := a9
      have fd : f d = (setT (wipeE env own) tg d).bind fun e2 => re e2 := by rw [← hf]
      rw [fd] at a9
      cases es : setT (wipeE env own) tg d with
      | exc c =>
        exfalso
        cases tg with
        | one _ => cases es
        | many l =>
          cases d with
          | tuple ds2 =>
            have nx : ∀ (l : List Nat) (ds2 : List D) (e : List Sl), setMany e l ds2 ≠ .exc c := by
              intro l
              induction l with
              | nil => intro ds2 e z; cases ds2 <;> cases z
              | cons _ _ ih => intro ds2 e z; cases ds2 with
                | nil => cases z
                | cons _ _ => exact ih _ _ z
            exact nx l ds2 _ es
          | _ => cases es
      | bad => rw [es] at a9; exact a9.elim
      | ok e2 =>
        rw [es] at a9
        have a9 : RsL K (BX ca W σ) H G Q (((re e2).bind fun x => (lcGoX f (ds.drop (i + 1))).bind fun r => .ok (x :: r)).bind fun r => .ok (.list (outs ++ r))) := a9
        have heW : EnvR K G2 (L2.wipe σ own) (wipeE env own) := (he.mono (x1.b.trans (a2.trans x2.b))).wipe own
        refine gT_ok x2.c heW dp es fun σ2 he2 hw => ⟨?_, ?_⟩
        · rw [hw own hown]
          have ww : ∀ (l : List Nat) (τ : L2.St), (∀ i ∈ l, i ∈ own) → L2.wipe (L2.wipe τ l) own = L2.wipe τ own := by
            intro l
            induction l with
            | nil => intro τ _; rfl
            | cons v vs ih =>
              intro τ hh
              show L2.wipe ((L2.wipe τ vs).set v none) own = L2.wipe τ own
              rw [many_ok.wipe_set own (hh v List.mem_cons_self), ih τ fun j hj => hh j (List.mem_cons_of_mem _ hj)]
          exact ww own σ fun _ z => z
        · unfold tYes
          refine cast (if_pos rfl).symm ?_
          have y6 : H2 Dd = some (.lst acc) := x2.a _ _ a6
          have y4 : G2 Dd = none := x2.d _ _ a6 a4
          have b1 : Same H1 H2 := a1.trans x2.a
          have b2 : Same G1 G2 := a2.trans x2.b
          have b5 : ∀ p o, H1 p = some o → G1 p = none → G2 p = none := fun p o h1 h2 => x2.d p o (a1 p o h1) (a5 p o h1 h2)
          refine ⟨e2, G2, x2.c, he2, ?_⟩
          cases er : re e2 with
          | bad => rw [er] at a9; exact a9.elim
          | exc c =>
            rw [er] at a9
            intro H4 G4 x4
            exact a9 H4 G4 ⟨x1.a.trans (b1.trans x4.a), x1.b.trans (b2.trans x4.b), x4.c, fun p o h1 h2 => x4.d p o (b1 p o (x1.a p o h1)) (b5 p o (x1.a p o h1) (x1.d p o h1 h2))⟩
          | ok xx =>
            rw [er] at a9
            have a9 : RsL K (BX ca W σ) H G Q (((lcGoX f (ds.drop (i + 1))).bind fun r => .ok (xx :: r)).bind fun r => .ok (.list (outs ++ r))) := a9
            intro v H4 G4 x4 p4
            have w6 : H4 Dd = some (.lst acc) := x4.a _ _ y6
            have w4 : G4 Dd = none := x4.d _ _ y6 y4
            have hup : Same G4 (upd H4 Dd (.lst (acc ++ [v]))) := fun b o q => by
              by_cases z : b = Dd
              · rw [z, w4] at q; cases q
              · rw [upd_ne z]; exact x4.c b o q
            refine ⟨acc, w6, ?_, hlt, G4, acc ++ [v], outs ++ [xx], fun b o q => ?_, b2.trans x4.b, hup, w4, fun p o h1 h2 => x4.d p o (b1 p o h1) (b5 p o h1 h2), upd_same, dpAll_app (dpAll_mono (x2.b.trans x4.b) a7) (.cons p4 .nil), by rw [List.length_append, a8]; rfl, ?_⟩
            · have := wk.le
              rw [dpAll_len a7]
              omega
            · rw [upd_ne (ne_of_none q hD)]; exact x4.a b o (b1 b o q)
            · cases el : lcGoX f (ds.drop (i + 1)) with
              | exc c => rw [el] at a9; exact a9
              | bad => rw [el] at a9; exact a9
              | ok r =>
                rw [el] at a9
                show RsL K (BX ca W σ) H G Q (.ok (.list ((outs ++ [xx]) ++ r)))
                rw [List.append_assoc]
                exact a9
    · have e : i = ds.length := by omega
      subst e
      rw [List.drop_length] at a9
      have a9 : RsL K (BX ca W σ) H G Q (.ok (.list (outs ++ []))) := a9
      rw [List.append_nil] at a9
      exact .inl ⟨wk.stops H' (Same.d (a2.trans a3)), a9 Dd acc H' G' ⟨x1.a.trans a1, x1.b.trans a2, a3, fun p o h1 h2 => a5 p o (x1.a p o h1) (x1.d p o h1 h2)⟩ hH0 a4 a6 a7⟩
/-! ### turned about, the greatest or nought, words of a dict -/
theorem dpAll_reverse {G : Hp} : ∀ {vs : List V} {ds : List D}, DpAll K G vs ds → DpAll K G vs.reverse ds.reverse
  | _, _, .nil => .nil
  | _, _, .cons a b => by
    rw [List.reverse_cons, List.reverse_cons]
    exact dpAll_app (dpAll_reverse b) (.cons a .nil)
theorem e_rev {a : Expr} {k : Nat} {p1 p2 p3 pos : Pos} {ra : List Sl → R D} (ha : PE X a (rdE X.K ca W ra)) :
    PE X (.Subscript a (.Slice none none (some (.UnaryOp .USub (.Constant (.int 1) k p1) p2)) p3) pos) (rdE X.K ca W fun env => (ra env).bind revR) :=
  PE.imp (pe_revL ha) fun σ H Q ⟨env, G, hg, he, hm⟩ => ⟨env, G, hg, he, Rs.bind hm fun x v H1 G1 _ e1 hx hm1 => by
    have s := e1.c
    cases hx with
    | lst q r => exact ⟨_, _, rfl, s.seq q, fun p hp => Rs.new hm1 s hp (.lst (SqL.of upd_same) (dpAll_mono (Same.upd (s.free hp)) (dpAll_reverse r)))⟩
    | _ => exact hm1.elim⟩
def rMx0 (K : PySem.W.Frag) : List V → List V → Hp → VK → Prop := fun vs zs H Q => ∃ (a : Addr) (ns : List Int), vs = [V.ref a] ∧ zs = [.int 0] ∧ SqL K H a (ns.map V.int) ∧ Q (.int (mxL ns)) H
theorem cr_mx0 (hc : X.calm = true) (hu : X.A.units + 1 < cLine) : CallRK X (.builtin "max") ["default"] (rMx0 X.K) := by
  intro pins s σ H vs zs us ws Q I r rz h
  obtain ⟨a, ns, rfl, rfl, hs, q⟩ := h
  obtain ⟨its, rv, hl, _⟩ := I.list hs
  rw [Vals.ref1 r]
  have hold : ∀ {ms : List Int} {us : List Value}, Vals (ms.map V.int) us → PySem.W.HoldAll s.heap us ms := by
    intro ms
    induction ms with
    | nil => intro us hv; rw [List.map_nil] at hv; cases hv; exact PySem.W.HoldAll.nil
    | cons m ms ih =>
      intro us hv
      rw [List.map_cons] at hv
      cases hv with
      | cons h1 h2 =>
        obtain ⟨t, rfl⟩ := h1
        exact PySem.W.HoldAll.cons ⟨_, .int _ _⟩ (ih h2)
  obtain ⟨t0, rfl⟩ : ∃ t0, ws = [Value.int 0 t0] := by
    cases rz with
    | cons h1 h2 =>
      obtain ⟨t, rfl⟩ := h1
      cases h2
      exact ⟨t, rfl⟩
  refine PySem.W.max_list_datum_default (α := Int) (I.ok.hd hc) hl.isList (by rw [List.toList_toArray]; exact hold rv) hu (fun e h' tk hk => ?_) (fun y ys i v h' tk e hi hh hk => ?_)
  · subst e
    exact ⟨.int 0, H, I.kept hk, ⟨_, rfl⟩, q⟩
  · subst e
    obtain ⟨as, rd⟩ := hh
    have em : PySem.W.maxOf y ys = mxL (y :: ys) := by
      show ys.foldl _ y = ys.foldl _ y
      congr 1
      funext a b
      show (if decide (a < b) = true then b else a) = _
      simp only [decide_eq_true_eq]
    rw [em] at rd
    cases rd with
    | int _ t => exact ⟨.int _, H, I.kept hk, ⟨_, rfl⟩, q⟩
theorem e_mx0 {a : Expr} {p p1 pos kp : Pos} {k1 : Nat} {ra : List Sl → R D} (hc : X.calm = true) (hu : X.A.units + 1 < cLine) (hg : Gl X "max") (hm : X.mg "max" = none) (n : notStar a = true) (ha : PE X a (rdE X.K ca W ra)) :
    PE X (.Call (.Name "max" p) [a] [⟨some "default", .Constant (.int 0) k1 p1, kp⟩] pos) (rdE X.K ca W fun env => (ra env).bind mx0R) := by
  have s1 := star_cons (env := X.env) (es := []) n
  refine PE.imp (pe_callBK (cr_mx0 hc hu) hg hm (by decide +kernel) (pa_cons ha pa_nil s1) (pk_cons pe_int pk_nil) (by decide +kernel) (by decide +kernel) (by rw [s1]; rfl) (by rw [s1]; rfl) rfl rfl rfl) fun σ H Q ⟨env, G, hg, he, hm⟩ => ⟨env, G, hg, he, Rs.bind hm fun x v H1 G1 _ e1 hx hm1 => ?_⟩
  have s := e1.c
  cases hx with
  | lst q r =>
    rename_i ds hra
    dsimp only [mx0R] at hm1
    cases e : intsOf ds with
    | none => rw [e] at hm1; exact hm1.elim
    | some ns =>
      rw [e] at hm1
      have z := dpAll_ints r e
      subst z
      exact ⟨_, ns, rfl, rfl, s.seq q, Rs.now hm1 s (.int _)⟩
  | _ => exact hm1.elim
/-! ### one or the other by truth; how often -/
theorem tru_of {H G : Hp} {x : V} {d : D} {k : Bool} (s : Same G H) (h : Dp K G x d) (e : truD d = some k) : TruV K x H k := by
  cases h with
  | non => cases e; rfl
  | lst q r =>
    cases e
    refine .inl ⟨_, s.seq q, ?_⟩
    cases r <;> rfl
  | tup q r =>
    cases e
    refine .inr (.inl ⟨_, Same.seqT s q, ?_⟩)
    cases r <;> rfl
  | _ => cases e
theorem e_orv {a b : Expr} {pos : Pos} {ra rb : List Sl → R D} (ha : PE X a (rdE X.K ca W ra)) (hb : PE X b (rdE X.K ca W rb)) :
    PE X (.BoolOp .Or [a, b] pos) (rdE X.K ca W fun env => (ra env).bind fun x => match truD x with | some true => .ok x | some false => rb env | none => .bad) :=
  PE.imp (pe_orT ha (pe_one hb)) fun σ H Q ⟨env, G, hg, he, hm⟩ => ⟨env, G, hg, he, Rs.bind hm fun x v H1 G1 _ e1 hx hm1 => by
    cases ht : truD x with
    | none => rw [ht] at hm1; exact hm1.elim
    | some k =>
      rw [ht] at hm1
      refine ⟨k, tru_of e1.c hx ht, ?_⟩
      cases k with
      | true => rw [if_pos rfl]; exact hm1.now e1.c hx
      | false => rw [if_neg Bool.false_ne_true]; exact ⟨env, G1, e1.c, he.mono e1.b, hm1⟩⟩
def plainT : Expr → Bool
  | .Subscript _ _ _ => true
  | .Call _ _ _ _ => true
  | .Name _ _ => true
  | _ => false
theorem t_orv {a b : Expr} {pos : Pos} {ra rb : List Sl → R D} (hp : plainT a = true) (ha : PE X a (rdE X.K ca W ra)) (hb : Both X ca W b rb) :
    PT X (.BoolOp .Or [a, b] pos) (rdT X.K ca W fun env => (ra env).bind fun x => match truD x with | some true => .ok x | some false => rb env | none => .bad) :=
  PT.imp (pw_or (pt_truth ha (fun _ => by cases a <;> first | rfl | cases hp)) (pw_or1 hb.pt)).pt fun σ H Q ⟨env, G, hg, he, hm⟩ => ⟨env, G, hg, he, RsT.bind hm fun x v H1 G1 _ e1 hx hm1 => by
    cases ht : truD x with
    | none => rw [ht] at hm1; exact hm1.elim
    | some k =>
      rw [ht] at hm1
      refine ⟨k, tru_of e1.c hx ht, ?_⟩
      cases k with
      | true =>
        exfalso
        cases x <;> first | exact hm1 | cases ht
      | false => rw [if_neg Bool.false_ne_true]; exact ⟨env, G1, e1.c, he.mono e1.b, hm1⟩⟩
def rCntD (K : PySem.W.Frag) : V → List V → Hp → VK → Prop := fun x xs H Q => ∃ (a : Addr) (y : V) (d : PyData) (ds : List PyData), x = V.ref a ∧ xs = [y] ∧ Dp K H (V.ref a) (.list ds) ∧ Dp K H y d ∧ SeqAt.shaped (.list ds) = true ∧ SeqAt.shaped d = true ∧ Q (.int (ds.countP fun z => PyData.eqv z d : Nat)) H
theorem mt_cntD (hu : X.A.units + 65 < cLine) : MtR X "list.count" (rCntD X.K) := by
  intro pins s σ H x xs v us Q I rx rxs h
  obtain ⟨a, y, d, ds, rfl, rfl, hl, hy, sl, sd, q⟩ := h
  cases rx
  cases rxs with
  | cons ry rt =>
    rename_i uy ut
    cases rt
    obtain ⟨bs, r1⟩ := Dp.reads I d y uy hy ry
    have c1 : PyData.canLayAll0 ds = true := SeqAt.canLay_of_shaped sl
    have rm : X.A.units + 1 + min (PyData.depthAll ds) d.depth < cLine := room_in_shaped sd hu
    cases hl with
    | lst hs ha =>
      obtain ⟨its, rv, ⟨⟨cls, dd, data, sls⟩, n, ho, hc, hdn, hdt⟩, hlen⟩ := I.list hs
      simp only at hc hdt
      subst hc hdt
      obtain ⟨as, h4⟩ := Dp.readsAll I ds _ its ha rv
      have mp : its.map (SeqAt.readOf s.heap) = ds := SeqAt.readsAll_map ds its as c1 h4
      refine call_meets PySem.F.slot_list_count ⟨_, ho, rfl⟩ PySem.F.entry_list_count (PySem.F.args_list_count_2 _ _)
        (SeqAt.list_countAt a its.toArray n dd sls uy (fun u => PyData.eqv (SeqAt.readOf s.heap u) d)) ⟨ho, SeqAt.items_eqAt (vs := its.toArray) (show ReadsAll s.heap its.toArray.toList ds as from h4) r1 c1 (SeqAt.canLay_of_shaped sd) rm, ?_⟩
      have ec : its.toArray.toList.countP (fun u => PyData.eqv (SeqAt.readOf s.heap u) d) = ds.countP fun z => PyData.eqv z d := by
        rw [← mp, List.countP_map]
        rfl
      rw [ec]
      exact ⟨.int _, H, I.tok _, ⟨_, rfl⟩, q⟩
theorem e_cnt {i : Nat} {y : Str} {b : Expr} {py ap cp : Pos} {rb : List Sl → R D} (hu : X.A.units + 65 < cLine) (hv : PE X (.Name y py) (tVar i)) (hl : (ap.endLine == cp.line) = true) (ns : notStar b = true) (hb : PE X b (rdE X.K ca W rb))
    (few : ((backTo cp (starEach [b] X.env)).all (fun x => !x.1) && (backToKw cp (keywordEach [] X.env)).all (fun x => x.1.isSome) && decide (([b] : List Expr).length + ([] : List Keyword).length + (if ([] : List Keyword).isEmpty then 0 else 1) < 30)) = true) :
    PE X (.Call (.Attribute (.Name y py) "count" ap) [b] [] cp) (rdE X.K ca W fun env => (getV env i).bind fun x => (lstR x).bind fun l => (rb env).bind fun z => cntR l z) :=
  PE.imp (pe_bm PySem.F.plainAttrs_list PySem.F.slot_list_count PySem.F.type_list_count (mt_cntD hu) hv (pa_cons hb pa_nil (star_cons ns)) rfl few hl (star_cons ns) rfl) fun σ H Q ⟨env, G, hg, he, hm⟩ => by
    dsimp only at hm
    cases q : env[i]? with
    | none => rw [show getV env i = .bad from by unfold getV; rw [q]] at hm; exact hm.elim
    | some z =>
      cases z with
      | fr d =>
        rw [show getV env i = .ok d from by unfold getV; rw [q]] at hm
        obtain ⟨v, h1, h2⟩ := he.get i d q
        cases d with
        | list ds =>
          cases h2 with
          | lst q1 r1 =>
            have hm : Rs X.K (BX ca W σ) H G Q ((rb env).bind fun z => cntR ds z) := hm
            refine ⟨_, h1, .inl ⟨rfl, _, hg.seq q1⟩, env, G, hg, he, Rs.bind hm fun x v H1 G1 _ e1 hx hm1 => ?_⟩
            dsimp only [cntR] at hm1
            split at hm1
            · rename_i hs
              exact ⟨_, v, x, ds, rfl, rfl, .lst (e1.c.seq (e1.b.seq q1)) (dpAll_mono (e1.b.trans e1.c) r1), dp_mono e1.c hx, hs.2, hs.1, Rs.now hm1 e1.c (.int _)⟩
            · exact hm1.elim
        | _ => exact hm.elim
      | _ => rw [show getV env i = .bad from by unfold getV; rw [q]] at hm; exact hm.elim
/-! ### how many unlike ones -/
theorem nd_sub_len {α : Type} [DecidableEq α] : ∀ (l D : List α), l.Nodup → (∀ x ∈ l, x ∈ D) → l.length ≤ D.length
  | [], _, _, _ => Nat.zero_le _
  | a :: l, D, nd, h => by
    rw [List.nodup_cons] at nd
    have hm : a ∈ D := h a List.mem_cons_self
    have e := List.length_erase_of_mem hm
    have p : 0 < D.length := List.length_pos_of_mem hm
    have ih := nd_sub_len l (D.erase a) nd.2 fun x hx => (List.mem_erase_of_ne (fun z => nd.1 (by rw [← z]; exact hx))).mpr (h x (List.mem_cons_of_mem _ hx))
    rw [List.length_cons]
    omega
def ded : List (List Int) → List (List Int)
  | [] => []
  | x :: xs => if x ∈ xs then ded xs else x :: ded xs
theorem ded_mem : ∀ {l : List (List Int)} {x : List Int}, x ∈ ded l ↔ x ∈ l
  | [], x => Iff.rfl
  | y :: l, x => by
    unfold ded
    by_cases h : y ∈ l
    · rw [if_pos h, ded_mem, List.mem_cons]
      refine ⟨.inr, fun z => ?_⟩
      rcases z with rfl | z
      · exact h
      · exact z
    · rw [if_neg h, List.mem_cons, List.mem_cons, ded_mem]
theorem ded_nd : ∀ (l : List (List Int)), (ded l).Nodup
  | [] => List.nodup_nil
  | y :: l => by
    unfold ded
    by_cases h : y ∈ l
    · rw [if_pos h]; exact ded_nd l
    · rw [if_neg h, List.nodup_cons]; exact ⟨fun z => h (ded_mem.mp z), ded_nd l⟩
theorem ded_len : ∀ (l : List (List Int)), (ded l).length = dedN l
  | [] => rfl
  | y :: l => by
    unfold ded dedN
    by_cases h : y ∈ l
    · rw [if_pos h, if_pos h]; exact ded_len l
    · rw [if_neg h, if_neg h, List.length_cons, ded_len l]
theorem dedN_of {l ks : List (List Int)} (nd : l.Nodup) (h1 : ∀ x ∈ l, x ∈ ks) (h2 : ∀ x ∈ ks, x ∈ l) : l.length = dedN ks := by
  rw [← ded_len]
  exact Nat.le_antisymm (nd_sub_len _ _ nd fun x hx => ded_mem.mpr (h1 x hx)) (nd_sub_len _ _ (ded_nd ks) fun x hx => h2 x (ded_mem.mp hx))
theorem tups_of {G : Hp} : ∀ {vs : List V} {ds : List D} {kss : List (List Int)}, DpAll K G vs ds → tupsOf ds = some kss → ∃ ks : List (Addr × List Int), vs = ks.map (fun p => V.ref p.1) ∧ kss = ks.map (·.2) ∧ ∀ p ∈ ks, SqT K G p.1 (p.2.map V.int)
  | _, _, _, .nil, e => by cases e; exact ⟨[], rfl, rfl, fun p h => by cases h⟩
  | _, _, kss, .cons (ds := ds) a b, e => by
    cases a with
    | tup q r =>
      unfold tupsOf at e
      obtain ⟨k, k1, e⟩ := Option.bind_eq_some_iff.mp e
      obtain ⟨l, l1, l2⟩ := Option.map_eq_some_iff.mp e
      obtain ⟨ks, e1, e2, e3⟩ := tups_of b l1
      have z := dpAll_ints r k1
      rw [z] at q
      refine ⟨(_, k) :: ks, by rw [e1]; rfl, by rw [← l2, e2]; rfl, fun p hp => ?_⟩
      rcases List.mem_cons.mp hp with rfl | hp
      · exact q
      · exact e3 p hp
    | _ => cases e
def tLensT (K : PySem.W.Frag) (ta : TE) : TE := fun σ H Q => ta σ H fun x H1 => ∃ (l : Addr), x = V.ref l ∧
  ((∃ ks : List (Addr × List Int), SqL K H1 l (ks.map fun p => V.ref p.1) ∧ (∀ p ∈ ks, SqT K H1 p.1 (p.2.map V.int)) ∧ ks.length < 64 ∧ Q (.int (dedN (ks.map (·.2)))) H1) ∨
   (∃ (b : Addr) (vs : List V), SqL K H1 l [V.ref b] ∧ SqT K H1 b vs ∧ (∀ v ∈ vs, ∃ (c : Addr) (k : List Int), v = V.ref c ∧ SqT K H1 c (k.map V.int)) ∧ Q (.int 1) H1))
theorem vals_ref_mem : ∀ {vs : List V} {us : List Value}, Vals vs us → ∀ u ∈ us, ∃ v ∈ vs, ∀ c : Addr, v = V.ref c → u = Value.ref c
  | _, _, .nil, u, h => by cases h
  | _, _, .cons (a := x) r t, u, h => by
    rcases List.mem_cons.mp h with e | h
    · refine ⟨x, List.mem_cons_self, fun c ec => ?_⟩
      subst ec
      rw [e]
      cases r <;> rfl
    · obtain ⟨v, h1, h2⟩ := vals_ref_mem t u h
      exact ⟨v, List.mem_cons_of_mem _ h1, h2⟩
theorem inv_isP {pins : List (Addr × Obj)} {σ : L2.St} {H : Hp} {s : Shared} {b : Addr} {vs : List V} (I : Inv X pins σ H s) (h : SqT X.K H b vs) (hv : ∀ v ∈ vs, ∃ (c : Addr) (k : List Int), v = V.ref c ∧ SqT X.K H c (k.map V.int)) : IsP X.prog X.w s.heap b := by
  obtain ⟨its, r, ⟨o, ho, hc, n, hd⟩, _⟩ := I.tuple h
  refine ⟨o, its.toArray, n, ho, hc, hd, fun u hu => ?_⟩
  obtain ⟨v, h1, h2⟩ := vals_ref_mem r u (by simpa using hu)
  obtain ⟨c, k, e, ht⟩ := hv v h1
  exact ⟨c, k, h2 c e, I.isT ht⟩
theorem pe_lensT {a : Expr} {ta : TE} {p p2 q pos : Pos} (hc : X.calm = true) (hu : X.A.units + 65 < cLine) (hg : Gl X "len") (hm : X.mg "len" = none) (hg2 : Gl X "set") (hm2 : X.mg "set" = none) (na : notStar a = true) (ha : PE X a ta) :
    PE X (.Call (.Name "len" p) [.Call (.Name "set" p2) [a] [] q] [] pos) (tLensT X.K ta) := by
  have n1 := star_cons (env := X.env) (es := []) na
  refine ⟨fun pins s σ H Q I h => ?_⟩
  refine Call_ (ld_blt I hg hm PySem.boot_len ?_)
  refine PyProof.Rows.callWith_builtin1 (PyProof.Rows.args_cons (Call_ (ld_blt I hg2 hm2 PyProof.Rows.boot_set ?_)) rfl) rfl rfl
  refine PyProof.Rows.callWith_type1 (PyProof.Rows.args_cons (thn (ha.run pins s σ H _ I h) fun v s1 ⟨x, H1, I1, r1, q1⟩ => PyProof.Rows.args_nil ?_) n1) n1 rfl
  obtain ⟨l, rfl, ⟨ks, hl, hk, hf, q1⟩ | ⟨b, vs, hl, hb, hvs, q1⟩⟩ := q1
  rotate_left
  · cases r1
    obtain ⟨its, rv, pl, hz⟩ := I1.list hl
    have e1 : its = [Value.ref b] := by
      cases rv with
      | cons r t =>
        cases t
        cases r
        rfl
    refine call_set_one (P := X.prog) (w := X.w) (x := b) (I1.ok.hd hc) pl.isList (by simpa using e1) (inv_isP I1 hb hvs) (by omega) fun h' tk o1 k => ?_
    refine PyProof.Rows.args_nil ?_
    have I2 : Inv X pins σ H1 { s1 with heap := h', toks := tk } := I1.kept fun b o e => k b o e
    obtain ⟨o, es, ep, t, o1, o2, o3, sz, fit⟩ := o1
    refine call_len_set (s := { s1 with heap := h', toks := tk }) o1 o2 o3 fit (by rw [sz]; decide) ⟨.int _, H1, I2.tok _, ⟨_, rfl⟩, ?_⟩
    rw [sz]
    exact q1
  cases r1
  obtain ⟨its, rv, pl, hz⟩ := I1.list hl
  refine call_set_tups (P := X.prog) (w := X.w) ks (I1.ok.hd hc) pl.isList (by simpa using refs_of_vals rv) (fun p hp => I1.isT (hk p hp)) hf (by omega) fun h' tk L es ep t R g k => ?_
  refine PyProof.Rows.args_nil ?_
  have I2 : Inv X pins σ H1 { s1 with heap := h', toks := tk } := I1.kept fun b o e => k b o e
  obtain ⟨o, o1, o2, o3⟩ := R.ob
  have sz : es.size = L.length := SetTR.size (s := { s1 with heap := h', toks := tk }) R
  have le := R.few
  have en : L.length = dedN (ks.map (·.2)) := by
    have z := dedN_of (l := L.map (·.2)) (ks := ks.map (·.2)) R.nd (fun x hx => by
      obtain ⟨p, p1, p2⟩ := List.mem_map.mp hx
      exact List.mem_map.mpr ⟨p, List.mem_of_mem_take (g.sub p p1), p2⟩) (fun x hx => by
      obtain ⟨p, p1, p2⟩ := List.mem_map.mp hx
      rw [← p2]
      exact g.all p (by rw [List.take_length]; exact p1))
    rw [List.length_map] at z
    exact z
  refine call_len_set (s := { s1 with heap := h', toks := tk }) o1 o2 o3 (SetTR.fits (s := { s1 with heap := h', toks := tk }) R) (by rw [sz]; omega) ⟨.int _, H1, I2.tok _, ⟨_, rfl⟩, ?_⟩
  rw [sz, en]
  exact q1
theorem e_lens {a : Expr} {p p2 q pos : Pos} {ra : List Sl → R D} (hc : X.calm = true) (hu : X.A.units + 65 < cLine) (hg : Gl X "len") (hm : X.mg "len" = none) (hg2 : Gl X "set") (hm2 : X.mg "set" = none) (na : notStar a = true) (ha : PE X a (rdE X.K ca W ra)) :
    PE X (.Call (.Name "len" p) [.Call (.Name "set" p2) [a] [] q] [] pos) (rdE X.K ca W fun env => (ra env).bind lensR) :=
  PE.imp (pe_lensT hc hu hg hm hg2 hm2 na ha) fun σ H Q ⟨env, G, hg, he, hm⟩ => ⟨env, G, hg, he, Rs.bind hm fun x v H1 G1 _ e1 hx hm1 => by
    have s := e1.c
    cases hx with
    | lst q r =>
      rename_i ds hra
      dsimp only [lensR] at hm1
      cases e : tupsOf ds with
      | none =>
        rw [e] at hm1
        dsimp only at hm1
        split at hm1
        · rename_i hp
          unfold oneP at hp
          split at hp
          · rename_i es
            cases r with
            | cons a b =>
              cases b
              cases a with
              | tup q2 r2 =>
                obtain ⟨ks2, e2⟩ := Option.isSome_iff_exists.mp hp
                obtain ⟨ks, k1, k2, k3⟩ := tups_of r2 e2
                refine ⟨_, rfl, .inr ⟨_, _, s.seq q, Same.seqT s q2, fun v hv => ?_, Rs.now hm1 s (.int _)⟩⟩
                rw [k1] at hv
                obtain ⟨p, hp, rfl⟩ := List.mem_map.mp hv
                exact ⟨p.1, p.2, rfl, Same.seqT s (k3 p hp)⟩
          · cases hp
        · exact hm1.elim
      | some kss =>
        rw [e] at hm1
        obtain ⟨ks, k1, k2, k3⟩ := tups_of r e
        subst k1 k2
        dsimp only at hm1
        split at hm1
        · rename_i hl
          rw [List.length_map] at hl
          exact ⟨_, rfl, .inl ⟨ks, s.seq q, fun p hp => Same.seqT s (k3 p hp), hl, Rs.now hm1 s (.int _)⟩⟩
        · exact hm1.elim
    | _ => exact hm1.elim⟩
/-- a dict of the module that stays: words that are asked for -/
structure DctOk (X : Cx) (x : Str) (j : Nat) : Prop where
  ex : ∃ d es m, X.mg x = some (.ref d) ∧ KDict X.K X.w d es m ∧ ∀ z b, (z, b) ∈ dctT j → ∃ r, PySem.W.nsIn X.K d z = some r ∧ r.isSome = b
theorem lookup_mem' {z : Str} {b : Bool} : ∀ {l : List (Str × Bool)}, l.lookup z = some b → (z, b) ∈ l
  | [], h => by cases h
  | (y, c) :: r, h => by
    rw [List.lookup_cons] at h
    split at h
    · rename_i e
      cases h
      rw [beq_iff_eq.mp e]
      exact List.mem_cons_self
    · exact List.mem_cons_of_mem _ (lookup_mem' h)
theorem e_ins {a : Expr} {x : Str} {j : Nat} {p pos : Pos} {ra : List Sl → R D} (Dc : DctOk X x j) (hg : Gl X x) (hd : (x == ("__debug__" : Str)) = false) (ha : PE X a (rdE X.K ca W ra)) :
    Both X ca W (.Compare a [.In] [.Name x p] pos) (fun env => (ra env).bind (insR j)) := by
  obtain ⟨d, es, m, h1, h2, h3⟩ := Dc.ex
  have hb : PE X (.Name x p) (tC (.ref d)) := pe_glob hg h1 rfl hd
  have key : ∀ (B : Str → Hp → Prop) (H1 G1 : Hp) (y : D) (v : V) (Q : VK), Same G1 H1 → Dp X.K G1 v y → Rs X.K B H1 G1 Q (insR j y) → ∃ (z : Str) (r : Option Value), v = .str z ∧ (V.ref d : V) = .ref d ∧ PySem.W.nsIn X.K d z = some r ∧ Q (.bl r.isSome) H1 := by
    intro B H1 G1 y v Q s hx hm
    cases hx with
    | str z =>
      dsimp only [insR] at hm
      cases e : (dctT j).lookup z with
      | none => rw [e] at hm; exact hm.elim
      | some b =>
        rw [e] at hm
        obtain ⟨r, r1, r2⟩ := h3 z b (lookup_mem' e)
        exact ⟨z, r, rfl, rfl, r1, by rw [r2]; exact Rs.now hm s (.bl _)⟩
    | _ => exact hm.elim
  refine ⟨PE.imp (pe_cmpR (op_in_kd h2) ha hb rfl) fun σ H Q ⟨env, G, hg, he, hm⟩ => ⟨env, G, hg, he, Rs.bind hm fun y v H1 G1 _ e1 hx hm1 => key _ _ _ _ _ _ e1.c hx hm1⟩, ?_⟩
  exact PT.imp (pt_cmpR (op_in_kd h2) ha hb rfl) fun σ H Q h => by
    obtain ⟨env, G, hg, he, hm⟩ := rdT_val h
    exact ⟨env, G, hg, he, Rs.bind hm fun y v H1 G1 _ e1 hx hm1 => key _ _ _ _ _ _ e1.c hx hm1⟩
/-! ### texts -/
/-- what stands ahead of a method's name -/
def baseB : Expr → Bool
  | .Call _ _ _ _ => false
  | _ => true
theorem base_ok {o : Expr} {a : Str} {env : Env} {w : Sem Value} (h : baseB o = true) : attributeBase o a env w = w := by
  cases o <;> first | rfl | cases h
def txName : Tx → Str
  | .join => "join"
  | .split => "split"
  | .part => "partition"
  | .idx => "index"
  | _ => ""
def tx2B : Tx → Bool
  | .join => true
  | .split => true
  | .part => true
  | .idx => true
  | _ => false
theorem dpAll_strs {G : Hp} : ∀ {vs : List V} {ds : List D} {ns : List Str}, DpAll K G vs ds → strsOf ds = some ns → vs = ns.map V.str
  | _, _, _, .nil, e => by cases e; rfl
  | _, _, _, .cons (ds := ds) a b, e => by
    cases a with
    | str i =>
      rw [strsOf] at e
      obtain ⟨l, h1, h2⟩ := Option.map_eq_some_iff.mp e
      subst h2
      rw [dpAll_strs b h1]; rfl
    | _ => cases e
theorem dpAll_ofStrs {G : Hp} : ∀ ys : List Str, DpAll K G (ys.map V.str) (ys.map PyData.str)
  | [] => .nil
  | y :: ys => .cons (.str y) (dpAll_ofStrs ys)
theorem sem_tx2 {B : Str → Hp → Prop} {H G : Hp} {u : V} {z : Str} {y : D} {Q : VK} (s : Same G H) (hy : Dp K G u y) : ∀ o : Tx, Rs K B H G Q (tx2R o z y) → (match o with
    | .join => ∃ a p, ∃ ys : List Str, V.str z = .str a ∧ [u] = [.ref p] ∧ (SqL K H p (ys.map V.str) ∨ SqT K H p (ys.map V.str)) ∧ (ys.map (·.length)).sum + ys.length * a.length ≤ 16777216 ∧ Q (.str (Txt.join a ys)) H
    | .split => ∃ a b, V.str z = .str a ∧ [u] = [.str b] ∧ (b.length == 0) = false ∧ a.length + 2 ≤ sizeLine ∧ rNewStrs (Txt.split a b) H Q
    | .part => ∃ a b, V.str z = .str a ∧ [u] = [.str b] ∧ (b.length == 0) = false ∧ a.length ≤ sizeLine ∧ ∀ p, H p = none → Q (.ref p) (upd H p (.tup [.str (Txt.partition a b).1, .str (Txt.partition a b).2.1, .str (Txt.partition a b).2.2]))
    | .idx => ∃ a b i rest, V.str z = .str a ∧ [u] = [.str b] ∧ Builtin.Str.occurrences a b 0 a.length 1 = i :: rest ∧ Q (.int (i : Nat)) H
    | _ => False)
  | .str, h => h.elim
  | .isdig, h => h.elim
  | .join, h => by
    cases hy with
    | lst q r =>
      rename_i ds
      dsimp only [tx2R] at h
      cases e : strsOf ds with
      | none => rw [e] at h; exact h.elim
      | some ys =>
        rw [e] at h
        have z := dpAll_strs r e
        subst z
        have h : Rs K B H G Q (if (ys.map (·.length)).sum + ys.length * z.length ≤ 16777216 then .ok (.str (Txt.join z ys)) else .bad) := h
        split at h
        · exact ⟨_, _, ys, rfl, rfl, .inl (s.seq q), ‹_›, Rs.now h s (.str _)⟩
        · exact h.elim
    | _ => exact h.elim
  | .split, h => by
    cases hy with
    | str b =>
      dsimp only [tx2R] at h
      split at h
      · rename_i hc
        exact ⟨z, b, rfl, rfl, hc.1, hc.2, fun p hp => Rs.new h s hp (.lst (SqL.of upd_same) (dpAll_ofStrs _))⟩
      · exact h.elim
    | _ => exact h.elim
  | .part, h => by
    cases hy with
    | str b =>
      dsimp only [tx2R] at h
      split at h
      · rename_i hc
        exact ⟨z, b, rfl, rfl, hc.1, hc.2, fun p hp => Rs.new h s hp (.tup (SqT.of upd_same) (.cons (.str _) (.cons (.str _) (.cons (.str _) .nil))))⟩
      · exact h.elim
    | _ => exact h.elim
  | .idx, h => by
    cases hy with
    | str b =>
      dsimp only [tx2R] at h
      split at h
      · rename_i i rest e
        exact ⟨z, b, i, rest, rfl, rfl, e, Rs.now h s (.int _)⟩
      · exact h.elim
    | _ => exact h.elim
theorem tx2_read {σ : L2.St} {H : Hp} {Q : VK} {o : Tx} {ra rb : List Sl → R D} {r : V → List V → Hp → VK → Prop} (h : rdE K ca W (fun env => (ra env).bind fun x => (onStr x).bind fun z => (rb env).bind (tx2R o z)) σ H Q)
    (hr : ∀ (B : Str → Hp → Prop) (H G : Hp) (z : Str) (u : V) (y : D), Same G H → Dp K G u y → Rs K B H G Q (tx2R o z y) → r (.str z) [u] H Q) : tM1 r (rdE K ca W ra) (rdE K ca W rb) σ H Q := by
  obtain ⟨env, G, hg, he, hm⟩ := h
  refine ⟨env, G, hg, he, Rs.bind hm fun x v H1 G1 _ e1 hx hm1 => ?_⟩
  cases hx with
  | str z =>
    exact ⟨⟨z, rfl⟩, env, G1, e1.c, he.mono e1.b, Rs.bind (show Rs K (BX ca W σ) H1 G1 Q ((rb env).bind (tx2R o z)) from hm1) fun y u H2 G2 _ e2 hy hm2 => hr _ _ _ _ _ _ e2.c hy hm2⟩
  | _ => exact hm1.elim
theorem e_tx2 {a b : Expr} {o : Tx} {ap cp : Pos} {ra rb : List Sl → R D} (ho : tx2B o = true) (hl : (ap.endLine == cp.line) = true) (hb0 : baseB a = true) (ns : notStar b = true) (ha : PE X a (rdE X.K ca W ra)) (hb : PE X b (rdE X.K ca W rb)) :
    PE X (.Call (.Attribute a (txName o) ap) [b] [] cp) (rdE X.K ca W fun env => (ra env).bind fun x => (onStr x).bind fun z => (rb env).bind (tx2R o z)) := by
  cases o with
  | join => exact PE.imp (pe_join ha hb (star_cons ns) (base_ok hb0) hl) fun σ H Q h => tx2_read h fun B H G z u y s hy h => sem_tx2 s hy .join h
  | split => exact PE.imp (pe_split ha hb (star_cons ns) (base_ok hb0) hl) fun σ H Q h => tx2_read h fun B H G z u y s hy h => sem_tx2 s hy .split h
  | part => exact PE.imp (pe_partition ha hb (star_cons ns) (base_ok hb0) hl) fun σ H Q h => tx2_read h fun B H G z u y s hy h => sem_tx2 s hy .part h
  | idx => exact PE.imp (pe_m1 PySem.F.slot_str_index PySem.F.type_str_index mt_sindex ha hb (star_cons ns) (base_ok hb0) hl) fun σ H Q h => tx2_read h fun B H G z u y s hy h => sem_tx2 s hy .idx h
  | _ => cases ho
theorem e_str {a : Expr} {p pos : Pos} {ra : List Sl → R D} (hg : Gl X "str") (hm : X.mg "str" = none) (n : notStar a = true) (ha : PE X a (rdE X.K ca W ra)) :
    PE X (.Call (.Name "str" p) [a] [] pos) (rdE X.K ca W fun env => (ra env).bind (tx1R .str)) :=
  PE.imp (pe_callTy call_str_int hg hm (by decide +kernel) (pa_cons ha pa_nil (star_cons n)) (by decide +kernel) (by decide +kernel) (star_cons n) rfl) fun σ H Q ⟨env, G, hg, he, hm⟩ => ⟨env, G, hg, he, Rs.bind hm fun x v H1 G1 _ e1 hx hm1 => by
    cases hx with
    | int i =>
      dsimp only [tx1R] at hm1
      split at hm1
      · exact ⟨i, rfl, ‹_›, hm1.now e1.c (.str _)⟩
      · exact hm1.elim
    | _ => exact hm1.elim⟩
theorem e_isdig {a : Expr} {ap cp : Pos} {ra : List Sl → R D} (hl : (ap.endLine == cp.line) = true) (hb0 : baseB a = true) (ha : PE X a (rdE X.K ca W ra)) :
    PE X (.Call (.Attribute a "isdigit" ap) [] [] cp) (rdE X.K ca W fun env => (ra env).bind (tx1R .isdig)) :=
  PE.imp (pe_m0 PySem.F.slot_str_isdigit PySem.F.type_str_isdigit mt_isdigit ha (base_ok hb0) hl) fun σ H Q ⟨env, G, hg, he, hm⟩ => ⟨env, G, hg, he, Rs.bind hm fun x v H1 G1 _ e1 hx hm1 => by
    cases hx with
    | str z => exact ⟨⟨z, rfl⟩, z, rfl, rfl, trivial, hm1.now e1.c (.bl _)⟩
    | _ => exact hm1.elim⟩
/-- a dict of the module that holds texts by texts -/
structure DctV (X : Cx) (x : Str) (j : Nat) : Prop where
  ex : ∃ d es m, X.mg x = some (.ref d) ∧ KDict X.K X.w d es m ∧ ∀ z, ∃ r, PySem.W.nsIn X.K d z = some r ∧ r.isSome = ((dctV j).lookup z).isSome ∧ ∀ s, (dctV j).lookup z = some s → ∃ t, r = some (.str s t)
theorem e_ind {a : Expr} {x : Str} {j : Nat} {p pos : Pos} {ra : List Sl → R D} (Dc : DctV X x j) (hg : Gl X x) (hd : (x == ("__debug__" : Str)) = false) (ha : PE X a (rdE X.K ca W ra)) :
    Both X ca W (.Compare a [.In] [.Name x p] pos) (fun env => (ra env).bind (indR j)) := by
  obtain ⟨d, es, m, h1, h2, h3⟩ := Dc.ex
  have hb : PE X (.Name x p) (tC (.ref d)) := pe_glob hg h1 rfl hd
  have key : ∀ (B : Str → Hp → Prop) (H1 G1 : Hp) (y : D) (v : V) (Q : VK), Same G1 H1 → Dp X.K G1 v y → Rs X.K B H1 G1 Q (indR j y) → ∃ (z : Str) (r : Option Value), v = .str z ∧ (V.ref d : V) = .ref d ∧ PySem.W.nsIn X.K d z = some r ∧ Q (.bl r.isSome) H1 := by
    intro B H1 G1 y v Q s hx hm
    cases hx with
    | str z =>
      obtain ⟨r, r1, r2, _⟩ := h3 z
      exact ⟨z, r, rfl, rfl, r1, by rw [r2]; exact Rs.now hm s (.bl _)⟩
    | _ => exact hm.elim
  refine ⟨PE.imp (pe_cmpR (op_in_kd h2) ha hb rfl) fun σ H Q ⟨env, G, hg, he, hm⟩ => ⟨env, G, hg, he, Rs.bind hm fun y v H1 G1 _ e1 hx hm1 => key _ _ _ _ _ _ e1.c hx hm1⟩, ?_⟩
  exact PT.imp (pt_cmpR (op_in_kd h2) ha hb rfl) fun σ H Q h => by
    obtain ⟨env, G, hg, he, hm⟩ := rdT_val h
    exact ⟨env, G, hg, he, Rs.bind hm fun y v H1 G1 _ e1 hx hm1 => key _ _ _ _ _ _ e1.c hx hm1⟩
theorem e_dg {a : Expr} {x : Str} {j : Nat} {p pos : Pos} {ra : List Sl → R D} (Dc : DctV X x j) (hg : Gl X x) (hd : (x == ("__debug__" : Str)) = false) (hs : PlainIx a) (ha : PE X a (rdE X.K ca W ra)) :
    PE X (.Subscript (.Name x p) a pos) (rdE X.K ca W fun env => (ra env).bind (dgR j)) := by
  obtain ⟨d, es, m, h1, h2, h3⟩ := Dc.ex
  have hb : PE X (.Name x p) (tC (.ref d)) := pe_glob hg h1 rfl hd
  exact PE.imp (pe_ix ix_kdict hb ha hs) fun σ H Q ⟨env, G, hg, he, hm⟩ => ⟨env, G, hg, he, Rs.bind hm fun y v H1 G1 _ e1 hx hm1 => by
    cases hx with
    | str z =>
      dsimp only [dgR] at hm1
      cases e : (dctV j).lookup z with
      | none => rw [e] at hm1; exact hm1.elim
      | some s =>
        rw [e] at hm1
        obtain ⟨r, r1, _, r3⟩ := h3 z
        obtain ⟨t, rfl⟩ := r3 s e
        exact ⟨d, z, .str s, rfl, rfl, ⟨es, m, _, h2.at_, h2.lit, r1, ⟨t, rfl⟩⟩, Rs.now hm1 e1.c (.str _)⟩
    | _ => exact hm1.elim⟩
end
end Cw

set_option Elab.async false
set_option linter.all false
set_option maxRecDepth 100000
set_option maxHeartbeats 4000000
namespace Cw
open PySem PySem.Spec PyProof.Rows L2

/-! ### the look: a term of the tongue is the text's expression -/
structure Gm where
  fns : List (Str × Nat)
  cons : List (Str × Nat)
  wrds : List (Str × Nat)
  dcts : List (Str × Nat)
  clss : List Nat := []
  mths : List (Nat × Str × Nat) := []
  inis : List (Nat × Nat) := []
  lfs : List (Str × Nat) := []
  dvs : List (Str × Nat) := []
structure Lx where
  N : List Str
  sc : Scope
  fl : Str → Bool
  top : Bool
  me : Bool := false

def kindB (L : Lx) (x : Str) (k : NameKind) : Bool := decide (L.sc.names.lookup x = some k)
def noDbg (x : Str) : Bool := !(x == ("__debug__" : Str)) && !(x == ("__classdict__" : Str))
def glB (L : Lx) (x : Str) : Bool := kindB L x .globalImplicit && noDbg x
def visB (L : Lx) (x : Str) : Bool := (kindB L x .local || kindB L x .cell || kindB L x .free) && noDbg x
def tgB (L : Lx) (i : Nat) (x : Str) : Bool := decide (L.N[i]? = some x) && (kindB L x .local || (kindB L x .cell && L.fl x))
def chkK : D → Expr → Bool
  | .none, .Constant .none _ _ => true
  | .bool b, .Constant (.bool c) _ _ => decide (b = c)
  | .int b, .Constant (.int c) _ _ => decide (b = c)
  | .str b, .Constant (.str c) _ _ => decide (b = c)
  | _, _ => false
def chkTs (L : Lx) : List Nat → List Expr → Bool
  | [], [] => true
  | i :: l, .Name x _ :: es => tgB L i x && chkTs L l es
  | _, _ => false
def chkT (L : Lx) : Tg → Expr → Bool
  | .one i, .Name x _ => tgB L i x
  | .many l, .Tuple es _ _ => chkTs L l es
  | _, _ => false
def tgL : Tg → List Nat
  | .one i => [i]
  | .many l => l
def isMany : Tg → Bool
  | .many _ => true
  | _ => false
def ownN (N : List Str) (own : List Nat) : List (Str × Nat) := own.filterMap fun i => (N[i]?).map fun x => (x, i)
def notSlice : Expr → Bool
  | .Slice _ _ _ _ => false
  | _ => true
def notSet : Expr → Bool
  | .Set _ _ _ => false
  | _ => true
def inL (L : Lx) (scope : Scope) : Lx := ⟨L.N, relS scope L.sc, fun x => scope.names.lookup x == some .cell, false, L.me⟩

mutual
def chkE (g : Gm) : E → Lx → Expr → Bool
  | .k d, _, x => chkK d x
  | .v i, L, x => (match x with
    | .Name x _ => decide (L.N[i]? = some x) && visB L x
    | _ => false)
  | .g j, L, x => (match x with
    | .Name x _ => glB L x && g.cons.contains (x, j)
    | _ => false)
  | .tup es, L, x => (match x with
    | .Tuple xs _ _ => chkEs g es L xs && decide (xs.length ≤ 1000)
    | _ => false)
  | .lst es, L, x => (match x with
    | .List xs _ => chkEs g es L xs && decide (xs.length ≤ 1000)
    | _ => false)
  | .bin o a b, L, x => (match x with
    | .BinOp xa op xb _ => decide (op = opOf o) && (chkE g a L xa && chkE g b L xb)
    | _ => false)
  | .neg a, L, x => (match x with
    | .UnaryOp .USub xa _ => chkE g a L xa
    | _ => false)
  | .not a, L, x => (match x with
    | .UnaryOp .Not xa _ => chkE g a L xa
    | _ => false)
  | .and es, L, x => (match x with
    | .BoolOp .And xs _ => chkEs g es L xs && !xs.isEmpty
    | _ => false)
  | .or es, L, x => (match x with
    | .BoolOp .Or xs _ => chkEs g es L xs && !xs.isEmpty
    | _ => false)
  | .cmp o a b, L, x => (match x with
    | .Compare xa [op] [xb] _ => decide (op = cmOf o) && notSet xb && (chkE g a L xa && chkE g b L xb)
    | _ => false)
  | .cmp2 o o2 a b c, L, x => (match x with
    | .Compare xa [op, op2] [xb, xc] _ => decide (op = cmOf o) && decide (op2 = cmOf o2) && (!decide (o = .isin) && !decide (o = .nin)) && (!decide (o2 = .isin) && !decide (o2 = .nin)) && (chkE g a L xa && chkE g b L xb && chkE g c L xc)
    | _ => false)
  | .ife c a b, L, x => (match x with
    | .IfExp xc xa xb _ => chkE g c L xc && chkE g a L xa && chkE g b L xb
    | _ => false)
  | .ix a i, L, x => (match x with
    | .Subscript xa xi _ => notSlice xi && chkE g a L xa && chkE g i L xi
    | _ => false)
  | .sl a lo hi, L, x => (match x with
    | .Subscript xa (.Slice xl xh none _) _ => chkE g a L xa && chkO g lo L xl && chkO g hi L xh
    | _ => false)
  | .call f es, L, x => (match x with
    | .Call (.Name y _) (xe :: xs) [] _ => glB L y && g.fns.contains (y, f) && chkEs g es L (xe :: xs)
    | _ => false)
  | .bf f es, L, x => (match x with
    | .Call (.Name y _) (xe :: xs) [] _ => decide (y = bfName f) && glB L y && chkEs g es L (xe :: xs)
    | _ => false)
  | .isi a t, L, x => (match x with
    | .Call (.Name y _) [xa, .Name z _] [] _ => decide (y = ("isinstance" : Str)) && glB L y && decide (z = Str.ofString (tyName t)) && glB L z && chkE g a L xa
    | _ => false)
  | .lc own elt tg it c, L, x => (match x with
    | .ListComp xe [⟨xt, xi, xc, as⟩] scope _ => decide (as = 0) && decide ((ownN L.N own).map (·.2) = own) && blkC L.N L.sc scope (ownN L.N own) && (tgL tg).all (fun i => own.contains i) && chkT (inL L scope) tg xt
        && chkI g it L tg xi && chkC g c (inL L scope) xc && chkE g elt (inL L scope) xe
    | _ => false)
  | .rev a, L, x => (match x with
    | .Subscript xa (.Slice none none (some (.UnaryOp .USub (.Constant (.int c) _ _) _)) _) _ => decide (c = 1) && chkE g a L xa
    | _ => false)
  | .mx0 a, L, x => (match x with
    | .Call (.Name y _) [xa] [⟨some k, .Constant (.int c) _ _, _⟩] _ => decide (y = ("max" : Str)) && decide (k = ("default" : Str)) && decide (c = 0) && glB L y && chkE g a L xa
    | _ => false)
  | .ins a j, L, x => (match x with
    | .Compare xa [op] [.Name y _] _ => decide (op = .In) && glB L y && g.dcts.contains (y, j) && chkE g a L xa
    | _ => false)
  | .lens a, L, x => (match x with
    | .Call (.Name y _) [.Call (.Name z _) [xa] [] _] [] _ => decide (y = ("len" : Str)) && decide (z = ("set" : Str)) && glB L y && glB L z && chkE g a L xa
    | _ => false)
  | .lcx own elt tg it, L, x => (match x with
    | .ListComp xe [⟨xt, xi, [], as⟩] scope _ => L.top && decide (as = 0) && decide ((ownN L.N own).map (·.2) = own) && blkC L.N L.sc scope (ownN L.N own) && (tgL tg).all (fun i => own.contains i) && chkT (inL L scope) tg xt
        && chkI g it L tg xi && chkE g elt (inL L scope) xe
    | _ => false)
  | .orv a b, L, x => (match x with
    | .BoolOp .Or [xa, xb] _ => plainT xa && chkE g a L xa && chkE g b L xb
    | _ => false)
  | .cnt i b, L, x => (match x with
    | .Call (.Attribute (.Name y _) at_ ap) [xb] [] cp => decide (at_ = ("count" : Str)) && (ap.endLine == cp.line) && decide (L.N[i]? = some y) && visB L y && chkE g b L xb
    | _ => false)
  | .att i k j, L, x => (match x with
    | .Attribute (.Name y _) f _ => decide (L.N[i]? = some y) && visB L y && g.clss.contains k && decide ((clsF k)[j]? = some f)
    | _ => false)
  | .cln f a, L, x => (match x with
    | .Call (.Name y _) [xa, .List [] _] [] _ => glB L y && g.lfs.contains (y, f) && chkE g a L xa
    | _ => false)
  | .tx1 o a, L, x => (match x with
    | .Call (.Name y _) [xa] [] _ => decide (o = .str) && decide (y = ("str" : Str)) && glB L y && chkE g a L xa
    | .Call (.Attribute xa at_ ap) [] [] cp => decide (o = .isdig) && decide (at_ = ("isdigit" : Str)) && (ap.endLine == cp.line) && baseB xa && chkE g a L xa
    | _ => false)
  | .tx2 o a b, L, x => (match x with
    | .Call (.Attribute xa at_ ap) [xb] [] cp => tx2B o && decide (at_ = txName o) && (ap.endLine == cp.line) && baseB xa && chkE g a L xa && chkE g b L xb
    | _ => false)
  | .ind a j, L, x => (match x with
    | .Compare xa [op] [.Name y _] _ => decide (op = .In) && glB L y && g.dvs.contains (y, j) && chkE g a L xa
    | _ => false)
  | .dg j a, L, x => (match x with
    | .Subscript (.Name y _) xa _ => notSlice xa && glB L y && g.dvs.contains (y, j) && chkE g a L xa
    | _ => false)
def chkEs (g : Gm) : Es → Lx → List Expr → Bool
  | .nil, _, x => x.isEmpty
  | .cons e es, L, x => (match x with
    | x :: xs => chkE g e L x && chkEs g es L xs
    | _ => false)
def chkO (g : Gm) : Eo → Lx → Option Expr → Bool
  | .no, _, x => x.isNone
  | .yes e, L, x => (match x with
    | some x => chkE g e L x
    | _ => false)
def chkC (g : Gm) : Eo → Lx → List Expr → Bool
  | .no, _, x => x.isEmpty
  | .yes e, L, x => (match x with
    | [x] => chkE g e L x
    | _ => false)
def chkI (g : Gm) : It → Lx → Tg → Expr → Bool
  | .seq e, L, _, x => notSet x && chkE g e L x
  | .rng1 e, L, _, x => (match x with
    | .Call (.Name y _) [xa] [] _ => decide (y = ("range" : Str)) && glB L y && chkE g e L xa
    | _ => false)
  | .rng2 a b, L, _, x => (match x with
    | .Call (.Name y _) [xa, xb] [] _ => decide (y = ("range" : Str)) && glB L y && chkE g a L xa && chkE g b L xb
    | _ => false)
  | .enum e, L, t, x => (match x with
    | .Call (.Name y _) [xa] [] _ => isMany t && decide (y = ("enumerate" : Str)) && glB L y && chkE g e L xa
    | _ => false)
  | .zip a b, L, t, x => (match x with
    | .Call (.Name y _) [xa, xb] [] _ => isMany t && decide (y = ("zip" : Str)) && glB L y && chkE g a L xa && chkE g b L xb
    | _ => false)
end

/-- the built-in names that are left as they are -/
def blts : List Str := ["len", "abs", "max", "min", "int", "sum", "all", "any", "tuple", "list", "isinstance", "bool", "str", "range", "enumerate", "zip", "set"]

/-! ### fields -/
theorem clsF_nd : ∀ k : Nat, (clsF k).Nodup := by
  intro k
  unfold clsF
  split <;> decide +kernel
theorem clsF_len : ∀ k : Nat, (clsF k).length ≤ 10 := by
  intro k
  unfold clsF
  split <;> decide +kernel
theorem zip_lookup {β : Type} : ∀ {l : List Str} {us : List β} {j : Nat} {x : Str} {u : β}, l.Nodup → l[j]? = some x → us[j]? = some u → (l.zip us).lookup x = some u
  | [], us, j, x, u, _, h, _ => by simp at h
  | a :: l, [], j, x, u, _, _, h => by simp at h
  | a :: l, v :: us, 0, x, u, nd, h, g => by
    simp at h g
    subst h g
    simp [List.lookup]
  | a :: l, v :: us, j + 1, x, u, nd, h, g => by
    simp only [List.getElem?_cons_succ] at h g
    rw [List.nodup_cons] at nd
    have z : (x == a) = false := by
      cases q : (x == a) with
      | false => rfl
      | true => rw [eq_of_beq q] at h; exact (nd.1 (List.mem_of_getElem? h)).elim
    rw [List.zip_cons_cons]
    simp only [List.lookup, z]
    exact zip_lookup nd.2 h g
theorem e_att {X : Cx} {ca : Str → Value} {W : WX} {y f : Str} {i k j : Nat} {py pos : Pos} (c : Cls X.K (clsA X.K k)) (na : NoAttr X.K (clsA X.K k) f) (hf : (clsF k)[j]? = some f) (hv : PE X (.Name y py) (tVar i)) :
    PE X (.Attribute (.Name y py) f pos) (rdE X.K ca W fun env => attR env i k j) :=
  PE.imp (pe_fld hv rfl) fun σ H Q ⟨env, G, s, he, hm⟩ => by
    unfold attR at hm
    dsimp only at hm
    cases q : env[i]? with
    | none => rw [q] at hm; exact hm.elim
    | some z =>
      rw [q] at hm
      cases z with
      | ob b k' fs =>
        dsimp only at hm
        split at hm
        · rename_i hk
          subst hk
          obtain ⟨p, dx, vs, a1, a2, a3⟩ := he.ob i b _ fs q
          cases qd : fs[j]? with
          | none => rw [qd] at hm; exact hm.elim
          | some d =>
            rw [qd] at hm
            obtain ⟨v, v1, v2⟩ := dpAll_get a3 qd
            exact ⟨.ref p, a1, p, _, dx, _, v, rfl, s _ _ a2, c, na, zip_lookup (clsF_nd _) hf v1, hm v H G (Ext.refl s) v2⟩
        · exact hm.elim
      | _ => exact hm.elim

/-- where a body stands -/
theorem takesN0 {X : Cx} : L2N.Takes X (fun _ _ _ _ => False) := fun _ _ ⟨_, _, _, _, _, _, _, _, _, _, _, _, _, _, _, _, w⟩ => w.elim
/-- what the program's classes must say -/
structure ClsOk (K : PySem.W.Frag) (mg : Str → Option Value) (k : Nat) : Prop where
  mg : mg (clsN k) = some (.ref (clsA K k))
  cls : Cls K (clsA K k)
  noat : ∀ f ∈ clsF k, NoAttr K (clsA K k) f
/-- what the method numbered i of the class k promises, within n calls -/
def RsB (K : PySem.W.Frag) (B : Str → Hp → Prop) (H G : Hp) (p dx : Addr) (k : Nat) (Q : VK) : R (D × List D) → Prop
  | .ok r => ∀ v H' G' ws, Ext (del H p) G (del H' p) G' → H' p = some (insO K k dx ws) → DpAll K G' ws r.2 → G' p = none → Dp K G' v r.1 → Q v H'
  | .exc c => ∀ H' G' ws, Ext (del H p) G (del H' p) G' → H' p = some (insO K k dx ws) → B c H'
  | .bad => False
def spM (T : Nat → Option Def) (ca : Str → Value) (K : PySem.W.Frag) (n i k : Nat) : Sp := fun vs H Q E => ∃ p dx ws fs as ds G, vs = .ref p :: as ∧ H p = some (insO K k dx ws) ∧ DpAll K G ws fs ∧ G p = none ∧ Same G H ∧ DpAll K G as ds ∧
  RsB K (fun c H' => E (ca c) none H') H G p dx k Q (metO (evc T n i (.tuple fs :: ds)))
structure CxOk (T : Nat → Option Def) (g : Gm) (ca : Str → Value) (n : Nat) (L : Lx) (X : Cx) : Prop where
  hN : X.N = L.N
  hsc : X.env.scope = L.sc
  hfl : X.fn = L.fl
  htop : L.top = true → X.stack = X.env :: X.outer ∧ X.env.frame = some X.env.locals
  nd : X.N.Nodup
  calm : X.calm = true
  room : Room (2 * n + 46) X.A
  pyl : Pyl X
  blt : ∀ x ∈ blts, X.mg x = none
  cons : ∀ x j, (x, j) ∈ g.cons → ∃ u v, X.mg x = some u ∧ RelV v u ∧ ∀ H, Dp X.K H v (cst j)
  fns : ∀ x i, (x, i) ∈ g.fns → ∃ f fd ps, X.mg x = some (.ref f) ∧ PySem.W.keepIn X.K (.ref f) = true ∧ Binds X.K fd ps [] ∧ FnOk X.prog X.w X.K X.mg X.base (L2N.CX X.prog X.w) (2 * n + 45) f fd ps (spF T ca X.K n i)
  dcts : ∀ x j, (x, j) ∈ g.dcts → DctOk X x j
  clss : ∀ k ∈ g.clss, ClsOk X.K X.mg k
  mths : ∀ k m i, (k, m, i) ∈ g.mths → ∃ f fd ps, Meth X.K (clsA X.K k) m f ∧ Binds X.K fd ps [] ∧ FnOk X.prog X.w X.K X.mg X.base (L2N.CX X.prog X.w) (2 * n + 45) f fd ps (spM T ca X.K n i k)
  inis : ∀ k i, (k, i) ∈ g.inis → ∃ f fd ps, Mk X.K (clsA X.K k) f ∧ Binds X.K fd ps [] ∧ FnOk X.prog X.w X.K X.mg X.base (L2N.CX X.prog X.w) (2 * n + 45) f fd ps (spM T ca X.K n i k)
  lfs : ∀ x i, (x, i) ∈ g.lfs → ∃ f fd ps, X.mg x = some (.ref f) ∧ PySem.W.keepIn X.K (.ref f) = true ∧ Binds X.K fd ps [] ∧ FnOk X.prog X.w X.K X.mg X.base (L2N.CX X.prog X.w) (2 * n + 45) f fd ps (spL T X.K n i)
  dvs : ∀ x j, (x, j) ∈ g.dvs → DctV X x j

section
variable {T : Nat → Option Def} {g : Gm} {ca : Str → Value} {n : Nat} {L : Lx} {X : Cx}
theorem CxOk.un (C : CxOk T g ca n L X) : X.A.units + 65 < cLine := by have := C.room.un; omega
theorem CxOk.gl (C : CxOk T g ca n L X) {x : Str} (h : glB L x = true) : Gl X x := by
  unfold glB kindB at h
  rw [Bool.and_eq_true, decide_eq_true_eq] at h
  show X.env.scope.names.lookup x = _
  rw [C.hsc]; exact h.1
theorem dbg_of {x : Str} (h : noDbg x = true) : (x == ("__debug__" : Str)) = false ∧ (x == ("__classdict__" : Str)) = false := by
  unfold noDbg at h
  rw [Bool.and_eq_true] at h
  exact ⟨by simpa using h.1, by simpa using h.2⟩
theorem glB_dbg {x : Str} (h : glB L x = true) : (x == ("__debug__" : Str)) = false := by
  unfold glB at h
  rw [Bool.and_eq_true] at h
  exact (dbg_of h.2).1
theorem CxOk.vis (C : CxOk T g ca n L X) {x : Str} (h : visB L x = true) : Vis X.env.scope x := by
  unfold visB kindB at h
  simp only [Bool.and_eq_true, Bool.or_eq_true, decide_eq_true_eq] at h
  unfold Vis
  rw [C.hsc]
  rcases h.1 with (h | h) | h
  · exact .inl h
  · exact .inr (.inl h)
  · exact .inr (.inr h)
theorem CxOk.tg (C : CxOk T g ca n L X) {i : Nat} {x : Str} (h : tgB L i x = true) : X.N[i]? = some x ∧ L2.Loc X.env.scope x ∧ (X.fn x = true ∨ X.env.scope.names.lookup x = some .local) := by
  unfold tgB kindB at h
  simp only [Bool.and_eq_true, Bool.or_eq_true, decide_eq_true_eq] at h
  rw [C.hN, C.hfl]
  unfold L2.Loc
  rw [C.hsc]
  obtain ⟨h1, h2⟩ := h
  refine ⟨h1, ?_⟩
  rcases h2 with h2 | ⟨h2, h3⟩
  · exact ⟨.inl h2, .inr h2⟩
  · exact ⟨.inr h2, .inl h3⟩
theorem CxOk.pgs (C : CxOk T g ca n L X) : ∀ {l : List Nat} {es : List Expr}, chkTs L l es = true → PGs X es (gMany l) ∧ (assignEach es X.env).length = l.length ∧ (assignEach es X.env).findIdx? (·.1) = none
  | [], [], _ => ⟨pgs_nil, rfl, rfl⟩
  | [], _ :: _, h => by cases h
  | _ :: _, [], h => by cases h
  | i :: l, e :: es, h => by
    cases e with
    | Name x p =>
      have h : (tgB L i x && chkTs L l es) = true := h
      rw [Bool.and_eq_true] at h
      obtain ⟨a, b, c⟩ := C.pgs h.2
      obtain ⟨t1, t2, t3⟩ := C.tg h.1
      refine ⟨pgs_cons (pg_name C.nd t1 t2 t3) a rfl, ?_, ?_⟩
      · show (assignEach es X.env).length + 1 = l.length + 1
        rw [b]
      · show ((false, assign (.Name x p) X.env) :: assignEach es X.env).findIdx? (·.1) = none
        rw [List.findIdx?_cons, c]; rfl
    | _ => cases h
theorem CxOk.pg (C : CxOk T g ca n L X) {t : Tg} {e : Expr} (h : chkT L t e = true) : PG X e (gT X.K t) := by
  cases t with
  | one i => cases e with
    | Name x p =>
      obtain ⟨t1, t2, t3⟩ := C.tg (i := i) (x := x) h
      exact pg_name C.nd t1 t2 t3
    | _ => cases h
  | many l => cases e with
    | Tuple es k p =>
      obtain ⟨a, b, c⟩ := C.pgs (l := l) (es := es) h
      exact pg_tup C.calm a b c
    | _ => cases h
theorem CxOk.blk (C : CxOk T g ca n L X) {s : Shared} {H : Hp} {scope : Scope} {cl : List (Str × Addr)} {Ca : Addr} {fp : List Addr} : CxOk T g ca n (inL L scope) (X.blk s H scope (compEnvC scope cl Ca X.env) fp) :=
  ⟨C.hN, by show relabel scope X.env = relS scope L.sc; rw [← C.hsc]; rfl, rfl, (fun z => nomatch (show false = true from z)), C.nd, C.calm, C.room, ⟨C.pyl.room, C.pyl.seer, C.pyl.tree, C.pyl.top⟩, C.blt, C.cons, C.fns, fun x j h => ⟨(C.dcts x j h).ex⟩, C.clss, C.mths, C.inis, C.lfs, fun x j h => ⟨(C.dvs x j h).ex⟩⟩

theorem evs_len {F : Nat → List D → R D} {env : List Sl} : ∀ {es : Es} {L : Lx} {xs : List Expr} {ds : List D}, chkEs g es L xs = true → evs F env es = .ok ds → ds.length = xs.length
  | .nil, L, xs, ds, h, e => by
    unfold evs at e
    cases e
    unfold chkEs at h
    cases xs with
    | nil => rfl
    | cons _ _ => cases h
  | .cons e0 es, L, xs, ds, h, e => by
    unfold chkEs at h
    cases xs with
    | nil => cases h
    | cons x xs =>
      dsimp only at h
      rw [Bool.and_eq_true] at h
      unfold evs at e
      cases e1 : ev F env e0 with
      | ok d =>
        rw [e1] at e
        dsimp only [R.bind] at e
        cases e2 : evs F env es with
        | ok l =>
          rw [e2] at e
          cases e
          rw [List.length_cons, List.length_cons, evs_len h.2 e2]
        | _ => rw [e2] at e; cases e
      | _ => rw [e1] at e; cases e

theorem plainIx_of {b : Expr} (h : notSlice b = true) : PlainIx b := fun _ _ => by
  cases b <;> first | rfl | cases h
theorem marks_of {b : Expr} {op : CmpOp} (h : notSet b = true) : behindInMarks op b = false := by
  cases b <;> first | rfl | cases h
theorem folded_of {b : Expr} {env : Env} (h : notSet b = true) : ∀ x, foldedSetIterable b env x = pure x := fun x => by
  cases b <;> first | rfl | cases h

/-- the parts of a comprehension -/
structure LcParts (X : Cx) (ca : Str → Value) (W : WX) (elt tg iter : Expr) (ifs : List Expr) (scope : Scope) (own : List (Str × Nat)) (r : List Sl → R D) : Prop where
  ex : ∃ wi gg tt te, PI X tg iter wi ∧ BlkOk X.N X.env.scope scope own ∧ (∀ (s : Shared) (H : Hp) (C : Addr) (cl : List (Str × Addr)) (fp : List Addr), PG (X.blk s H scope (compEnvC scope cl C X.env) fp) tg gg)
    ∧ (∀ (s : Shared) (H : Hp) (C : Addr) (cl : List (Str × Addr)) (fp : List Addr), PTs (X.blk s H scope (compEnvC scope cl C X.env) fp) ifs tt)
    ∧ (∀ (s : Shared) (H : Hp) (C : Addr) (cl : List (Str × Addr)) (fp : List Addr), PE (X.blk s H scope (compEnvC scope cl C X.env) fp) elt te)
    ∧ (∀ x, foldedSetIterable iter X.env x = pure x) ∧ ∀ σ H Q, rdL X.K ca W r σ H Q → tLc wi gg tt te (own.map (·.2)) σ H Q
theorem LcParts.pe {W : WX} {elt tg iter : Expr} {ifs : List Expr} {scope : Scope} {own : List (Str × Nat)} {r : List Sl → R D} {pos : Pos} (P : LcParts X ca W elt tg iter ifs scope own r) (hc : X.calm = true) (hN : X.N.Nodup) : PE X (.ListComp elt [⟨tg, iter, ifs, 0⟩] scope pos) (rdL X.K ca W r) := by
  obtain ⟨wi, gg, tt, te, hi, ok, hg, ht, he, hs, rd⟩ := P.ex
  exact PE.imp (pe_lc hc hN hi ok hg ht he hs) rd

theorem lc_parts {W : WX} {own : List Nat} {elt : E} {tg : Tg} {it : It} {c : Eo} {xe xt xi : Expr} {xc : List Expr} {as : Int} {scope : Scope} {p : Pos} (C : CxOk T g ca n L X) (h : chkE g (.lc own elt tg it c) L (.ListComp xe [⟨xt, xi, xc, as⟩] scope p) = true)
    (hI : chkI g it L tg xi = true → (isMany tg = true → ∃ es k p, xt = .Tuple es k p) → PI X xt xi (rdI X.K ca W fun env => evI (evc T n) env it) ∧ ∀ v, foldedSetIterable xi X.env v = pure v)
    (hC : chkC g c (inL L scope) xc = true → ∃ tt : TT, (∀ Y : Cx, Y.K = X.K → CxOk T g ca n (inL L scope) Y → PTs Y xc tt) ∧
      ∀ (σ : L2.St) (H : Hp) (G : Hp) (env : List Sl) (b : Bool) (N : Bool → Hp → Prop), Same G H → EnvR X.K G σ env → evC (evc T n) env c = .ok b → (∀ H' G', Ext H G H' G' → N b H') → tt σ H N)
    (hE : ∀ (Y : Cx) (V : WX), CxOk T g ca n (inL L scope) Y → L2N.Takes Y V → chkE g elt (inL L scope) xe = true → Both Y ca V xe (fun env => ev (evc T n) env elt) ∧ notStar xe = true) :
    as = 0 ∧ LcParts X ca W xe xt xi xc scope (ownN L.N own) (fun env => ev (evc T n) env (.lc own elt tg it c)) := by
  unfold chkE at h
  dsimp only at h
  simp only [Bool.and_eq_true, decide_eq_true_eq] at h
  obtain ⟨⟨⟨⟨⟨⟨⟨h0, h1⟩, h2⟩, h3⟩, h4⟩, h5⟩, h6⟩, h7⟩ := h
  refine ⟨h0, ?_⟩
  obtain ⟨i1, i2⟩ := hI h5 (fun hm => by
    cases tg with
    | one i => cases hm
    | many l => cases xt with
      | Tuple es k p => exact ⟨_, _, _, rfl⟩
      | _ => cases h4)
  obtain ⟨tt, t1, t2⟩ := hC h6
  refine ⟨_, gT X.K tg, tt, rdE X.K ca (fun _ _ _ _ => False) (fun env => ev (evc T n) env elt), i1, ?_, fun s H Ca cl fp => (C.blk (s := s) (H := H) (scope := scope) (cl := cl) (Ca := Ca) (fp := fp)).pg h4, fun s H Ca cl fp => ?_, fun s H Ca cl fp => (hE _ _ (C.blk (s := s) (H := H) (scope := scope) (cl := cl) (Ca := Ca) (fp := fp)) takesN0 h7).1.pe, i2, fun σ H Q hh => ?_⟩
  · rw [C.hN, C.hsc]; exact blkOk_by h2
  · exact t1 _ rfl (C.blk (s := s) (H := H) (scope := scope) (cl := cl) (Ca := Ca) (fp := fp))
  · rw [h1]
    refine lc_read (rt := fun env => evC (evc T n) env c) (re := fun env => ev (evc T n) env elt) ?_ t2 ?_
    · intro i hi
      have z := List.all_eq_true.mp h3 i (by cases tg <;> exact hi)
      exact List.contains_iff_mem.mp z
    · simpa only [ev] using hh

theorem CxOk.blkx (C : CxOk T g ca n L X) {s : Shared} {H : Hp} {scope : Scope} {cl : List (Str × Addr)} {Ca : Addr} {fp : List Addr} {xe : Value → Shared → Prop} : CxOk T g ca n (inL L scope) (blkX X s H scope (compEnvC scope cl Ca X.env) fp xe) :=
  ⟨C.hN, by show relabel scope X.env = relS scope L.sc; rw [← C.hsc]; rfl, rfl, (fun z => nomatch (show false = true from z)), C.nd, C.calm, C.room, ⟨C.pyl.room, C.pyl.seer, C.pyl.tree, C.pyl.top⟩, C.blt, C.cons, C.fns, fun x j h => ⟨(C.dcts x j h).ex⟩, C.clss, C.mths, C.inis, C.lfs, fun x j h => ⟨(C.dvs x j h).ex⟩⟩
/-- the parts of a comprehension whose element may raise -/
structure LcxParts (X : Cx) (ca : Str → Value) (W : WX) (elt tg iter : Expr) (scope : Scope) (own : List (Str × Nat)) (r : List Sl → R D) : Prop where
  ex : ∃ wi gg te, PI X tg iter wi ∧ BlkOk X.N X.env.scope scope own ∧ (∀ (s : Shared) (H : Hp) (C : Addr) (cl : List (Str × Addr)) (fp : List Addr) (xe : Value → Shared → Prop), PG (blkX X s H scope (compEnvC scope cl C X.env) fp xe) tg gg)
    ∧ (∀ (V : WX) (s : Shared) (H : Hp) (C : Addr) (cl : List (Str × Addr)) (fp : List Addr) (xe : Value → Shared → Prop), L2N.Takes (blkX X s H scope (compEnvC scope cl C X.env) fp xe) V → PE (blkX X s H scope (compEnvC scope cl C X.env) fp xe) elt (te V))
    ∧ (∀ x, foldedSetIterable iter X.env x = pure x) ∧ (X.stack = X.env :: X.outer ∧ X.env.frame = some X.env.locals) ∧ ∀ σ H Q, rdL X.K ca W r σ H Q → tLcX wi gg tYes te (own.map (·.2)) W σ H Q
theorem LcxParts.pe {W : WX} {elt tg iter : Expr} {scope : Scope} {own : List (Str × Nat)} {r : List Sl → R D} {pos : Pos} (P : LcxParts X ca W elt tg iter scope own r) (tk : L2N.Takes X W) (hc : X.calm = true) (hN : X.N.Nodup) : PE X (.ListComp elt [⟨tg, iter, [], 0⟩] scope pos) (rdL X.K ca W r) := by
  obtain ⟨wi, gg, te, hi, ok, hg, he, hs, ⟨h1, h2⟩, rd⟩ := P.ex
  exact PE.imp (pe_lcX hc hN tk h1 h2 hi ok hg (fun _ _ _ _ _ _ => pts_nil) he hs) rd
theorem lcx_parts {W : WX} {own : List Nat} {elt : E} {tg : Tg} {it : It} {xe xt xi : Expr} {as : Int} {scope : Scope} {p : Pos} (C : CxOk T g ca n L X) (h : chkE g (.lcx own elt tg it) L (.ListComp xe [⟨xt, xi, [], as⟩] scope p) = true)
    (hI : chkI g it L tg xi = true → (isMany tg = true → ∃ es k p, xt = .Tuple es k p) → PI X xt xi (rdI X.K ca W fun env => evI (evc T n) env it) ∧ ∀ v, foldedSetIterable xi X.env v = pure v)
    (hE : ∀ (Y : Cx) (V : WX), CxOk T g ca n (inL L scope) Y → L2N.Takes Y V → chkE g elt (inL L scope) xe = true → Both Y ca V xe (fun env => ev (evc T n) env elt) ∧ notStar xe = true) :
    as = 0 ∧ LcxParts X ca W xe xt xi scope (ownN L.N own) (fun env => ev (evc T n) env (.lcx own elt tg it)) := by
  unfold chkE at h
  dsimp only at h
  simp only [Bool.and_eq_true, decide_eq_true_eq] at h
  obtain ⟨⟨⟨⟨⟨⟨⟨hT, h0⟩, h1⟩, h2⟩, h3⟩, h4⟩, h5⟩, h7⟩ := h
  refine ⟨h0, ?_⟩
  obtain ⟨i1, i2⟩ := hI h5 (fun hm => by
    cases tg with
    | one i => cases hm
    | many l => cases xt with
      | Tuple es k p => exact ⟨_, _, _, rfl⟩
      | _ => cases h4)
  refine ⟨_, gT X.K tg, fun V => rdE X.K ca V (fun env => ev (evc T n) env elt), i1, ?_, fun s H Ca cl fp xe => (C.blkx (s := s) (H := H) (scope := scope) (cl := cl) (Ca := Ca) (fp := fp) (xe := xe)).pg h4, fun V s H Ca cl fp xe tk => (hE _ _ (C.blkx (s := s) (H := H) (scope := scope) (cl := cl) (Ca := Ca) (fp := fp) (xe := xe)) tk h7).1.pe, i2, C.htop hT, fun σ H Q hh => ?_⟩
  · rw [C.hN, C.hsc]; exact blkOk_by h2
  · rw [h1]
    refine lcx_read (re := fun env => ev (evc T n) env elt) ?_ ?_
    · intro i hi
      have z := List.all_eq_true.mp h3 i (by cases tg <;> exact hi)
      exact List.contains_iff_mem.mp z
    · simpa only [ev] using hh

mutual
theorem sndE : ∀ (e : E) {X : Cx} {L : Lx} {W : WX} {x : Expr}, CxOk T g ca n L X → L2N.Takes X W → chkE g e L x = true → Both X ca W x (fun env => ev (evc T n) env e) ∧ notStar x = true
  | .k d, X, L, W, x, C, tk, h => by
    unfold chkE at h
    simp only [ev]
    cases d with
    | none => cases x with
      | Constant c k p => cases c with
        | none => exact ⟨both_val (e_const pe_non fun _ => .non) fun _ => rfl, rfl⟩
        | _ => cases h
      | _ => cases h
    | bool b => cases x with
      | Constant c k p => cases c with
        | bool c =>
          have e : b = c := of_decide_eq_true h
          subst e
          exact ⟨both_val (e_const pe_bl fun _ => .bl _) fun _ => rfl, rfl⟩
        | _ => cases h
      | _ => cases h
    | int b => cases x with
      | Constant c k p => cases c with
        | int c =>
          have e : b = c := of_decide_eq_true h
          subst e
          exact ⟨both_val (e_const pe_int fun _ => .int _) fun _ => rfl, rfl⟩
        | _ => cases h
      | _ => cases h
    | str b => cases x with
      | Constant c k p => cases c with
        | str c =>
          have e : b = c := of_decide_eq_true h
          subst e
          exact ⟨both_val (e_const pe_str fun _ => .str _) fun _ => rfl, rfl⟩
        | _ => cases h
      | _ => cases h
    | _ => cases x <;> cases h
  | .v i, X, L, W, x, C, tk, h => by
    unfold chkE at h
    simp only [ev]
    cases x with
    | Name x p =>
      dsimp only at h
      rw [Bool.and_eq_true, decide_eq_true_eq] at h
      have hv := h.2
      unfold visB at hv
      rw [Bool.and_eq_true] at hv
      have dd := dbg_of hv.2
      exact ⟨both_val (e_var (pe_var (by rw [C.hN]; exact h.1) (C.vis h.2) dd.1 dd.2)) fun _ => rfl, rfl⟩
    | _ => cases h
  | .g j, X, L, W, x, C, tk, h => by
    unfold chkE at h
    simp only [ev]
    cases x with
    | Name x p =>
      dsimp only at h
      rw [Bool.and_eq_true, List.contains_iff_mem] at h
      obtain ⟨u, v, h1, h2, h3⟩ := C.cons x j h.2
      exact ⟨both_val (e_const (pe_glob (C.gl h.1) h1 h2 (glB_dbg h.1)) h3) fun _ => rfl, rfl⟩
    | _ => cases h
  | .tup es, X, L, W, x, C, tk, h => by
    unfold chkE at h
    simp only [ev]
    cases x with
    | Tuple xs k p =>
      dsimp only at h
      rw [Bool.and_eq_true, decide_eq_true_eq] at h
      obtain ⟨h1, h2⟩ := sndEs es C tk h.1
      exact ⟨both_val (e_tup h1 h.2 fun env ds q => evs_len h.1 q) fun _ => rfl, rfl⟩
    | _ => cases h
  | .lst es, X, L, W, x, C, tk, h => by
    unfold chkE at h
    simp only [ev]
    cases x with
    | List xs p =>
      dsimp only at h
      rw [Bool.and_eq_true, decide_eq_true_eq] at h
      obtain ⟨h1, h2⟩ := sndEs es C tk h.1
      refine ⟨both_val (e_ofL (e_lst h1 h.2 fun env ds q => evs_len h.1 q) fun env d q => ?_) fun _ => rfl, rfl⟩
      cases e : evs (evc T n) env es with
      | ok l => rw [e] at q; cases q; exact ⟨l, rfl⟩
      | _ => rw [e] at q; cases q
    | _ => cases h
  | .bin o a b, X, L, W, x, C, tk, h => by
    unfold chkE at h
    simp only [ev]
    cases x with
    | BinOp xa op xb p =>
      dsimp only at h
      rw [Bool.and_eq_true, Bool.and_eq_true, decide_eq_true_eq] at h
      obtain ⟨h0, h1, h2⟩ := h
      subst h0
      exact ⟨both_val (e_bin C.pyl (sndE a C tk h1).1.pe (sndE b C tk h2).1.pe) fun _ => rfl, rfl⟩
    | _ => cases h
  | .neg a, X, L, W, x, C, tk, h => by
    unfold chkE at h
    simp only [ev]
    cases x with
    | UnaryOp op xa p => cases op with
      | USub => exact ⟨both_val (e_neg (sndE a C tk h).1.pe) fun _ => rfl, rfl⟩
      | _ => cases h
    | _ => cases h
  | .not a, X, L, W, x, C, tk, h => by
    unfold chkE at h
    simp only [ev]
    cases x with
    | UnaryOp op xa p => cases op with
      | Not => exact ⟨e_not (sndE a C tk h).1, rfl⟩
      | _ => cases h
    | _ => cases h
  | .and es, X, L, W, x, C, tk, h => by
    unfold chkE at h
    simp only [ev]
    cases x with
    | BoolOp op xs p => cases op with
      | And =>
        dsimp only at h
        rw [Bool.and_eq_true] at h
        exact ⟨(sndAnd es C tk h.1 h.2).both, rfl⟩
      | _ => cases h
    | _ => cases h
  | .or es, X, L, W, x, C, tk, h => by
    unfold chkE at h
    simp only [ev]
    cases x with
    | BoolOp op xs p => cases op with
      | Or =>
        dsimp only at h
        rw [Bool.and_eq_true] at h
        exact ⟨(sndOr es C tk h.1 h.2).both, rfl⟩
      | _ => cases h
    | _ => cases h
  | .cmp o a b, X, L, W, x, C, tk, h => by
    unfold chkE at h
    simp only [ev]
    cases x with
    | Compare xa ops xs p =>
      split at h
      · rename_i heq
        cases heq
        rw [Bool.and_eq_true, Bool.and_eq_true, Bool.and_eq_true, decide_eq_true_eq] at h
        obtain ⟨⟨h0, hs⟩, h1, h2⟩ := h
        subst h0
        exact ⟨e_cmp C.un (marks_of hs) (sndE a C tk h1).1.pe (sndE b C tk h2).1.pe, rfl⟩
      · cases h
    | _ => cases h
  | .cmp2 o o2 a b c, X, L, W, x, C, tk, h => by
    unfold chkE at h
    simp only [ev]
    cases x with
    | Compare xa ops xs p =>
      split at h
      · rename_i heq
        cases heq
        simp only [Bool.and_eq_true, Bool.not_eq_true', decide_eq_true_eq, decide_eq_false_iff_not] at h
        obtain ⟨⟨⟨⟨h0, h00⟩, h01⟩, h02⟩, ⟨h1, h2⟩, h3⟩ := h
        subst h0 h00
        exact ⟨e_cmp2 C.un h01 h02 (sndE a C tk h1).1.pe (sndE b C tk h2).1.pe (sndE c C tk h3).1.pe, rfl⟩
      · cases h
    | _ => cases h
  | .ife c a b, X, L, W, x, C, tk, h => by
    unfold chkE at h
    simp only [ev]
    cases x with
    | IfExp xc xa xb p =>
      dsimp only at h
      rw [Bool.and_eq_true, Bool.and_eq_true] at h
      obtain ⟨⟨h1, h2⟩, h3⟩ := h
      have a1 := (sndE c C tk h1).1
      have a2 := (sndE a C tk h2).1
      have a3 := (sndE b C tk h3).1
      exact ⟨⟨e_ife a1 a2 a3, t_ife a1 a2 a3⟩, rfl⟩
    | _ => cases h
  | .ix a i, X, L, W, x, C, tk, h => by
    unfold chkE at h
    simp only [ev]
    cases x with
    | Subscript xa xi p =>
      dsimp only at h
      rw [Bool.and_eq_true, Bool.and_eq_true] at h
      obtain ⟨⟨h1, h2⟩, h3⟩ := h
      exact ⟨both_val (e_ix (plainIx_of h1) (sndE a C tk h2).1.pe (sndE i C tk h3).1.pe) fun _ => rfl, rfl⟩
    | _ => cases h
  | .sl a lo hi, X, L, W, x, C, tk, h => by
    unfold chkE at h
    simp only [ev]
    cases x with
    | Subscript xa xi p =>
      split at h
      · rename_i heq
        cases heq
        rw [Bool.and_eq_true, Bool.and_eq_true] at h
        obtain ⟨⟨h1, h2⟩, h3⟩ := h
        exact ⟨both_val (e_sl (sndE a C tk h1).1.pe (sndO lo C tk h2) (sndO hi C tk h3)) fun _ => rfl, rfl⟩
      · cases h
    | _ => cases h
  | .call f es, X, L, W, x, C, tk, h => by
    unfold chkE at h
    simp only [ev]
    split at h
    · rw [Bool.and_eq_true, Bool.and_eq_true, List.contains_iff_mem] at h
      obtain ⟨⟨h1, h2⟩, h3⟩ := h
      obtain ⟨f0, fd, ps, m1, m2, m3, m4⟩ := C.fns _ _ h2
      obtain ⟨a1, a2⟩ := sndEs es C tk h3
      exact ⟨both_val (e_def m4 (C.room.mono (by omega)) (C.gl h1) m1 m2 m3 tk (glB_dbg h1) a2 a1) fun _ => rfl, rfl⟩
    · cases h
  | .bf f es, X, L, W, x, C, tk, h => by
    unfold chkE at h
    simp only [ev]
    split at h
    · rw [Bool.and_eq_true, Bool.and_eq_true, decide_eq_true_eq] at h
      obtain ⟨⟨h1, h2⟩, h3⟩ := h
      subst h1
      obtain ⟨a1, a2⟩ := sndEs es C tk h3
      refine ⟨both_val (e_bf C.calm (C.gl h2) (C.blt _ ?_) a2 a1) fun _ => rfl, rfl⟩
      cases f <;> simp [blts, bfName]
    · cases h
  | .isi a t, X, L, W, x, C, tk, h => by
    unfold chkE at h
    simp only [ev]
    split at h
    · simp only [Bool.and_eq_true, decide_eq_true_eq] at h
      obtain ⟨⟨⟨⟨h1, h2⟩, h3⟩, h4⟩, h5⟩ := h
      subst h1 h3
      obtain ⟨a1, a2⟩ := sndE a C tk h5
      refine ⟨both_val (e_isi (C.gl h2) (C.blt _ (by simp [blts])) (C.gl h4) (C.blt _ ?_) a2 a1.pe) fun _ => rfl, rfl⟩
      cases t <;> simp [blts, tyName]
    · cases h
  | .rev a, X, L, W, x, C, tk, h => by
    unfold chkE at h
    simp only [ev]
    split at h
    · rw [Bool.and_eq_true, decide_eq_true_eq] at h
      obtain ⟨h1, h2⟩ := h
      subst h1
      exact ⟨both_val (e_rev (sndE a C tk h2).1.pe) fun _ => rfl, rfl⟩
    · cases h
  | .mx0 a, X, L, W, x, C, tk, h => by
    unfold chkE at h
    simp only [ev]
    split at h
    · simp only [Bool.and_eq_true, decide_eq_true_eq] at h
      obtain ⟨⟨⟨⟨h1, h2⟩, h3⟩, h4⟩, h5⟩ := h
      subst h1
      subst h2
      subst h3
      obtain ⟨a1, a2⟩ := sndE a C tk h5
      exact ⟨both_val (e_mx0 C.calm (by have := C.un; omega) (C.gl h4) (C.blt _ (by decide +kernel)) a2 a1.pe) fun _ => rfl, rfl⟩
    · cases h
  | .ins a j, X, L, W, x, C, tk, h => by
    unfold chkE at h
    simp only [ev]
    split at h
    · simp only [Bool.and_eq_true, decide_eq_true_eq] at h
      obtain ⟨⟨⟨h1, h2⟩, h3⟩, h4⟩ := h
      subst h1
      exact ⟨e_ins (C.dcts _ _ (List.contains_iff_mem.mp h3)) (C.gl h2) (glB_dbg h2) (sndE a C tk h4).1.pe, rfl⟩
    · cases h
  | .lens a, X, L, W, x, C, tk, h => by
    unfold chkE at h
    simp only [ev]
    split at h
    · simp only [Bool.and_eq_true, decide_eq_true_eq] at h
      obtain ⟨⟨⟨⟨h1, h2⟩, h3⟩, h4⟩, h5⟩ := h
      subst h1 h2
      obtain ⟨a1, a2⟩ := sndE a C tk h5
      exact ⟨both_val (e_lens C.calm C.un (C.gl h3) (C.blt _ (by simp [blts])) (C.gl h4) (C.blt _ (by simp [blts])) a2 a1.pe) fun _ => rfl, rfl⟩
    · cases h
  | .lc own elt tg it c, X, L, W, x, C, tk, h => by
    unfold chkE at h
    split at h
    · rename_i xe xt xi xc as scope p
      obtain ⟨h0, P⟩ := lc_parts (W := W) C (show chkE g (.lc own elt tg it c) L (.ListComp xe [⟨xt, xi, xc, as⟩] scope p) = true by unfold chkE; exact h) (fun q m => sndI it C tk q m) (fun q => sndC c X.K q) (fun Y V D t q => sndE elt D t q)
      subst h0
      refine ⟨both_val (e_ofL (P.pe C.calm C.nd) fun env d q => ?_) fun _ => rfl, rfl⟩
      simp only [ev] at q
      cases e : evI (evc T n) env it with
      | ok l =>
        rw [e] at q
        dsimp only [R.bind] at q
        split at q
        · cases q; exact ⟨_, rfl⟩
        · cases q
        · cases q
      | _ => rw [e] at q; cases q
    · cases h
  | .orv a b, X, L, W, x, C, tk, h => by
    unfold chkE at h
    simp only [ev]
    split at h
    · rename_i xa xb p
      rw [Bool.and_eq_true, Bool.and_eq_true] at h
      obtain ⟨⟨h0, h1⟩, h2⟩ := h
      exact ⟨⟨e_orv (sndE a C tk h1).1.pe (sndE b C tk h2).1.pe, t_orv h0 (sndE a C tk h1).1.pe (sndE b C tk h2).1⟩, rfl⟩
    · cases h
  | .cnt i b, X, L, W, x, C, tk, h => by
    unfold chkE at h
    simp only [ev]
    split at h
    · simp only [Bool.and_eq_true, decide_eq_true_eq] at h
      obtain ⟨⟨⟨⟨h1, h2⟩, h3⟩, h4⟩, h5⟩ := h
      subst h1
      have hv := h4
      unfold visB at hv
      rw [Bool.and_eq_true] at hv
      have dd := dbg_of hv.2
      obtain ⟨a1, a2⟩ := sndE b C tk h5
      exact ⟨both_val (e_cnt C.un (pe_var (by rw [C.hN]; exact h3) (C.vis h4) dd.1 dd.2) h2 a2 a1.pe (by rw [star_cons a2]; rfl)) fun _ => rfl, rfl⟩
    · cases h
  | .att i k j, X, L, W, x, C, tk, h => by
    unfold chkE at h
    simp only [ev]
    split at h
    · rename_i y py f ap
      simp only [Bool.and_eq_true, decide_eq_true_eq] at h
      obtain ⟨⟨⟨h1, h2⟩, h3⟩, h4⟩ := h
      have hv := h2
      unfold visB at hv
      rw [Bool.and_eq_true] at hv
      have dd := dbg_of hv.2
      have Z := C.clss k (List.contains_iff_mem.mp h3)
      exact ⟨both_val (e_att Z.cls (Z.noat f (List.mem_of_getElem? h4)) h4 (pe_var (by rw [C.hN]; exact h1) (C.vis h2) dd.1 dd.2)) fun _ => rfl, rfl⟩
    · cases h
  | .tx1 o a, X, L, W, x, C, tk, h => by
    unfold chkE at h
    simp only [ev]
    split at h
    · simp only [Bool.and_eq_true, decide_eq_true_eq] at h
      obtain ⟨⟨⟨h0, h1⟩, h2⟩, h3⟩ := h
      subst h0 h1
      obtain ⟨a1, a2⟩ := sndE a C tk h3
      exact ⟨both_val (e_str (C.gl h2) (C.blt _ (by simp [blts])) a2 a1.pe) fun _ => rfl, rfl⟩
    · simp only [Bool.and_eq_true, decide_eq_true_eq] at h
      obtain ⟨⟨⟨⟨h0, h1⟩, h2⟩, h3⟩, h4⟩ := h
      subst h0 h1
      exact ⟨both_val (e_isdig h2 h3 (sndE a C tk h4).1.pe) fun _ => rfl, rfl⟩
    · cases h
  | .tx2 o a b, X, L, W, x, C, tk, h => by
    unfold chkE at h
    simp only [ev]
    split at h
    · simp only [Bool.and_eq_true, decide_eq_true_eq] at h
      obtain ⟨⟨⟨⟨⟨h0, h1⟩, h2⟩, h3⟩, h4⟩, h5⟩ := h
      subst h1
      obtain ⟨b1, b2⟩ := sndE b C tk h5
      exact ⟨both_val (e_tx2 h0 h2 h3 b2 (sndE a C tk h4).1.pe b1.pe) fun _ => rfl, rfl⟩
    · cases h
  | .ind a j, X, L, W, x, C, tk, h => by
    unfold chkE at h
    simp only [ev]
    split at h
    · simp only [Bool.and_eq_true, decide_eq_true_eq] at h
      obtain ⟨⟨⟨h1, h2⟩, h3⟩, h4⟩ := h
      subst h1
      exact ⟨e_ind (C.dvs _ _ (List.contains_iff_mem.mp h3)) (C.gl h2) (glB_dbg h2) (sndE a C tk h4).1.pe, rfl⟩
    · cases h
  | .dg j a, X, L, W, x, C, tk, h => by
    unfold chkE at h
    simp only [ev]
    split at h
    · simp only [Bool.and_eq_true] at h
      obtain ⟨⟨⟨h1, h2⟩, h3⟩, h4⟩ := h
      exact ⟨both_val (e_dg (C.dvs _ _ (List.contains_iff_mem.mp h3)) (C.gl h2) (glB_dbg h2) (plainIx_of h1) (sndE a C tk h4).1.pe) fun _ => rfl, rfl⟩
    · cases h
  | .cln f a, X, L, W, x, C, tk, h => by
    unfold chkE at h
    simp only [ev]
    split at h
    · rw [Bool.and_eq_true, Bool.and_eq_true, List.contains_iff_mem] at h
      obtain ⟨⟨h1, h2⟩, h3⟩ := h
      obtain ⟨f0, fd, ps, m1, m2, m3, m4⟩ := C.lfs _ _ h2
      obtain ⟨a1, a2⟩ := sndE a C tk h3
      exact ⟨both_val (e_cln m4 (C.room.mono (by omega)) (C.gl h1) m1 m2 m3 tk (glB_dbg h1) a2 a1.pe) fun _ => rfl, rfl⟩
    · cases h
  | .lcx own elt tg it, X, L, W, x, C, tk, h => by
    unfold chkE at h
    split at h
    · rename_i xe xt xi as scope p
      obtain ⟨h0, P⟩ := lcx_parts (W := W) C (show chkE g (.lcx own elt tg it) L (.ListComp xe [⟨xt, xi, [], as⟩] scope p) = true by unfold chkE; exact h) (fun q m => sndI it C tk q m) (fun Y V D t q => sndE elt D t q)
      subst h0
      refine ⟨both_val (e_ofL (P.pe tk C.calm C.nd) fun env d q => ?_) fun _ => rfl, rfl⟩
      simp only [ev] at q
      cases e : evI (evc T n) env it with
      | ok l =>
        rw [e] at q
        dsimp only [R.bind] at q
        split at q
        · cases q; exact ⟨_, rfl⟩
        · cases q
        · cases q
      | _ => rw [e] at q; cases q
    · cases h
theorem sndEs : ∀ (es : Es) {X : Cx} {L : Lx} {W : WX} {xs : List Expr}, CxOk T g ca n L X → L2N.Takes X W → chkEs g es L xs = true → PA X xs (rdA X.K ca W fun env => evs (evc T n) env es) ∧ xs.all notStar = true
  | .nil, X, L, W, xs, C, tk, h => by
    unfold chkEs at h
    simp only [evs]
    cases xs with
    | nil => exact ⟨a_nil, rfl⟩
    | cons _ _ => cases h
  | .cons e es, X, L, W, xs, C, tk, h => by
    unfold chkEs at h
    simp only [evs]
    cases xs with
    | nil => cases h
    | cons x xs =>
      dsimp only at h
      rw [Bool.and_eq_true] at h
      obtain ⟨a1, a2⟩ := sndE e C tk h.1
      obtain ⟨b1, b2⟩ := sndEs es C tk h.2
      exact ⟨a_cons a2 a1.pe b1, by rw [List.all_cons, a2, b2]; rfl⟩
theorem sndAnd : ∀ (es : Es) {X : Cx} {L : Lx} {W : WX} {xs : List Expr} {pos : Pos}, CxOk T g ca n L X → L2N.Takes X W → chkEs g es L xs = true → (!xs.isEmpty) = true → BothW X ca W .And xs pos (fun env => evAnd (evc T n) env es)
  | .nil, X, L, W, xs, pos, C, tk, h, h2 => by
    unfold chkEs at h
    rw [h] at h2; cases h2
  | .cons e .nil, X, L, W, xs, pos, C, tk, h, h2 => by
    unfold chkEs at h
    simp only [evAnd]
    cases xs with
    | nil => cases h
    | cons x xs =>
      dsimp only at h
      rw [Bool.and_eq_true] at h
      have z := h.2
      unfold chkEs at z
      cases xs with
      | nil => exact w_one1 (sndE e C tk h.1).1
      | cons _ _ => cases z
  | .cons e (.cons e2 es), X, L, W, xs, pos, C, tk, h, h2 => by
    unfold chkEs at h
    simp only [evAnd]
    cases xs with
    | nil => cases h
    | cons x xs =>
      dsimp only at h
      rw [Bool.and_eq_true] at h
      cases xs with
      | nil => have z := h.2; unfold chkEs at z; cases z
      | cons y ys => exact w_and (sndE e C tk h.1).1 (sndAnd (.cons e2 es) C tk h.2 rfl)
theorem sndOr : ∀ (es : Es) {X : Cx} {L : Lx} {W : WX} {xs : List Expr} {pos : Pos}, CxOk T g ca n L X → L2N.Takes X W → chkEs g es L xs = true → (!xs.isEmpty) = true → BothW X ca W .Or xs pos (fun env => evOr (evc T n) env es)
  | .nil, X, L, W, xs, pos, C, tk, h, h2 => by
    unfold chkEs at h
    rw [h] at h2; cases h2
  | .cons e .nil, X, L, W, xs, pos, C, tk, h, h2 => by
    unfold chkEs at h
    simp only [evOr]
    cases xs with
    | nil => cases h
    | cons x xs =>
      dsimp only at h
      rw [Bool.and_eq_true] at h
      have z := h.2
      unfold chkEs at z
      cases xs with
      | nil => exact w_one2 (sndE e C tk h.1).1
      | cons _ _ => cases z
  | .cons e (.cons e2 es), X, L, W, xs, pos, C, tk, h, h2 => by
    unfold chkEs at h
    simp only [evOr]
    cases xs with
    | nil => cases h
    | cons x xs =>
      dsimp only at h
      rw [Bool.and_eq_true] at h
      cases xs with
      | nil => have z := h.2; unfold chkEs at z; cases z
      | cons y ys => exact w_or (sndE e C tk h.1).1 (sndOr (.cons e2 es) C tk h.2 rfl)
theorem sndO : ∀ (o : Eo) {X : Cx} {L : Lx} {W : WX} {x : Option Expr}, CxOk T g ca n L X → L2N.Takes X W → chkO g o L x = true → PO X x (rdO X.K ca W fun env => evO (evc T n) env o)
  | .no, X, L, W, x, C, tk, h => by
    unfold chkO at h
    simp only [evO]
    cases x with
    | none => exact o_none
    | some _ => cases h
  | .yes e, X, L, W, x, C, tk, h => by
    unfold chkO at h
    simp only [evO]
    cases x with
    | none => cases h
    | some x => exact o_some (sndE e C tk h).1.pe
theorem sndC : ∀ (o : Eo) (K : PySem.W.Frag) {L : Lx} {xs : List Expr}, chkC g o L xs = true → ∃ tt : TT, (∀ X : Cx, X.K = K → CxOk T g ca n L X → PTs X xs tt) ∧
    ∀ (σ : L2.St) (H : Hp) (G : Hp) (env : List Sl) (b : Bool) (N : Bool → Hp → Prop), Same G H → EnvR K G σ env → evC (evc T n) env o = .ok b → (∀ H' G', Ext H G H' G' → N b H') → tt σ H N
  | .no, K, L, xs, h => by
    unfold chkC at h
    cases xs with
    | nil => exact ⟨_, fun X _ C => pts_nil, fun σ H G env b N s he q hn => by unfold evC at q; cases q; exact hn H G (Ext.refl s)⟩
    | cons _ _ => cases h
  | .yes e, K, L, xs, h => by
    unfold chkC at h
    cases xs with
    | nil => cases h
    | cons x xs => cases xs with
      | cons _ _ => cases h
      | nil =>
        refine ⟨rdT K ca (fun _ _ _ _ => False) (fun env => ev (evc T n) env e), fun X hK C => ?_, fun σ H G env b N s he q hn => ⟨env, G, s, he, ?_⟩⟩
        · subst hK
          exact pts_one (sndE e C takesN0 h).1.pt
        · unfold evC at q
          cases e1 : ev (evc T n) env e with
          | ok d =>
            rw [e1] at q
            cases d with
            | bool k =>
              cases q
              show RsT _ _ _ _ (ev (evc T n) env e)
              rw [e1]
              exact fun H' G' x => hn H' G' x
            | _ => cases q
          | _ => rw [e1] at q; cases q
theorem sndI : ∀ (it : It) {X : Cx} {L : Lx} {W : WX} {t : Tg} {x xt : Expr}, CxOk T g ca n L X → L2N.Takes X W → chkI g it L t x = true → (isMany t = true → ∃ es k p, xt = .Tuple es k p) → PI X xt x (rdI X.K ca W fun env => evI (evc T n) env it) ∧ ∀ v, foldedSetIterable x X.env v = pure v
  | .seq e, X, L, W, t, x, xt, C, tk, h, hm => by
    unfold chkI at h
    simp only [evI]
    rw [Bool.and_eq_true] at h
    exact ⟨it_seq (sndE e C tk h.2).1.pe, folded_of h.1⟩
  | .rng1 e, X, L, W, t, x, xt, C, tk, h, hm => by
    unfold chkI at h
    simp only [evI]
    split at h
    · simp only [Bool.and_eq_true, decide_eq_true_eq] at h
      obtain ⟨⟨h1, h2⟩, h3⟩ := h
      subst h1
      obtain ⟨a1, a2⟩ := sndE e C tk h3
      exact ⟨it_rng1 (C.gl h2) (C.blt _ (by simp [blts])) a2 a1.pe, fun _ => rfl⟩
    · cases h
  | .rng2 a b, X, L, W, t, x, xt, C, tk, h, hm => by
    unfold chkI at h
    simp only [evI]
    split at h
    · simp only [Bool.and_eq_true, decide_eq_true_eq] at h
      obtain ⟨⟨⟨h1, h2⟩, h3⟩, h4⟩ := h
      subst h1
      obtain ⟨a1, a2⟩ := sndE a C tk h3
      obtain ⟨b1, b2⟩ := sndE b C tk h4
      exact ⟨it_rng2 (C.gl h2) (C.blt _ (by simp [blts])) a2 b2 a1.pe b1.pe, fun _ => rfl⟩
    · cases h
  | .enum e, X, L, W, t, x, xt, C, tk, h, hm => by
    unfold chkI at h
    simp only [evI]
    split at h
    · simp only [Bool.and_eq_true, decide_eq_true_eq] at h
      obtain ⟨⟨⟨h0, h1⟩, h2⟩, h3⟩ := h
      subst h1
      obtain ⟨es, k, p, rfl⟩ := hm h0
      obtain ⟨a1, a2⟩ := sndE e C tk h3
      exact ⟨it_enum (C.gl h2) (C.blt _ (by simp [blts])) a2 a1.pe, fun _ => rfl⟩
    · cases h
  | .zip a b, X, L, W, t, x, xt, C, tk, h, hm => by
    unfold chkI at h
    simp only [evI]
    split at h
    · simp only [Bool.and_eq_true, decide_eq_true_eq] at h
      obtain ⟨⟨⟨⟨h0, h1⟩, h2⟩, h3⟩, h4⟩ := h
      subst h1
      obtain ⟨es, k, p, rfl⟩ := hm h0
      obtain ⟨a1, a2⟩ := sndE a C tk h3
      obtain ⟨b1, b2⟩ := sndE b C tk h4
      exact ⟨it_zip (C.gl h2) (C.blt _ (by simp [blts])) a2 b2 a1.pe b1.pe, fun _ => rfl⟩
    · cases h
end
theorem sndLcx {W : WX} {own : List Nat} {elt : E} {tg : Tg} {it : It} {xe xt xi : Expr} {as : Int} {scope : Scope} {p : Pos} (C : CxOk T g ca n L X) (tk : L2N.Takes X W) (h : chkE g (.lcx own elt tg it) L (.ListComp xe [⟨xt, xi, [], as⟩] scope p) = true) :
    as = 0 ∧ LcxParts X ca W xe xt xi scope (ownN L.N own) (fun env => ev (evc T n) env (.lcx own elt tg it)) :=
  lcx_parts C h (fun q m => sndI it C tk q m) (fun Y V D t q => sndE elt D t q)
theorem sndLc {W : WX} {own : List Nat} {elt : E} {tg : Tg} {it : It} {c : Eo} {xe xt xi : Expr} {xc : List Expr} {as : Int} {scope : Scope} {p : Pos} (C : CxOk T g ca n L X) (tk : L2N.Takes X W) (h : chkE g (.lc own elt tg it c) L (.ListComp xe [⟨xt, xi, xc, as⟩] scope p) = true) :
    as = 0 ∧ LcParts X ca W xe xt xi xc scope (ownN L.N own) (fun env => ev (evc T n) env (.lc own elt tg it c)) :=
  lc_parts C h (fun q m => sndI it C tk q m) (fun q => sndC c X.K q) (fun Y V D t q => sndE elt D t q)
end
end Cw

set_option Elab.async false
set_option linter.all false
set_option maxRecDepth 100000
set_option maxHeartbeats 4000000
namespace Cw
open PySem PySem.Spec PyProof.Rows L2

/-! ### the state of a body: He, Ge the heaps at its entry -/
/-- what is lent to a def: an object, a list -/
inductive Bor where
  | ins (p dx : Addr) (k : Nat)
  | lst (p : Addr)
theorem ow_set {env : List Sl} {i j : Nat} {z : Sl} {ds : List D} (hz : z ≠ .ow ds) (q : (env.set i z)[j]? = some (.ow ds)) : i ≠ j ∧ env[j]? = some (.ow ds) := by
  by_cases e : i = j
  · subst e
    by_cases hi : i < env.length
    · rw [List.getElem?_set_self hi] at q
      exact (hz (Option.some.inj q)).elim
    · rw [List.getElem?_eq_none (by rw [List.length_set]; omega)] at q
      cases q
  · rw [List.getElem?_set_ne e] at q
    exact ⟨e, q⟩
theorem ln_set {env : List Sl} {i j : Nat} {z : Sl} {ds : List D} (hz : z ≠ .ln ds) (q : (env.set i z)[j]? = some (.ln ds)) : i ≠ j ∧ env[j]? = some (.ln ds) := by
  by_cases e : i = j
  · subst e
    by_cases hi : i < env.length
    · rw [List.getElem?_set_self hi] at q
      exact (hz (Option.some.inj q)).elim
    · rw [List.getElem?_eq_none (by rw [List.length_set]; omega)] at q
      cases q
  · rw [List.getElem?_set_ne e] at q
    exact ⟨e, q⟩
structure RSG (K : PySem.W.Frag) (S : Option Bor) (He Ge G : Hp) (σ : L2.St) (H : Hp) (env : List Sl) : Prop where
  x : Ext He Ge H G
  e : EnvL K G σ env
  o : ∀ (i : Nat) (ds : List D), env[i]? = some (.ow ds) → ∃ (p : Addr) (vs : List V), σ[i]? = some (some (.ref p)) ∧ H p = some (.lst vs) ∧ DpAll K G vs ds ∧ He p = none ∧ G p = none ∧ ∀ (j : Nat) (es : List D) (q : Addr), j ≠ i → env[j]? = some (.ow es) → σ[j]? = some (some (.ref q)) → q ≠ p
  b : ∀ (i : Nat) (b : Bool) (k : Nat) (fs : List D), env[i]? = some (.ob b k fs) → ∃ (p dx : Addr) (vs : List V), σ[i]? = some (some (.ref p)) ∧ H p = some (insO K k dx vs) ∧ DpAll K G vs fs ∧ He p = none ∧ G p = none ∧ (b = true ∧ S = some (.ins p dx k) ∨ b = false ∧ ∀ dx' k', S ≠ some (.ins p dx' k')) ∧ ∀ (j : Nat) (b2 : Bool) (k2 : Nat) (gs : List D) (q : Addr), j ≠ i → env[j]? = some (.ob b2 k2 gs) → σ[j]? = some (some (.ref q)) → q ≠ p
  s : ∀ p dx k, S = some (.ins p dx k) → G p = none ∧ ∃ ws, H p = some (insO K k dx ws)
  l : ∀ (i : Nat) (ds : List D), env[i]? = some (.ln ds) → ∃ (p : Addr) (vs : List V), σ[i]? = some (some (.ref p)) ∧ H p = some (.lst vs) ∧ DpAll K G vs ds ∧ He p = none ∧ G p = none ∧ S = some (.lst p) ∧ (∀ (j : Nat) (es : List D), j ≠ i → env[j]? = some (.ln es) → False) ∧ ∀ (j : Nat) (es : List D) (q : Addr), env[j]? = some (.ow es) → σ[j]? = some (some (.ref q)) → q ≠ p
section
variable {S : Option Bor} {K : PySem.W.Frag} {ca : Str → Value} {W : WX} {He Ge G G' H H1 G1 : Hp} {σ : L2.St} {env : List Sl}
theorem Ext.wid (a : Ext He Ge H G) (b : Ext He G H1 G1) : Ext He Ge H1 G1 := ⟨b.a, a.b.trans b.b, b.c, fun p o h n => b.d p o h (a.d p o h n)⟩
theorem RSG.wid (a : Ext He Ge H G') (h : RSG K S He G' G σ H1 env) : RSG K S He Ge G σ H1 env := ⟨a.wid h.x, h.e, h.o, h.b, h.s, h.l⟩
theorem RSG.ext (h : RSG K S He Ge G σ H env) (e : Ext H G H1 G1) : RSG K S He Ge G1 σ H1 env :=
  ⟨⟨h.x.a.trans e.a, h.x.b.trans e.b, e.c, fun p o a n => e.d p o (h.x.a p o a) (h.x.d p o a n)⟩, h.e.mono e.b, fun i ds q => by
    obtain ⟨p, vs, a1, a2, a3, a4, a5, a6⟩ := h.o i ds q
    exact ⟨p, vs, a1, e.a p _ a2, dpAll_mono e.b a3, a4, e.d p _ a2 a5, a6⟩, fun i b k fs q => by
    obtain ⟨p, dx, vs, a1, a2, a3, a4, a5, a6⟩ := h.b i b k fs q
    exact ⟨p, dx, vs, a1, e.a p _ a2, dpAll_mono e.b a3, a4, e.d p _ a2 a5, a6⟩, fun p dx k q => by
    obtain ⟨a1, ws, a2⟩ := h.s p dx k q
    exact ⟨e.d p _ a2 a1, ws, e.a p _ a2⟩, fun i ds q => by
    obtain ⟨p, vs, a1, a2, a3, a4, a5, a6⟩ := h.l i ds q
    exact ⟨p, vs, a1, e.a p _ a2, dpAll_mono e.b a3, a4, e.d p _ a2 a5, a6⟩⟩
theorem RSG.back (h : RSG K S He Ge G σ H env) (s : Same G G') (e : Ext H G' H1 G1) : RSG K S He Ge G σ H1 env :=
  ⟨⟨h.x.a.trans e.a, h.x.b, s.trans (e.b.trans e.c), h.x.d⟩, h.e, fun i ds q => by
    obtain ⟨p, vs, a1, a2, a3, a4, a5, a6⟩ := h.o i ds q
    exact ⟨p, vs, a1, e.a p _ a2, a3, a4, a5, a6⟩, fun i b k fs q => by
    obtain ⟨p, dx, vs, a1, a2, a3, a4, a5, a6⟩ := h.b i b k fs q
    exact ⟨p, dx, vs, a1, e.a p _ a2, a3, a4, a5, a6⟩, fun p dx k q => by
    obtain ⟨a1, ws, a2⟩ := h.s p dx k q
    exact ⟨a1, ws, e.a p _ a2⟩, fun i ds q => by
    obtain ⟨p, vs, a1, a2, a3, a4, a5, a6⟩ := h.l i ds q
    exact ⟨p, vs, a1, e.a p _ a2, a3, a4, a5, a6⟩⟩
theorem insO_ne {k : Nat} {dx : Addr} {vs ws : List V} : insO K k dx vs ≠ .lst ws := by intro z; cases z
theorem ne_kind {H : Hp} {p q : Addr} {k : Nat} {dx : Addr} {vs ws : List V} (h1 : H p = some (insO K k dx vs)) (h2 : H q = some (.lst ws)) : p ≠ q := fun e => by
  subst e
  rw [h1] at h2
  exact insO_ne (Option.some.inj h2)
theorem RSG.see3 : ∀ (ms : List Nat) {G : Hp} {env : List Sl}, RSG K S He Ge G σ H env → ∃ G', Same G G' ∧ RSG K S He Ge G' σ H (Cw.see env ms) ∧ ∀ b o, G' b = some o → G b = some o ∨ ∃ vs, o = .lst vs
  | [], G, env, h => ⟨G, Same.refl _, h, fun _ _ e => .inl e⟩
  | i :: l, G, env, h => by
    unfold Cw.see
    cases q : env[i]? with
    | none => exact RSG.see3 l h
    | some z =>
      cases z with
      | no => exact RSG.see3 l h
      | fr d => exact RSG.see3 l h
      | ob b k fs => exact RSG.see3 l h
      | ln ds => exact RSG.see3 l h
      | ow ds =>
        obtain ⟨p, vs, a1, a2, a3, a4, a5, a6⟩ := h.o i ds q
        have hi : i < env.length := by
          rcases Nat.lt_or_ge i env.length with z | z
          · exact z
          · rw [List.getElem?_eq_none z] at q; cases q
        have s1 : Same G (upd G p (.lst vs)) := Same.upd a5
        have h2 : RSG K S He Ge (upd G p (.lst vs)) σ H (env.set i (.fr (.list ds))) := by
          refine ⟨⟨h.x.a, h.x.b.trans s1, fun b o e => ?_, fun b o e n => ?_⟩, ⟨by rw [List.length_set]; exact h.e.len, fun j d e => ?_⟩, fun j es e => ?_, fun j b k fs e => ?_, fun p2 dx k e => ?_, fun j es e => ?_⟩
          · by_cases z : b = p
            · subst z; rw [upd_same] at e; cases e; exact a2
            · rw [upd_ne z] at e; exact h.x.c b o e
          · rw [upd_ne (ne_of_none e a4)]; exact h.x.d b o e n
          · by_cases z : i = j
            · subst z
              rw [List.getElem?_set_self hi] at e
              cases e
              exact ⟨.ref p, a1, .lst (SqL.of upd_same) (dpAll_mono s1 a3)⟩
            · rw [List.getElem?_set_ne z] at e
              obtain ⟨v, b1, b2⟩ := h.e.get j d e
              exact ⟨v, b1, dp_mono s1 b2⟩
          · by_cases z : i = j
            · subst z
              rw [List.getElem?_set_self hi] at e
              cases e
            · rw [List.getElem?_set_ne z] at e
              obtain ⟨p2, vs2, b1, b2, b3, b4, b5, b6⟩ := h.o j es e
              have hp : p2 ≠ p := a6 j es p2 (Ne.symm z) e b1
              refine ⟨p2, vs2, b1, b2, dpAll_mono s1 b3, b4, by rw [upd_ne hp]; exact b5, fun j2 es2 q2 n2 e2 c2 => ?_⟩
              by_cases z2 : i = j2
              · subst z2
                rw [List.getElem?_set_self hi] at e2
                cases e2
              · rw [List.getElem?_set_ne z2] at e2
                exact b6 j2 es2 q2 n2 e2 c2
          · obtain ⟨nz, e⟩ := ob_set (by intro z; cases z) e
            obtain ⟨p2, dx, vs2, b1, b2, b3, b4, b5, b7, b6⟩ := h.b j b k fs e
            have hp : p2 ≠ p := ne_kind b2 a2
            refine ⟨p2, dx, vs2, b1, b2, dpAll_mono s1 b3, b4, by rw [upd_ne hp]; exact b5, b7, fun j2 bb k2 gs q2 n2 e2 c2 => ?_⟩
            obtain ⟨_, e2⟩ := ob_set (by intro z; cases z) e2
            exact b6 j2 bb k2 gs q2 n2 e2 c2
          · obtain ⟨b1, ws, b2⟩ := h.s p2 dx k e
            exact ⟨by rw [upd_ne (ne_kind b2 a2)]; exact b1, ws, b2⟩
          · obtain ⟨nz, e⟩ := ln_set (by intro z; cases z) e
            obtain ⟨p2, vs2, b1, b2, b3, b4, b5, b6, b7, b8⟩ := h.l j es e
            have hp : p2 ≠ p := fun z => b8 i ds p q a1 z.symm
            refine ⟨p2, vs2, b1, b2, dpAll_mono s1 b3, b4, by rw [upd_ne hp]; exact b5, b6, fun j2 es2 n2 e2 => ?_, fun j2 es2 q2 e2 c2 => ?_⟩
            · obtain ⟨_, e2⟩ := ln_set (by intro z; cases z) e2
              exact b7 j2 es2 n2 e2
            · obtain ⟨_, e2⟩ := ow_set (by intro z; cases z) e2
              exact b8 j2 es2 q2 e2 c2
        obtain ⟨G2, c1, c2, c3⟩ := RSG.see3 l h2
        refine ⟨G2, s1.trans c1, c2, fun b o e => ?_⟩
        rcases c3 b o e with e | e
        · by_cases z : b = p
          · subst z; rw [upd_same] at e; cases e; exact .inr ⟨vs, rfl⟩
          · rw [upd_ne z] at e; exact .inl e
        · exact .inr e
theorem RSG.see (ms : List Nat) {G : Hp} {env : List Sl} (h : RSG K S He Ge G σ H env) : ∃ G', Same G G' ∧ RSG K S He Ge G' σ H (Cw.see env ms) := by
  obtain ⟨G', a, b, _⟩ := RSG.see3 ms h
  exact ⟨G', a, b⟩
theorem dpAll_flat {G G' : Hp} : ∀ {vs : List V} {ds : List D}, DpAll K G vs ds → ds.all flatD = true → DpAll K G' vs ds
  | _, _, .nil, _ => .nil
  | _, _, .cons a b, h => by
    rw [List.all_cons, Bool.and_eq_true] at h
    refine .cons ?_ (dpAll_flat b h.2)
    have h1 := h.1
    cases a with
    | non => exact .non
    | bl b => exact .bl b
    | int b => exact .int b
    | str b => exact .str b
    | _ => cases h1
/-- one thing more that stays -/
theorem RSG.add {a : Addr} {o : HO} (h : RSG K S He Ge G σ H env) (s : Same G G') (e : Ext H G' H1 G1) (hG : G a = none) (hH : H a = none) (h1 : H1 a = some o) : RSG K S He Ge (upd G a o) σ H1 env := by
  have R := h.back s e
  have s1 : Same G (upd G a o) := Same.upd hG
  have ne : ∀ p u, H p = some u → p ≠ a := fun p u hp z => by subst z; rw [hH] at hp; cases hp
  refine ⟨⟨R.x.a, R.x.b.trans s1, fun b u q => ?_, fun b u q n => ?_⟩, R.e.mono s1, fun i ds q => ?_, fun i b k fs q => ?_, fun p dx k q => ?_, fun i ds q => by
    obtain ⟨p, vs, a1, a2, a3, a4, a5, a6⟩ := h.l i ds q
    exact ⟨p, vs, a1, e.a p _ a2, dpAll_mono s1 a3, a4, by rw [upd_ne (ne p _ a2)]; exact a5, a6⟩⟩
  · by_cases z : b = a
    · subst z; rw [upd_same] at q; cases q; exact h1
    · rw [upd_ne z] at q; exact R.x.c b u q
  · rw [upd_ne (ne b u (h.x.a b u q))]; exact R.x.d b u q n
  · obtain ⟨p, vs, a1, a2, a3, a4, a5, a6⟩ := h.o i ds q
    exact ⟨p, vs, a1, e.a p _ a2, dpAll_mono s1 a3, a4, by rw [upd_ne (ne p _ a2)]; exact a5, a6⟩
  · obtain ⟨p, dx, vs, a1, a2, a3, a4, a5, a6⟩ := h.b i b k fs q
    exact ⟨p, dx, vs, a1, e.a p _ a2, dpAll_mono s1 a3, a4, by rw [upd_ne (ne p _ a2)]; exact a5, a6⟩
  · obtain ⟨a1, ws, a2⟩ := h.s p dx k q
    exact ⟨by rw [upd_ne (ne p _ a2)]; exact a1, ws, e.a p _ a2⟩
/-- a flat tuple that was made while own lists were looked at stays, though they don't -/
theorem RSG.keepT {v : V} {l : List D} (h : RSG K S He Ge G σ H env) (s : Same G G') (hs : ∀ b o, G' b = some o → G b = some o ∨ ∃ vs, o = .lst vs) (e : Ext H G' H1 G1) (p : Dp K G1 v (.tuple l)) (hl : l.all flatD = true) : ∃ G2, RSG K S He Ge G2 σ H1 env ∧ Same G G2 ∧ Dp K G2 v (.tuple l) := by
  cases p with
  | tup q r =>
    have key : ∀ a (o : HO), G1 a = some o → (∀ vs, o ≠ .lst vs) → ∃ G2, RSG K S He Ge G2 σ H1 env ∧ Same G G2 ∧ G2 a = some o := fun a o h1 hn => by
      cases hg : G a with
      | some y =>
        have := e.b a y (s a y hg)
        rw [h1] at this
        cases this
        exact ⟨G, h.back s e, Same.refl _, hg⟩
      | none =>
        have g' : G' a = none := by
          cases g' : G' a with
          | none => rfl
          | some z =>
            rcases hs a z g' with c | ⟨vs, c⟩
            · rw [hg] at c; cases c
            · have := e.b a z g'
              rw [h1] at this
              cases this
              exact absurd c (hn vs)
        have hH : H a = none := by
          cases hH : H a with
          | none => rfl
          | some z =>
            have := e.d a z hH g'
            rw [h1] at this
            cases this
        exact ⟨upd G a o, h.add s e hg hH (e.c a o h1), Same.upd hg, upd_same⟩
    rcases q with (q | ⟨o, q⟩) | q
    · obtain ⟨G2, a1, a2, a3⟩ := key _ _ q (fun vs z => by cases z)
      exact ⟨G2, a1, a2, .tup (.inl (.inl a3)) (dpAll_flat r hl)⟩
    · obtain ⟨G2, a1, a2, a3⟩ := key _ _ q (fun vs z => by cases z)
      exact ⟨G2, a1, a2, .tup (.inl (.inr ⟨o, a3⟩)) (dpAll_flat r hl)⟩
    · exact ⟨G, h.back s e, Same.refl _, .tup (.inr q) (dpAll_flat r hl)⟩
theorem RSG.set {i : Nat} {v : V} {d : D} (h : RSG K S He Ge G σ H env) (p : Dp K G v d) : RSG K S He Ge G (σ.set i (some v)) H (env.set i (.fr d)) := by
  refine ⟨h.x, h.e.set p, fun j es e => ?_, fun j b k fs e => ?_, h.s, fun j es e => by
    obtain ⟨nz, e⟩ := ln_set (by intro z; cases z) e
    obtain ⟨p2, vs2, b1, b2, b3, b4, b5, b6, b7, b8⟩ := h.l j es e
    refine ⟨p2, vs2, by rw [List.getElem?_set_ne nz]; exact b1, b2, b3, b4, b5, b6, fun j2 es2 n2 e2 => ?_, fun j2 es2 q2 e2 c2 => ?_⟩
    · obtain ⟨_, e2⟩ := ln_set (by intro z; cases z) e2
      exact b7 j2 es2 n2 e2
    · obtain ⟨nz2, e2⟩ := ow_set (by intro z; cases z) e2
      rw [List.getElem?_set_ne nz2] at c2
      exact b8 j2 es2 q2 e2 c2⟩
  case refine_2 =>
    obtain ⟨nz, e⟩ := ob_set (by intro z; cases z) e
    obtain ⟨p2, dx, vs2, b1, b2, b3, b4, b5, b7, b6⟩ := h.b j b k fs e
    refine ⟨p2, dx, vs2, by rw [List.getElem?_set_ne nz]; exact b1, b2, b3, b4, b5, b7, fun j2 bb k2 gs q2 n2 e2 c2 => ?_⟩
    obtain ⟨nz2, e2⟩ := ob_set (by intro z; cases z) e2
    rw [List.getElem?_set_ne nz2] at c2
    exact b6 j2 bb k2 gs q2 n2 e2 c2
  by_cases z : i = j
  · subst z
    by_cases hi : i < env.length
    · rw [List.getElem?_set_self hi] at e; cases e
    · rw [List.getElem?_eq_none (by rw [List.length_set]; omega)] at e; cases e
  · rw [List.getElem?_set_ne z] at e
    obtain ⟨p2, vs2, b1, b2, b3, b4, b5, b6⟩ := h.o j es e
    refine ⟨p2, vs2, by rw [List.getElem?_set_ne z]; exact b1, b2, b3, b4, b5, fun j2 es2 q2 n2 e2 c2 => ?_⟩
    by_cases z2 : i = j2
    · subst z2
      by_cases hi : i < env.length
      · rw [List.getElem?_set_self hi] at e2; cases e2
      · rw [List.getElem?_eq_none (by rw [List.length_set]; omega)] at e2; cases e2
    · rw [List.getElem?_set_ne z2] at e2 c2
      exact b6 j2 es2 q2 n2 e2 c2
theorem RSG.setO {i : Nat} {p : Addr} {vs : List V} {ds : List D} (h : RSG K S He Ge G σ H env) (a2 : H p = some (.lst vs)) (a3 : DpAll K G vs ds) (a4 : He p = none) (a5 : G p = none)
    (a6 : ∀ (j : Nat) (es : List D) (q : Addr), j ≠ i → env[j]? = some (.ow es) → σ[j]? = some (some (.ref q)) → q ≠ p)
    (a7 : ∀ (j : Nat) (es : List D) (q : Addr), j ≠ i → env[j]? = some (.ln es) → σ[j]? = some (some (.ref q)) → p ≠ q) : RSG K S He Ge G (σ.set i (some (.ref p))) H (env.set i (.ow ds)) := by
  have out : ∀ (j : Nat) (o : Sl), (env.set i (.ow ds))[j]? = some o → (j = i ∧ o = .ow ds ∧ i < env.length) ∨ (j ≠ i ∧ env[j]? = some o) := by
    intro j o e
    by_cases z : i = j
    · subst z
      by_cases hi : i < env.length
      · rw [List.getElem?_set_self hi] at e; cases e; exact .inl ⟨rfl, rfl, hi⟩
      · rw [List.getElem?_eq_none (by rw [List.length_set]; omega)] at e; cases e
    · rw [List.getElem?_set_ne z] at e; exact .inr ⟨Ne.symm z, e⟩
  refine ⟨h.x, ⟨by rw [List.length_set, List.length_set]; exact h.e.len, fun j d e => ?_⟩, fun j es e => ?_, fun j b k fs e => ?_, h.s, fun j es e0 => by
    obtain ⟨nz, e⟩ := ln_set (by intro z; cases z) e0
    clear e0
    obtain ⟨p2, vs2, b1, b2, b3, b4, b5, b6, b7, b8⟩ := h.l j es e
    refine ⟨p2, vs2, by rw [List.getElem?_set_ne nz]; exact b1, b2, b3, b4, b5, b6, fun j2 es2 n2 e2 => ?_, fun j2 es2 q2 e2 c2 => ?_⟩
    · obtain ⟨_, e2⟩ := ln_set (by intro z; cases z) e2
      exact b7 j2 es2 n2 e2
    · rcases out j2 _ e2 with ⟨z3, _, hi⟩ | ⟨z3, e3⟩
      · subst z3
        rw [List.getElem?_set_self (by rw [h.e.len]; exact hi)] at c2
        cases c2
        exact a7 j es p2 (Ne.symm nz) e b1
      · rw [List.getElem?_set_ne (Ne.symm z3)] at c2
        exact b8 j2 es2 q2 e3 c2⟩
  case refine_3 =>
    obtain ⟨nz, e⟩ := ob_set (by intro z; cases z) e
    obtain ⟨p2, dx, vs2, b1, b2, b3, b4, b5, b7, b6⟩ := h.b j b k fs e
    refine ⟨p2, dx, vs2, by rw [List.getElem?_set_ne nz]; exact b1, b2, b3, b4, b5, b7, fun j2 bb k2 gs q2 n2 e2 c2 => ?_⟩
    obtain ⟨nz2, e2⟩ := ob_set (by intro z; cases z) e2
    rw [List.getElem?_set_ne nz2] at c2
    exact b6 j2 bb k2 gs q2 n2 e2 c2
  · rcases out j _ e with ⟨_, z, _⟩ | ⟨z, e⟩
    · cases z
    · obtain ⟨v, b1, b2⟩ := h.e.get j d e
      exact ⟨v, by rw [List.getElem?_set_ne (Ne.symm z)]; exact b1, b2⟩
  · rcases out j _ e with ⟨z, z2, hi⟩ | ⟨z, e0⟩
    · subst z
      cases z2
      refine ⟨p, vs, List.getElem?_set_self (by rw [h.e.len]; exact hi), a2, a3, a4, a5, fun j2 es2 q2 n2 e2 c2 => ?_⟩
      rcases out j2 _ e2 with ⟨z3, _, _⟩ | ⟨z3, e3⟩
      · exact (n2 z3).elim
      · rw [List.getElem?_set_ne (Ne.symm z3)] at c2
        exact a6 j2 es2 q2 z3 e3 c2
    · obtain ⟨p2, vs2, b1, b2, b3, b4, b5, b6⟩ := h.o j es e0
      refine ⟨p2, vs2, by rw [List.getElem?_set_ne (Ne.symm z)]; exact b1, b2, b3, b4, b5, fun j2 es2 q2 n2 e2 c2 => ?_⟩
      rcases out j2 _ e2 with ⟨z3, _, hi⟩ | ⟨z3, e3⟩
      · subst z3
        rw [List.getElem?_set_self (by rw [h.e.len]; exact hi)] at c2
        cases c2
        exact fun w => a6 j es p2 z e0 b1 w.symm
      · rw [List.getElem?_set_ne (Ne.symm z3)] at c2
        exact b6 j2 es2 q2 n2 e3 c2
/-- a new list of one's own -/
theorem RSG.setN {i : Nat} {p : Addr} {vs : List V} {ds : List D} (h : RSG K S He Ge G σ H env) (e : Ext H G H1 G1) (n1 : H p = none) (n2 : G1 p = none) (a2 : H1 p = some (.lst vs)) (a3 : DpAll K G1 vs ds) : RSG K S He Ge G1 (σ.set i (some (.ref p))) H1 (env.set i (.ow ds)) := by
  refine (h.ext e).setO a2 a3 ?_ n2 (fun j es q _ e2 c2 => ?_) (fun j es q _ e2 c2 => ?_)
  · cases z : He p with
    | none => rfl
    | some o => rw [h.x.a p o z] at n1; cases n1
  · obtain ⟨p2, vs2, b1, b2, _⟩ := h.o j es e2
    rw [c2] at b1
    cases b1
    exact ne_of_none b2 n1
  · obtain ⟨p2, vs2, b1, b2, _⟩ := h.l j es e2
    rw [c2] at b1
    cases b1
    exact (ne_of_none b2 n1).symm
theorem RSG.grow (h : RSG K S He Ge G σ H env) (s : Same H H1) : RSG K S He Ge G σ H1 env :=
  ⟨⟨h.x.a.trans s, h.x.b, h.x.c.trans s, h.x.d⟩, h.e, fun i ds q => by
    obtain ⟨p, vs, a1, a2, a3, a4, a5, a6⟩ := h.o i ds q
    exact ⟨p, vs, a1, s p _ a2, a3, a4, a5, a6⟩, fun i b k fs q => by
    obtain ⟨p, dx, vs, a1, a2, a3, a4, a5, a6⟩ := h.b i b k fs q
    exact ⟨p, dx, vs, a1, s p _ a2, a3, a4, a5, a6⟩, fun p dx k q => by
    obtain ⟨a1, ws, a2⟩ := h.s p dx k q
    exact ⟨a1, ws, s p _ a2⟩, fun i ds q => by
    obtain ⟨p, vs, a1, a2, a3, a4, a5, a6⟩ := h.l i ds q
    exact ⟨p, vs, a1, s p _ a2, a3, a4, a5, a6⟩⟩
theorem RSG.unset {i : Nat} {o : Option V} (h : RSG K S He Ge G σ H env) : RSG K S He Ge G (σ.set i o) H (env.set i .no) := by
  refine ⟨h.x, h.e.unset, fun j es e => ?_, fun j b k fs e => ?_, h.s, fun j es e => by
    obtain ⟨nz, e⟩ := ln_set (by intro z; cases z) e
    obtain ⟨p2, vs2, b1, b2, b3, b4, b5, b6, b7, b8⟩ := h.l j es e
    refine ⟨p2, vs2, by rw [List.getElem?_set_ne nz]; exact b1, b2, b3, b4, b5, b6, fun j2 es2 n2 e2 => ?_, fun j2 es2 q2 e2 c2 => ?_⟩
    · obtain ⟨_, e2⟩ := ln_set (by intro z; cases z) e2
      exact b7 j2 es2 n2 e2
    · obtain ⟨nz2, e2⟩ := ow_set (by intro z; cases z) e2
      rw [List.getElem?_set_ne nz2] at c2
      exact b8 j2 es2 q2 e2 c2⟩
  case refine_2 =>
    obtain ⟨nz, e⟩ := ob_set (by intro z; cases z) e
    obtain ⟨p2, dx, vs2, b1, b2, b3, b4, b5, b7, b6⟩ := h.b j b k fs e
    refine ⟨p2, dx, vs2, by rw [List.getElem?_set_ne nz]; exact b1, b2, b3, b4, b5, b7, fun j2 bb k2 gs q2 n2 e2 c2 => ?_⟩
    obtain ⟨nz2, e2⟩ := ob_set (by intro z; cases z) e2
    rw [List.getElem?_set_ne nz2] at c2
    exact b6 j2 bb k2 gs q2 n2 e2 c2
  by_cases z : i = j
  · subst z
    by_cases hi : i < env.length
    · rw [List.getElem?_set_self hi] at e; cases e
    · rw [List.getElem?_eq_none (by rw [List.length_set]; omega)] at e; cases e
  · rw [List.getElem?_set_ne z] at e
    obtain ⟨p2, vs2, b1, b2, b3, b4, b5, b6⟩ := h.o j es e
    refine ⟨p2, vs2, by rw [List.getElem?_set_ne z]; exact b1, b2, b3, b4, b5, fun j2 es2 q2 n2 e2 c2 => ?_⟩
    by_cases z2 : i = j2
    · subst z2
      by_cases hi : i < env.length
      · rw [List.getElem?_set_self hi] at e2; cases e2
      · rw [List.getElem?_eq_none (by rw [List.length_set]; omega)] at e2; cases e2
    · rw [List.getElem?_set_ne z2] at e2 c2
      exact b6 j2 es2 q2 n2 e2 c2
/-- a list of one's own changed -/
theorem RSG.upd {i : Nat} {p : Addr} {vs ws : List V} {ds es : List D} (h : RSG K S He Ge G σ H env) (q : env[i]? = some (.ow ds)) (c : σ[i]? = some (some (.ref p))) (a2 : H p = some (.lst vs)) (a3 : DpAll K G ws es) : RSG K S He Ge G σ (L2.upd H p (.lst ws)) (env.set i (.ow es)) := by
  obtain ⟨p2, vs2, b1, b2, b3, b4, b5, b6⟩ := h.o i ds q
  rw [c] at b1
  cases b1
  have h2 : RSG K S He Ge G σ (L2.upd H p (.lst ws)) (env.set i .no) := by
    refine ⟨⟨fun b o e => ?_, h.x.b, fun b o e => ?_, h.x.d⟩, ⟨by rw [List.length_set]; exact h.e.len, fun j d e => ?_⟩, fun j es e => ?_, fun j b k fs e => ?_, fun p2 dx k e => ?_, fun j es e => by
      obtain ⟨nz, e⟩ := ln_set (by intro z; cases z) e
      obtain ⟨p3, vs3, d1, d2, d3, d4, d5, d6, d7, d8⟩ := h.l j es e
      have hp : p3 ≠ p := fun z => d8 i ds p q c z.symm
      refine ⟨p3, vs3, d1, by rw [upd_ne hp]; exact d2, d3, d4, d5, d6, fun j2 es2 n2 e2 => ?_, fun j2 es2 q2 e2 c2 => ?_⟩
      · obtain ⟨_, e2⟩ := ln_set (by intro z; cases z) e2
        exact d7 j2 es2 n2 e2
      · obtain ⟨_, e2⟩ := ow_set (by intro z; cases z) e2
        exact d8 j2 es2 q2 e2 c2⟩
    · rw [upd_ne (ne_of_none e b4)]; exact h.x.a b o e
    · rw [upd_ne (ne_of_none e b5)]; exact h.x.c b o e
    · by_cases z : i = j
      · subst z
        have := (h.e.unset (i := i) (o := none)).get i d
        obtain ⟨v, w1, _⟩ := this e
        by_cases hi : i < σ.length
        · rw [List.getElem?_set_self hi] at w1; cases w1
        · rw [List.getElem?_eq_none (by rw [List.length_set]; omega)] at w1; cases w1
      · rw [List.getElem?_set_ne z] at e; exact h.e.get j d e
    · by_cases z : i = j
      · subst z
        by_cases hi : i < env.length
        · rw [List.getElem?_set_self hi] at e; cases e
        · rw [List.getElem?_eq_none (by rw [List.length_set]; omega)] at e; cases e
      · rw [List.getElem?_set_ne z] at e
        obtain ⟨p3, vs3, d1, d2, d3, d4, d5, d6⟩ := h.o j es e
        have hp : p3 ≠ p := b6 j es p3 (Ne.symm z) e d1
        refine ⟨p3, vs3, d1, by rw [upd_ne hp]; exact d2, d3, d4, d5, fun j2 es2 q2 n2 e2 c2 => ?_⟩
        by_cases z2 : i = j2
        · subst z2
          by_cases hi : i < env.length
          · rw [List.getElem?_set_self hi] at e2; cases e2
          · rw [List.getElem?_eq_none (by rw [List.length_set]; omega)] at e2; cases e2
        · rw [List.getElem?_set_ne z2] at e2
          exact d6 j2 es2 q2 n2 e2 c2
    · obtain ⟨nz, e⟩ := ob_set (by intro z; cases z) e
      obtain ⟨p3, dx, vs3, d1, d2, d3, d4, d5, d7, d6⟩ := h.b j b k fs e
      have hp : p3 ≠ p := ne_kind d2 a2
      refine ⟨p3, dx, vs3, d1, by rw [upd_ne hp]; exact d2, d3, d4, d5, d7, fun j2 bb k2 gs q2 n2 e2 c2 => ?_⟩
      obtain ⟨_, e2⟩ := ob_set (by intro z; cases z) e2
      exact d6 j2 bb k2 gs q2 n2 e2 c2
    · obtain ⟨b1, ws, b2⟩ := h.s p2 dx k e
      exact ⟨b1, ws, by rw [upd_ne (ne_kind b2 a2)]; exact b2⟩
  have h3 := h2.setO (i := i) (p := p) (vs := ws) (ds := es) upd_same a3 b4 b5 (fun j es2 q2 n2 e2 c2 => by
    rw [List.getElem?_set_ne (Ne.symm n2)] at e2
    exact b6 j es2 q2 n2 e2 c2) (fun j es2 q2 n2 e2 c2 => by
    obtain ⟨_, e2⟩ := ln_set (by intro z; cases z) e2
    obtain ⟨p3, vs3, d1, d2, d3, d4, d5, d6, d7, d8⟩ := h.l j es2 e2
    rw [c2] at d1
    cases d1
    exact d8 i ds p q c)
  rw [List.set_set] at h3
  have e : σ.set i (some (.ref p)) = σ := by
    apply List.ext_getElem?
    intro j
    by_cases z : i = j
    · subst z
      have hi : i < σ.length := by
        rcases Nat.lt_or_ge i σ.length with z | z
        · exact z
        · rw [List.getElem?_eq_none z] at c; cases c
      rw [List.getElem?_set_self hi, c]
    · rw [List.getElem?_set_ne z]
  rw [e] at h3
  exact h3

/-! ### objects -/
theorem EnvL.setX {z : Sl} {i : Nat} {o : Option V} (h : EnvL K G σ env) (hz : ∀ d, z ≠ .fr d) : EnvL K G (σ.set i o) (env.set i z) := by
  refine ⟨by rw [List.length_set, List.length_set, h.len], fun j e q => ?_⟩
  by_cases y : i = j
  · subst y
    by_cases hi : i < env.length
    · rw [List.getElem?_set_self hi] at q
      exact (hz _ (Option.some.inj q)).elim
    · rw [List.getElem?_eq_none (by rw [List.length_set]; omega)] at q
      cases q
  · rw [List.getElem?_set_ne y] at q ⊢
    exact h.get j e q
theorem set_noop {α : Type} {l : List α} {i : Nat} {a : α} (h : l[i]? = some a) : l.set i a = l := by
  apply List.ext_getElem?
  intro j
  by_cases z : i = j
  · subst z
    have hi : i < l.length := by
      rcases Nat.lt_or_ge i l.length with z | z
      · exact z
      · rw [List.getElem?_eq_none z] at h; cases h
    rw [List.getElem?_set_self hi, h]
  · rw [List.getElem?_set_ne z]
/-- an object is changed by a call: what is left of it is not told -/
theorem RSG.obX {i : Nat} {p dx : Addr} {vs ws : List V} {b : Bool} {k : Nat} {fs : List D} (h : RSG K S He Ge G σ H env) (q : env[i]? = some (.ob b k fs)) (c : σ[i]? = some (some (.ref p))) (a1 : H p = some (insO K k dx vs)) (e : Ext (del H p) G (del H1 p) G1) (g1 : H1 p = some (insO K k dx ws)) : RSG K S He Ge G1 σ H1 (env.set i .no) := by
  obtain ⟨p0, dx0, vs0, c1, c2, c3, c4, c5, c6, c7⟩ := h.b i b k fs q
  rw [c] at c1
  cases c1
  have hne : ∀ (b : Addr) (o : HO), He b = some o → b ≠ p := fun b o z => ne_of_none z c4
  have ed : dx0 = dx := by
    rw [a1] at c2
    have z := Option.some.inj c2
    unfold insO at z
    injection z with z1 z2 z3
    exact z2.symm
  subst ed
  refine ⟨⟨fun b o z => ?_, h.x.b.trans e.b, fun b o z => (del_some (e.c b o z)).2, fun b o z n => ?_⟩, ?_, fun j ds z => ?_, fun j b2 k2 gs z => ?_, fun p2 dx2 k2 z => ?_, fun j ds z => by
    obtain ⟨_, z⟩ := ln_set (by intro z; cases z) z
    obtain ⟨p2, vs2, a1, a2, a3, a4, a5, a6, a7, a8⟩ := h.l j ds z
    have hp : p2 ≠ p := (ne_kind c2 a2).symm
    refine ⟨p2, vs2, a1, (del_some (e.a p2 _ (by rw [del_ne hp]; exact a2))).2, dpAll_mono e.b a3, a4, e.d p2 _ (by rw [del_ne hp]; exact a2) a5, a6, fun j2 es n2 e2 => ?_, fun j2 es q2 e2 c2 => ?_⟩
    · obtain ⟨_, e2⟩ := ln_set (by intro z; cases z) e2
      exact a7 j2 es n2 e2
    · obtain ⟨_, e2⟩ := ow_set (by intro z; cases z) e2
      exact a8 j2 es q2 e2 c2⟩
  · have y := e.a b o (by rw [del_ne (hne b o z)]; exact h.x.a b o z)
    exact (del_some y).2
  · exact e.d b o (by rw [del_ne (hne b o z)]; exact h.x.a b o z) (h.x.d b o z n)
  · have z := (h.e.mono e.b).setX (z := .no) (i := i) (o := some (.ref p)) (by intro d z; cases z)
    rw [set_noop c] at z
    exact z
  · obtain ⟨_, z⟩ := ow_set (by intro z; cases z) z
    obtain ⟨p2, vs2, a1, a2, a3, a4, a5, a6⟩ := h.o j ds z
    have hp : p2 ≠ p := (ne_kind c2 a2).symm
    refine ⟨p2, vs2, a1, (del_some (e.a p2 _ (by rw [del_ne hp]; exact a2))).2, dpAll_mono e.b a3, a4, e.d p2 _ (by rw [del_ne hp]; exact a2) a5, fun j2 es q2 n2 e2 c2 => ?_⟩
    obtain ⟨_, e2⟩ := ow_set (by intro z; cases z) e2
    exact a6 j2 es q2 n2 e2 c2
  · obtain ⟨nz, z⟩ := ob_set (by intro z; cases z) z
    obtain ⟨p2, dx2, vs2, a1, a2, a3, a4, a5, a7, a6⟩ := h.b j b2 k2 gs z
    have hp : p2 ≠ p := c7 j b2 k2 gs p2 (Ne.symm nz) z a1
    refine ⟨p2, dx2, vs2, a1, (del_some (e.a p2 _ (by rw [del_ne hp]; exact a2))).2, dpAll_mono e.b a3, a4, e.d p2 _ (by rw [del_ne hp]; exact a2) a5, a7, fun j2 b3 k3 gs3 q2 n2 e2 c2 => ?_⟩
    obtain ⟨_, e2⟩ := ob_set (by intro z; cases z) e2
    exact a6 j2 b3 k3 gs3 q2 n2 e2 c2
  · rcases c6 with ⟨_, y⟩ | ⟨_, y⟩
    · rw [y] at z
      cases z
      refine ⟨?_, ws, g1⟩
      cases w : G1 p with
      | none => rfl
      | some o => exact ((del_some (e.c p o w)).1 rfl).elim
    · obtain ⟨b1, us, b2⟩ := h.s p2 dx2 k2 z
      have hp : p2 ≠ p := fun w => by subst w; exact y _ _ z
      have b3 : del H p p2 = some (insO K k2 dx2 us) := by rw [del_ne hp]; exact b2
      exact ⟨e.d p2 _ b3 b1, us, (del_some (e.a p2 _ b3)).2⟩
theorem RSG.setB {i : Nat} {p dx : Addr} {vs : List V} {b : Bool} {k : Nat} {fs : List D} (h : RSG K S He Ge G σ H env) (a2 : H p = some (insO K k dx vs)) (a3 : DpAll K G vs fs) (a4 : He p = none) (a5 : G p = none) (a7 : b = true ∧ S = some (.ins p dx k) ∨ b = false ∧ ∀ dx' k', S ≠ some (.ins p dx' k'))
    (a6 : ∀ (j : Nat) (b2 : Bool) (k2 : Nat) (gs : List D) (q : Addr), j ≠ i → env[j]? = some (.ob b2 k2 gs) → σ[j]? = some (some (.ref q)) → q ≠ p) : RSG K S He Ge G (σ.set i (some (.ref p))) H (env.set i (.ob b k fs)) := by
  have out : ∀ (j : Nat) (b2 : Bool) (k2 : Nat) (gs : List D), (env.set i (.ob b k fs))[j]? = some (.ob b2 k2 gs) → (j = i ∧ b2 = b ∧ k2 = k ∧ gs = fs ∧ i < env.length) ∨ (j ≠ i ∧ env[j]? = some (.ob b2 k2 gs)) := by
    intro j b2 k2 gs e
    by_cases z : i = j
    · subst z
      by_cases hi : i < env.length
      · rw [List.getElem?_set_self hi] at e; cases e; exact .inl ⟨rfl, rfl, rfl, rfl, hi⟩
      · rw [List.getElem?_eq_none (by rw [List.length_set]; omega)] at e; cases e
    · rw [List.getElem?_set_ne z] at e; exact .inr ⟨Ne.symm z, e⟩
  refine ⟨h.x, h.e.setX (by intro d z; cases z), fun j ds z => ?_, fun j b2 k2 gs z => ?_, h.s, fun j es e => by
    obtain ⟨nz, e⟩ := ln_set (by intro z; cases z) e
    obtain ⟨p2, vs2, b1, b2, b3, b4, b5, b6, b7, b8⟩ := h.l j es e
    refine ⟨p2, vs2, by rw [List.getElem?_set_ne nz]; exact b1, b2, b3, b4, b5, b6, fun j2 es2 n2 e2 => ?_, fun j2 es2 q2 e2 c2 => ?_⟩
    · obtain ⟨_, e2⟩ := ln_set (by intro z; cases z) e2
      exact b7 j2 es2 n2 e2
    · obtain ⟨nz2, e2⟩ := ow_set (by intro z; cases z) e2
      rw [List.getElem?_set_ne nz2] at c2
      exact b8 j2 es2 q2 e2 c2⟩
  · obtain ⟨nz, z⟩ := ow_set (by intro z; cases z) z
    obtain ⟨p2, vs2, c1, c2, c3, c4, c5, c6⟩ := h.o j ds z
    refine ⟨p2, vs2, by rw [List.getElem?_set_ne nz]; exact c1, c2, c3, c4, c5, fun j2 es q2 n2 e2 d2 => ?_⟩
    obtain ⟨nz2, e2⟩ := ow_set (by intro z; cases z) e2
    rw [List.getElem?_set_ne nz2] at d2
    exact c6 j2 es q2 n2 e2 d2
  · rcases out j b2 k2 gs z with ⟨z1, z2, z3, z4, hi⟩ | ⟨z1, y⟩
    · subst z1 z2 z3 z4
      refine ⟨p, dx, vs, List.getElem?_set_self (by rw [h.e.len]; exact hi), a2, a3, a4, a5, a7, fun j2 b3 k3 gs3 q2 n2 e2 d2 => ?_⟩
      rcases out j2 b3 k3 gs3 e2 with ⟨w, _⟩ | ⟨w, e2⟩
      · exact (n2 w).elim
      · rw [List.getElem?_set_ne (Ne.symm w)] at d2
        exact a6 j2 b3 k3 gs3 q2 n2 e2 d2
    · clear z
      obtain ⟨p2, dx2, vs2, c1, c2, c3, c4, c5, c7, c6⟩ := h.b j b2 k2 gs y
      refine ⟨p2, dx2, vs2, by rw [List.getElem?_set_ne (Ne.symm z1)]; exact c1, c2, c3, c4, c5, c7, fun j2 b3 k3 gs3 q2 n2 e2 d2 => ?_⟩
      rcases out j2 b3 k3 gs3 e2 with ⟨w, w2, w3, w4, hi⟩ | ⟨w, e2⟩
      · subst w w2 w3 w4
        rw [List.getElem?_set_self (by rw [h.e.len]; exact hi)] at d2
        cases d2
        exact fun w => a6 j b2 k2 gs p2 z1 y c1 w.symm
      · rw [List.getElem?_set_ne (Ne.symm w)] at d2
        exact c6 j2 b3 k3 gs3 q2 n2 e2 d2
/-- an object is changed by a call -/
theorem RSG.obU {i : Nat} {p dx : Addr} {vs ws : List V} {b : Bool} {k : Nat} {fs gs : List D} (h : RSG K S He Ge G σ H env) (q : env[i]? = some (.ob b k fs)) (c : σ[i]? = some (some (.ref p))) (a1 : H p = some (insO K k dx vs)) (e : Ext (del H p) G (del H1 p) G1)
    (a2 : H1 p = some (insO K k dx ws)) (a3 : DpAll K G1 ws gs) (a5 : G1 p = none) : RSG K S He Ge G1 σ H1 (env.set i (.ob b k gs)) := by
  obtain ⟨p0, dx0, vs0, c1, c2, c3, c4, c5, c6, c7⟩ := h.b i b k fs q
  rw [c] at c1
  cases c1
  have ed : dx0 = dx := by
    rw [a1] at c2
    have z := Option.some.inj c2
    unfold insO at z
    injection z with z1 z2 z3
    exact z2.symm
  subst ed
  have h1 := (h.obX q c a1 e a2).setB (i := i) (p := p) (b := b) a2 a3 c4 a5 c6 fun j b2 k2 gs2 q2 n2 e2 d2 => by
    obtain ⟨_, e2⟩ := ob_set (by intro z; cases z) e2
    exact c7 j b2 k2 gs2 q2 n2 e2 d2
  rw [List.set_set, set_noop c] at h1
  exact h1
/-- a new object of one's own -/
theorem RSG.obN {i : Nat} {p dx : Addr} {ws : List V} {k : Nat} {gs : List D} (h : RSG K S He Ge G σ H env) (e : Ext H G (del H1 p) G1) (n1 : H p = none) (a2 : H1 p = some (insO K k dx ws)) (a3 : DpAll K G1 ws gs) (a5 : G1 p = none) : RSG K S He Ge G1 (σ.set i (some (.ref p))) H1 (env.set i (.ob false k gs)) := by
  refine ((h.ext e).grow del_same).setB a2 a3 ?_ a5 (.inr ⟨rfl, fun dx' k' z => ?_⟩) fun j b2 k2 gs2 q2 _ e2 d2 => ?_
  · cases z : He p with
    | none => rfl
    | some o => rw [h.x.a p o z] at n1; cases n1
  · obtain ⟨_, us, b2⟩ := h.s p dx' k' z
    rw [n1] at b2
    cases b2
  · obtain ⟨p2, dx2, vs2, b1, b2, _⟩ := h.b j b2 k2 gs2 e2
    rw [d2] at b1
    cases b1
    exact ne_of_none b2 n1
/-- a lent list is changed -/
theorem RSG.lnU {i : Nat} {p : Addr} {vs ws : List V} {ds gs : List D} (h : RSG K S He Ge G σ H env) (q : env[i]? = some (.ln ds)) (c : σ[i]? = some (some (.ref p))) (a1 : H p = some (.lst vs)) (e : Ext (del H p) G (del H1 p) G1)
    (a2 : H1 p = some (.lst ws)) (a3 : DpAll K G1 ws gs) (a5 : G1 p = none) : RSG K S He Ge G1 σ H1 (env.set i (.ln gs)) := by
  obtain ⟨p0, vs0, c1, c2, c3, c4, c5, c6, c7, c8⟩ := h.l i ds q
  rw [c] at c1
  cases c1
  have hne : ∀ (b : Addr) (o : HO), He b = some o → b ≠ p := fun b o z => ne_of_none z c4
  have hi : i < env.length := by
    rcases Nat.lt_or_ge i env.length with z | z
    · exact z
    · rw [List.getElem?_eq_none z] at q; cases q
  refine ⟨⟨fun b o z => ?_, h.x.b.trans e.b, fun b o z => (del_some (e.c b o z)).2, fun b o z n => ?_⟩, ?_, fun j ds z => ?_, fun j b2 k2 gs z => ?_, fun p2 dx2 k2 z => ?_, fun j es z => ?_⟩
  · exact (del_some (e.a b o (by rw [del_ne (hne b o z)]; exact h.x.a b o z))).2
  · exact e.d b o (by rw [del_ne (hne b o z)]; exact h.x.a b o z) (h.x.d b o z n)
  · have z := (h.e.mono e.b).setX (z := .ln gs) (i := i) (o := some (.ref p)) (by intro d z; cases z)
    rw [set_noop c] at z
    exact z
  · obtain ⟨_, z⟩ := ow_set (by intro z; cases z) z
    obtain ⟨p2, vs2, b1, b2, b3, b4, b5, b6⟩ := h.o j ds z
    have hp : p2 ≠ p := c8 j ds p2 z b1
    refine ⟨p2, vs2, b1, (del_some (e.a p2 _ (by rw [del_ne hp]; exact b2))).2, dpAll_mono e.b b3, b4, e.d p2 _ (by rw [del_ne hp]; exact b2) b5, fun j2 es q2 n2 e2 c2 => ?_⟩
    obtain ⟨_, e2⟩ := ow_set (by intro z; cases z) e2
    exact b6 j2 es q2 n2 e2 c2
  · obtain ⟨nz, z⟩ := ob_set (by intro z; cases z) z
    obtain ⟨p2, dx2, vs2, b1, b2, b3, b4, b5, b7, b6⟩ := h.b j b2 k2 gs z
    have hp : p2 ≠ p := ne_kind b2 a1
    refine ⟨p2, dx2, vs2, b1, (del_some (e.a p2 _ (by rw [del_ne hp]; exact b2))).2, dpAll_mono e.b b3, b4, e.d p2 _ (by rw [del_ne hp]; exact b2) b5, b7, fun j2 b3 k3 gs3 q2 n2 e2 c2 => ?_⟩
    obtain ⟨_, e2⟩ := ob_set (by intro z; cases z) e2
    exact b6 j2 b3 k3 gs3 q2 n2 e2 c2
  · rw [c6] at z
    cases z
  · by_cases y : i = j
    · subst y
      rw [List.getElem?_set_self hi] at z
      cases z
      refine ⟨p, ws, c, a2, a3, c4, a5, c6, fun j2 es2 n2 e2 => ?_, fun j2 es2 q2 e2 d2 => ?_⟩
      · rw [List.getElem?_set_ne (Ne.symm n2)] at e2
        exact c7 j2 es2 n2 e2
      · obtain ⟨_, e2⟩ := ow_set (by intro z; cases z) e2
        exact c8 j2 es2 q2 e2 d2
    · rw [List.getElem?_set_ne y] at z
      exact (c7 j es (Ne.symm y) z).elim
/-- a lent list is looked at -/
theorem RSG.seeLn {i : Nat} {ds : List D} (h : RSG K S He Ge G σ H env) (q : env[i]? = some (.ln ds)) : ∃ p vs, S = some (.lst p) ∧ σ[i]? = some (some (.ref p)) ∧ H p = some (.lst vs) ∧ DpAll K G vs ds ∧ G p = none ∧ RSG K S He Ge (L2.upd G p (.lst vs)) σ H (env.set i (.fr (.list ds))) := by
  obtain ⟨p, vs, c1, c2, c3, c4, c5, c6, c7, c8⟩ := h.l i ds q
  have hi : i < env.length := by
    rcases Nat.lt_or_ge i env.length with z | z
    · exact z
    · rw [List.getElem?_eq_none z] at q; cases q
  have s1 : Same G (L2.upd G p (.lst vs)) := Same.upd c5
  refine ⟨p, vs, c6, c1, c2, c3, c5, ⟨h.x.a, h.x.b.trans s1, fun b o e => ?_, fun b o e n => ?_⟩, ⟨by rw [List.length_set]; exact h.e.len, fun j d e => ?_⟩, fun j es e => ?_, fun j b k fs e => ?_, fun p2 dx k e => ?_, fun j es e => ?_⟩
  · by_cases z : b = p
    · subst z; rw [upd_same] at e; cases e; exact c2
    · rw [upd_ne z] at e; exact h.x.c b o e
  · rw [upd_ne (ne_of_none e c4)]; exact h.x.d b o e n
  · by_cases z : i = j
    · subst z
      rw [List.getElem?_set_self hi] at e
      cases e
      exact ⟨.ref p, c1, .lst (SqL.of upd_same) (dpAll_mono s1 c3)⟩
    · rw [List.getElem?_set_ne z] at e
      obtain ⟨v, b1, b2⟩ := h.e.get j d e
      exact ⟨v, b1, dp_mono s1 b2⟩
  · obtain ⟨_, e⟩ := ow_set (by intro z; cases z) e
    obtain ⟨p2, vs2, b1, b2, b3, b4, b5, b6⟩ := h.o j es e
    have hp : p2 ≠ p := c8 j es p2 e b1
    refine ⟨p2, vs2, b1, b2, dpAll_mono s1 b3, b4, by rw [upd_ne hp]; exact b5, fun j2 es2 q2 n2 e2 d2 => ?_⟩
    obtain ⟨_, e2⟩ := ow_set (by intro z; cases z) e2
    exact b6 j2 es2 q2 n2 e2 d2
  · obtain ⟨_, e⟩ := ob_set (by intro z; cases z) e
    obtain ⟨p2, dx, vs2, b1, b2, b3, b4, b5, b7, b6⟩ := h.b j b k fs e
    have hp : p2 ≠ p := ne_kind b2 c2
    refine ⟨p2, dx, vs2, b1, b2, dpAll_mono s1 b3, b4, by rw [upd_ne hp]; exact b5, b7, fun j2 bb k2 gs q2 n2 e2 d2 => ?_⟩
    obtain ⟨_, e2⟩ := ob_set (by intro z; cases z) e2
    exact b6 j2 bb k2 gs q2 n2 e2 d2
  · rw [c6] at e
    cases e
  · obtain ⟨nz, e⟩ := ln_set (by intro z; cases z) e
    exact (c7 j es (Ne.symm nz) e).elim
/-! while an expression runs objects stand still -/
def isIns : Option HO → Bool
  | some (.ins _ _ _) => true
  | _ => false
theorem isIns_of {o : Option HO} (h : isIns o = true) : ∃ C dx fs, o = some (.ins C dx fs) := by
  unfold isIns at h
  split at h
  · exact ⟨_, _, _, rfl⟩
  · cases h
def frzH (G H : Hp) : Hp := fun b => match G b with
  | some o => some o
  | none => if isIns (H b) = true then H b else none
def thwH (G H G1 : Hp) : Hp := fun b => if G b = none ∧ isIns (H b) = true then none else G1 b
theorem thw_some {G H G1 : Hp} {b : Addr} {o : HO} (h : thwH G H G1 b = some o) : G1 b = some o := by
  unfold thwH at h
  split at h
  · cases h
  · exact h
structure Frz (K : PySem.W.Frag) (G H G2 : Hp) : Prop where
  s : Same G G2
  t : Same G2 H
  th : ∀ H1 G1, Ext H G2 H1 G1 → ∃ G3, Ext H G H1 G3 ∧ SameD G1 G3 ∧ Same G3 G1
theorem frz_of {G H : Hp} (s : Same G H) : Frz K G H (frzH G H) := by
  have s1 : Same G (frzH G H) := fun b o h => by unfold frzH; rw [h]
  have s2 : Same (frzH G H) H := fun b o h => by
    unfold frzH at h
    cases q : G b with
    | some o2 => rw [q] at h; cases h; exact s b o q
    | none =>
      rw [q] at h
      dsimp only at h
      split at h
      · exact h
      · cases h
  refine ⟨s1, s2, fun H1 G1 e => ⟨thwH G H G1, ⟨e.a, fun b o h => ?_, fun b o h => e.c b o (thw_some h), fun b o h n => ?_⟩, fun b o h ni => ?_, fun b o h => thw_some h⟩⟩
  · unfold thwH
    rw [if_neg (by rw [h]; exact fun z => by cases z.1)]
    exact e.b b o (s1 b o h)
  · unfold thwH
    by_cases c : isIns (H b) = true
    · rw [if_pos ⟨n, c⟩]
    · rw [if_neg fun z => c z.2]
      refine e.d b o h ?_
      unfold frzH
      rw [n]
      exact if_neg c
  · unfold thwH
    by_cases c : G b = none ∧ isIns (H b) = true
    · exfalso
      obtain ⟨c1, c2⟩ := c
      have z : frzH G H b = H b := by
        unfold frzH
        rw [c1]
        exact if_pos c2
      obtain ⟨C, dx, fs, c3⟩ := isIns_of c2
      have y := e.b b _ (z.trans c3)
      rw [h] at y
      cases y
      cases ni
    · rw [if_neg c]; exact h
theorem RSG.frz (h : RSG K S He Ge G σ H env) : ∃ G2, Frz K G H G2 ∧ EnvR K G2 σ env := by
  refine ⟨frzH G H, frz_of h.x.c, h.e.mono (frz_of (K := K) h.x.c).s, fun i b k fs q => ?_⟩
  obtain ⟨p, dx, vs, a1, a2, a3, a4, a5, _⟩ := h.b i b k fs q
  refine ⟨p, dx, vs, a1, ?_, dpAll_mono (frz_of (K := K) h.x.c).s a3⟩
  unfold frzH
  rw [a5]
  dsimp only
  rw [if_pos (by rw [a2]; rfl), a2]
theorem Rs.frz {B : Str → Hp → Prop} {Q : VK} {r : R D} {G2 : Hp} (f : Frz K G H G2) (h : Rs K B H G Q r) : Rs K B H G2 Q r := by
  cases r with
  | ok d =>
    intro v H1 G1 e p
    obtain ⟨G3, e3, s3, _⟩ := f.th H1 G1 e
    exact h v H1 G3 e3 (dp_monoD s3 p)
  | exc c =>
    intro H1 G1 e
    obtain ⟨G3, e3, _⟩ := f.th H1 G1 e
    exact h H1 G3 e3
  | bad => exact h
theorem RsA.frz {B : Str → Hp → Prop} {Q : List V → Hp → Prop} {r : R (List D)} {G2 : Hp} (f : Frz K G H G2) (h : RsA K B H G Q r) : RsA K B H G2 Q r := by
  cases r with
  | ok d =>
    intro v H1 G1 e p
    obtain ⟨G3, e3, s3, _⟩ := f.th H1 G1 e
    exact h v H1 G3 e3 (dpAll_monoD s3 p)
  | exc c =>
    intro H1 G1 e
    obtain ⟨G3, e3, _⟩ := f.th H1 G1 e
    exact h H1 G3 e3
  | bad => exact h
theorem RsT.frz {B : Str → Hp → Prop} {Q : Bool → Hp → Prop} {r : R D} {G2 : Hp} (f : Frz K G H G2) (h : RsT B H G Q r) : RsT B H G2 Q r := by
  cases r with
  | ok d =>
    cases d with
    | bool b =>
      intro H1 G1 e
      obtain ⟨G3, e3, _⟩ := f.th H1 G1 e
      exact h H1 G3 e3
    | _ => exact h
  | exc c =>
    intro H1 G1 e
    obtain ⟨G3, e3, _⟩ := f.th H1 G1 e
    exact h H1 G3 e3
  | bad => exact h
theorem RsL.frz {B : Str → Hp → Prop} {Q : VK} {r : R D} {G2 : Hp} (f : Frz K G H G2) (h : RsL K B H G Q r) : RsL K B H G2 Q r := by
  cases r with
  | ok d =>
    cases d with
    | list ds =>
      intro p vs H1 G1 e h1 h2 h3 h4
      obtain ⟨G3, e3, s3, s4⟩ := f.th H1 G1 e
      refine h p vs H1 G3 e3 h1 ?_ h3 (dpAll_monoD s3 h4)
      cases z : G3 p with
      | none => rfl
      | some o => rw [s4 p o z] at h2; cases h2
    | _ => exact h
  | exc c =>
    intro H1 G1 e
    obtain ⟨G3, e3, _⟩ := f.th H1 G1 e
    exact h H1 G3 e3
  | bad => exact h
theorem RsI.frz {B : Str → Hp → Prop} {Q : L2.It → Hp → Prop} {r : R (List D)} {G2 : Hp} (f : Frz K G H G2) (h : RsI K B H G Q r) : RsI K B H G2 Q r := by
  cases r with
  | ok d =>
    intro J H1 G1 e w
    obtain ⟨G3, e3, s3, s4⟩ := f.th H1 G1 e
    exact h J H1 G3 e3 (w.back s3 s4)
  | exc c =>
    intro H1 G1 e
    obtain ⟨G3, e3, _⟩ := f.th H1 G1 e
    exact h H1 G3 e3
  | bad => exact h
theorem RSG.rd {Q : VK} {r : List Sl → R D} (h : RSG K S He Ge G σ H env) (m : Rs K (BX ca W σ) H G Q (r env)) : rdE K ca W r σ H Q := by
  obtain ⟨G2, f, e⟩ := h.frz
  exact ⟨env, G2, f.t, e, m.frz f⟩
theorem RSG.rdA {Q : List V → Hp → Prop} {r : List Sl → R (List D)} (h : RSG K S He Ge G σ H env) (m : RsA K (BX ca W σ) H G Q (r env)) : rdA K ca W r σ H Q := by
  obtain ⟨G2, f, e⟩ := h.frz
  exact ⟨env, G2, f.t, e, m.frz f⟩
theorem RSG.rdT {Q : Bool → Hp → Prop} {r : List Sl → R D} (h : RSG K S He Ge G σ H env) (m : RsT (BX ca W σ) H G Q (r env)) : rdT K ca W r σ H Q := by
  obtain ⟨G2, f, e⟩ := h.frz
  exact ⟨env, G2, f.t, e, m.frz f⟩
theorem RSG.rdL {Q : VK} {r : List Sl → R D} (h : RSG K S He Ge G σ H env) (m : RsL K (BX ca W σ) H G Q (r env)) : rdL K ca W r σ H Q := by
  obtain ⟨G2, f, e⟩ := h.frz
  exact ⟨env, G2, f.t, e, m.frz f⟩
theorem RSG.rdI {Q : L2.It → Hp → Prop} {r : List Sl → R (List D)} (h : RSG K S He Ge G σ H env) (m : RsI K (BX ca W σ) H G Q (r env)) : rdI K ca W r σ H Q := by
  obtain ⟨G2, f, e⟩ := h.frz
  exact ⟨env, G2, f.t, e, m.frz f⟩

/-! ### what is wanted behind a statement that ends so -/
/-- the answer of a def; of a def with something lent, what is left of that, too -/
def RetS (K : PySem.W.Frag) (S : Option Bor) (He Ge : Hp) (Dn : Ends) (d : D) : Prop := match S with
  | none => ∀ v H G, Ext He Ge H G → Dp K G v d → Dn.rt v H
  | some (.ins p dx k) => ∃ d0 fs, d = .tuple [d0, .tuple fs] ∧ ∀ v H G ws, Ext He Ge H G → H p = some (insO K k dx ws) → DpAll K G ws fs → G p = none → Dp K G v d0 → Dn.rt v H
  | some (.lst p) => ∃ d0 es, d = .tuple [d0, .list es] ∧ ∀ v H G ws, Ext He Ge H G → H p = some (.lst ws) → DpAll K G ws es → G p = none → Dp K G v d0 → Dn.rt v H
def OutS (K : PySem.W.Frag) (ca : Str → Value) (W : WX) (S : Option Bor) (He Ge : Hp) (D : Ends) : Out → Prop
  | .next e => ∀ σ H G, RSG K S He Ge G σ H e → D.nx σ H
  | .ret d => RetS K S He Ge D d
  | .brk e => ∀ σ H G, RSG K S He Ge G σ H e → D.bk σ H
  | .cont e => ∀ σ H G, RSG K S He Ge G σ H e → D.ct σ H
  | .exc c e => ∀ σ H G, RSG K S He Ge G σ H e → W (ca c) none σ H
  | .bad => False
def rdS (K : PySem.W.Frag) (ca : Str → Value) (W : WX) (me : Bool) (r : List Sl → Out) : TS := fun D σ H => ∃ S He Ge G env, S.isSome = me ∧ RSG K S He Ge G σ H env ∧ OutS K ca W S He Ge D (r env)
theorem OutS.wid {D : Ends} {o : Out} (a : Ext He Ge H G) (h : OutS K ca W S He Ge D o) : OutS K ca W S He G D o := by
  cases o with
  | next e => exact fun σ H1 G1 r => h σ H1 G1 (r.wid a)
  | ret d =>
    cases S with
    | none => exact fun v H1 G1 r p => h v H1 G1 (a.wid r) p
    | some z =>
      cases z with
      | lst q =>
        obtain ⟨d0, es, e, n⟩ := h
        exact ⟨d0, es, e, fun v H1 G1 ws r h1 h2 h3 h4 => n v H1 G1 ws (a.wid r) h1 h2 h3 h4⟩
      | ins p dx k =>
        obtain ⟨d0, fs, e, n⟩ := h
        exact ⟨d0, fs, e, fun v H1 G1 ws r h1 h2 h3 h4 => n v H1 G1 ws (a.wid r) h1 h2 h3 h4⟩
  | brk e => exact fun σ H1 G1 r => h σ H1 G1 (r.wid a)
  | cont e => exact fun σ H1 G1 r => h σ H1 G1 (r.wid a)
  | exc c e => exact fun σ H1 G1 r => h σ H1 G1 (r.wid a)
  | bad => exact h

/-- an expression ahead -/
theorem on_ok {Dn : Ends} {r : R D} {f : D → Out} {N : V → Hp → Prop} (h : OutS K ca W S He Ge Dn (onR env r f)) (R0 : RSG K S He Ge G σ H env) (s : Same G G')
    (n : ∀ d v H1 G1, r = .ok d → Ext H G' H1 G1 → Dp K G1 v d → OutS K ca W S He Ge Dn (f d) → N v H1) : Rs K (BX ca W σ) H G' N r := by
  cases r with
  | ok d => exact fun v H1 G1 e p => n d v H1 G1 rfl e p h
  | exc c => exact fun H1 G1 e => h σ H1 G (R0.back s e)
  | bad => exact h
theorem on_okL {Dn : Ends} {r : R D} {f : D → Out} {N : VK} (h : OutS K ca W S He Ge Dn (onR env r f)) (R0 : RSG K S He Ge G σ H env) (s : Same G G') (hl : ∀ d, r = .ok d → ∃ l, d = .list l)
    (n : ∀ ds p vs H1 G1, r = .ok (.list ds) → Ext H G' H1 G1 → H p = none → G1 p = none → H1 p = some (.lst vs) → DpAll K G1 vs ds → OutS K ca W S He Ge Dn (f (.list ds)) → N (.ref p) H1) : RsL K (BX ca W σ) H G' N r := by
  cases r with
  | ok d =>
    obtain ⟨l, rfl⟩ := hl d rfl
    exact fun p vs H1 G1 e h1 h2 h3 h4 => n l p vs H1 G1 rfl e h1 h2 h3 h4 h
  | exc c => exact fun H1 G1 e => h σ H1 G (R0.back s e)
  | bad => exact h
theorem on_okT {Dn : Ends} {r : R D} {f : Bool → Out} {N : Bool → Hp → Prop} (h : OutS K ca W S He Ge Dn (onR env (toB r) f)) (R0 : RSG K S He Ge G σ H env) (s : Same G G')
    (n : ∀ b H1 G1, r = .ok (.bool b) → Ext H G' H1 G1 → OutS K ca W S He Ge Dn (f b) → N b H1) : RsT (BX ca W σ) H G' N r := by
  cases r with
  | ok d => cases d with
    | bool b => exact fun H1 G1 e => n b H1 G1 rfl e h
    | _ => exact h
  | exc c => exact fun H1 G1 e => h σ H1 G (R0.back s e)
  | bad => exact h
theorem flat_any {v : V} {d : D} {G G' : Hp} (h : Dp K G v d) (f : flatD d = true) : Dp K G' v d := by
  cases h with
  | non => exact .non
  | bl b => exact .bl b
  | int b => exact .int b
  | str b => exact .str b
  | _ => cases f

theorem PS.imp {X : Cx} {e : Stmt} {t t' : TS} (h : PS X e t) (i : ∀ D σ H, t' D σ H → t D σ H) : PS X e t' := ⟨fun pins s σ H Q I q => h.run pins s σ H Q I (i _ _ _ q)⟩
theorem PSs.imp {X : Cx} {e : List Stmt} {t t' : TS} (h : PSs X e t) (i : ∀ D σ H, t' D σ H → t D σ H) : PSs X e t' := ⟨fun pins s σ H Q I q => h.run pins s σ H Q I (i _ _ _ q)⟩

/-! ### targets over the whole state -/
theorem many_rs {Q : L2.St → Hp → Prop} : ∀ {l : List Nat} {ds : List D} {vs : List V} {σ : L2.St} {env e2 : List Sl}, RSG K S He Ge G σ H env → DpAll K G vs ds → setMany env l ds = .ok e2 → (∀ σ2, RSG K S He Ge G σ2 H e2 → Q σ2 H) → gMany l vs σ H Q
  | [], ds, vs, σ, env, e2, he, r, h, q => by
    cases r with
    | nil => cases h; exact ⟨rfl, q σ he⟩
    | cons _ _ => cases h
  | i :: l, ds, vs, σ, env, e2, he, r, h, q => by
    cases r with
    | nil => cases h
    | cons a b => exact ⟨_, _, rfl, many_rs (he.set a) b h q⟩
theorem setMany_len : ∀ {l : List Nat} {ds : List D} {env e2 : List Sl}, setMany env l ds = .ok e2 → ds.length = l.length
  | [], [], _, _, _ => rfl
  | [], _ :: _, _, _, h => by cases h
  | _ :: _, [], _, _, h => by cases h
  | i :: l, d :: ds, env, e2, h => by rw [List.length_cons, List.length_cons, setMany_len (l := l) (ds := ds) h]
theorem gT_rs {Q : L2.St → Hp → Prop} {t : Tg} {d : D} {v : V} {e2 : List Sl} (he : RSG K S He Ge G σ H env) (r : Dp K G v d) (h : setT env t d = .ok e2) (q : ∀ σ2, RSG K S He Ge G σ2 H e2 → Q σ2 H) : gT K t v σ H Q := by
  cases t with
  | one i => cases h; exact q _ (he.set r)
  | many l =>
    cases r with
    | tup q0 r0 => exact ⟨_, _, rfl, Same.seqT he.x.c q0, by rw [dpAll_len r0, setMany_len h], many_rs he r0 h q⟩
    | _ => cases h
end

/-! ### a def that tells an exception's word: its promise, of the exception that is handled -/
structure FnW (P : Program) (w : World) (K : PySem.W.Frag) (mg : Str → Option Value) (base : Heap) (CX : CXT) (k : Nat) (f : Addr) (fd : FuncData) (ps : List Str) (sp : Addr × Obj → Sp) : Prop where
  len : ∀ q vs H Q E, sp q vs H Q E → vs.length = ps.length
  go : ∀ (A : Around) (out : List Env) (s : Shared) (H : Hp) (args : Args) (us : List Value) (vs : List V) (Q : VK) (E : XK) (q : Addr × Obj), L2H.RoomH k A → L2H.Hot1 A q → L2H.PinOk out H s q → Env0 P w K mg base A out s H → BindsTo s fd args (ps.zip us) → Vals vs us → sp q vs H Q E →
    codeAny (model P w) A (.call (.ref f) args) (CR CX out P w H s Q E) s
/-- what is asked where more stands in the heap, too -/
def Grows (H H' : Hp) : Prop := ∀ p o, H p = some o → H' p = some o
def spW (ca : Str → Value) (k : Nat) : Addr × Obj → Sp := fun q vs H Q _ => ∃ c, vs = [.ref q.1] ∧ L2N.Zn (ca c) none q.2 ∧ (∃ vs, q.2.data = .fields vs) ∧ ∀ H', Grows H H' → Q (.str (wordT k c)) H'
end Cw

set_option Elab.async false
set_option linter.all false
set_option maxRecDepth 100000
set_option maxHeartbeats 4000000
namespace Cw
open PySem PySem.Spec PyProof.Rows L2

/-! ### what may change an object: the look -/
mutual
def chkM (g : Gm) : M → Lx → Expr → Bool
  | .e e, L, x => chkE g e L x
  | .mc i k f ms, L, x => (match x with
    | .Call (.Attribute (.Name y _) m ap) xs [] cp => decide (L.N[i]? = some y) && visB L y && decide (xs.length < 20) && (ap.endLine == cp.line) && g.clss.contains k && g.mths.contains (k, m, f) && !(clsF k).contains m && chkMs g ms L xs
    | _ => false)
  | .mk k f as h bs, L, x => (match x with
    | .Call (.Attribute (.Call (.Name y _) (xa :: xs) [] _) m ap) (xb :: ys) [] pos => decide (y = clsN k) && glB L y && g.clss.contains k && g.inis.contains (k, f) && g.mths.contains (k, m, h) && !(clsF k).contains m && chkEs g as L (xa :: xs) && chkEs g bs L (xb :: ys) && decide ((xb :: ys).length < 20) && (ap.endLine == pos.line)
    | _ => false)
  | .tup ms, L, x => (match x with
    | .Tuple xs _ _ => chkMs g ms L xs && decide (xs.length ≤ 1000)
    | _ => false)
  | .not m, L, x => (match x with
    | .UnaryOp .Not xa _ => chkM g m L xa
    | _ => false)
  | .and a b, L, x => (match x with
    | .BoolOp .And [xa, xb] _ => chkM g a L xa && chkM g b L xb
    | _ => false)
  | .cl i f a, L, x => (match x with
    | .Call (.Name y _) [xa, .Name z _] [] _ => glB L y && g.lfs.contains (y, f) && decide (L.N[i]? = some z) && visB L z && chkE g a L xa
    | _ => false)
  | .cmp o m e, L, x => (match x with
    | .Compare xa [op] [xb] _ => decide (op = cmOf o) && notSet xb && chkM g m L xa && chkE g e L xb
    | _ => false)
  | .ind m j, L, x => (match x with
    | .Compare xa [op] [.Name y _] _ => decide (op = .In) && glB L y && g.dvs.contains (y, j) && chkM g m L xa
    | _ => false)
def chkMs (g : Gm) : Ms → Lx → List Expr → Bool
  | .nil, _, x => x.isEmpty
  | .cons e es, L, x => (match x with
    | x :: xs => chkM g e L x && chkMs g es L xs
    | _ => false)
end

/-! ### readings -/
section
variable {S : Option Bor} {K : PySem.W.Frag} {ca : Str → Value} {W : WX} {X : Cx} {He Ge G G' H H1 G1 : Hp} {σ : L2.St} {env : List Sl}
def RsM {A B : Type} (K : PySem.W.Frag) (ca : Str → Value) (W : WX) (S : Option Bor) (He Ge : Hp) (σ : L2.St) (G : Hp) (P : Hp → B → A → Prop) (Q : B → Hp → Prop) : RM A → Prop
  | .ok d e => ∀ v H' G', RSG K S He Ge G' σ H' e → Same G G' → P G' v d → Q v H'
  | .exc c e => ∀ H' G', RSG K S He Ge G' σ H' e → W (ca c) none σ H'
  | .bad => False
/-- a truth -/
def TrB (_ : Hp) (b : Bool) (d : D) : Prop := d = .bool b
theorem RsM.step {A B : Type} {P : Hp → B → A → Prop} {Q : B → Hp → Prop} {r : RM A} (h : RsM K ca W S He Ge σ G P Q r) (s : Same G G') : RsM K ca W S He Ge σ G' P Q r := by
  cases r with
  | ok d e => exact fun v H2 G2 r s2 p => h v H2 G2 r (s.trans s2) p
  | exc c e => exact h
  | bad => exact h
theorem RsM.bind {A B A' B' : Type} {P : Hp → B → A → Prop} {P' : Hp → B' → A' → Prop} {Q : B → Hp → Prop} {N : B' → Hp → Prop} {r : RM A'} {f : A' → List Sl → RM A} (h : RsM K ca W S He Ge σ G P Q (r.bind f))
    (n : ∀ d e v H' G', r = .ok d e → RSG K S He Ge G' σ H' e → Same G G' → P' G' v d → RsM K ca W S He Ge σ G' P Q (f d e) → N v H') : RsM K ca W S He Ge σ G P' N r := by
  cases r with
  | ok d e => exact fun v H' G' r s p => n d e v H' G' rfl r s p (RsM.step h s)
  | exc c e => exact h
  | bad => exact h
def rdM (K : PySem.W.Frag) (ca : Str → Value) (W : WX) (r : List Sl → RM D) : TE := fun σ H Q => ∃ S He Ge G env, RSG K S He Ge G σ H env ∧ RsM K ca W S He Ge σ G (Dp K) Q (r env)
def rdMs (K : PySem.W.Frag) (ca : Str → Value) (W : WX) (r : List Sl → RM (List D)) : TA := fun σ H Q => ∃ S He Ge G env, RSG K S He Ge G σ H env ∧ RsM K ca W S He Ge σ G (DpAll K) Q (r env)
def rdMT (K : PySem.W.Frag) (ca : Str → Value) (W : WX) (r : List Sl → RM D) : TT := fun σ H Q => ∃ S He Ge G env, RSG K S He Ge G σ H env ∧ RsM K ca W S He Ge σ G TrB Q (r env) ∧ ∀ d e, r env = .ok d e → ∃ b, d = .bool b
structure BothM (X : Cx) (ca : Str → Value) (W : WX) (e : Expr) (r : List Sl → RM D) : Prop where
  pe : PE X e (rdM X.K ca W r)
  pt : PT X e (rdMT X.K ca W r)
theorem rdMT_val {r : List Sl → RM D} {H : Hp} {Q : Bool → Hp → Prop} (h : rdMT K ca W r σ H Q) : rdM K ca W r σ H fun x H1 => ∃ c, x = .bl c ∧ Q c H1 := by
  obtain ⟨S, He, Ge, G, env, R, hm, hb⟩ := h
  refine ⟨S, He, Ge, G, env, R, ?_⟩
  cases ha : r env with
  | exc c e => rw [ha] at hm; exact hm
  | bad => rw [ha] at hm; exact hm
  | ok d e =>
    rw [ha] at hm
    obtain ⟨b, rfl⟩ := hb d e ha
    intro v H' G' R' s p
    cases p
    exact ⟨b, rfl, hm b H' G' R' s rfl⟩
theorem bothM_val {e : Expr} {r : List Sl → RM D} (h : PE X e (rdM X.K ca W r)) (he : ∀ whole, isTrue e X.env whole = (do let v ← whole; standAt e.pos; holding [v] (truthy v))) : BothM X ca W e r :=
  ⟨h, PT.imp (pt_val h he) fun _ _ _ q => rdMT_val q⟩
/-- a plain expression -/
theorem m_e {e : Expr} {r : List Sl → R D} (h : Both X ca W e r) : BothM X ca W e (fun env => liftM env (r env)) := by
  refine ⟨PE.imp h.pe fun σ H Q ⟨S, He, Ge, G, env, R, hm⟩ => R.rd ?_, PT.imp h.pt fun σ H Q ⟨S, He, Ge, G, env, R, hm, hb⟩ => R.rdT ?_⟩
  · dsimp only at hm ⊢
    cases ha : r env with
    | ok d => rw [ha] at hm; exact fun v H1 G1 e p => hm v H1 G1 (R.ext e) e.b p
    | exc c => rw [ha] at hm; exact fun H1 G1 e => hm H1 G1 (R.ext e)
    | bad => rw [ha] at hm; exact hm
  · dsimp only at hm hb ⊢
    cases ha : r env with
    | ok d =>
      rw [ha] at hm
      obtain ⟨b, rfl⟩ := hb d env (by rw [ha]; rfl)
      exact fun H1 G1 e => hm b H1 G1 (R.ext e) e.b rfl
    | exc c => rw [ha] at hm; exact fun H1 G1 e => hm H1 G1 (R.ext e)
    | bad => rw [ha] at hm; exact hm
/-- plain arguments -/
theorem m_es {es : List Expr} {r : List Sl → R (List D)} (h : PA X es (rdA X.K ca W r)) : PA X es (rdMs X.K ca W fun env => liftM env (r env)) :=
  PA.imp h fun σ H Q ⟨S, He, Ge, G, env, R, hm⟩ => R.rdA (by
    dsimp only at hm ⊢
    cases ha : r env with
    | ok d => rw [ha] at hm; exact fun v H1 G1 e p => hm v H1 G1 (R.ext e) e.b p
    | exc c => rw [ha] at hm; exact fun H1 G1 e => hm H1 G1 (R.ext e)
    | bad => rw [ha] at hm; exact hm)
theorem m_nil : PA X [] (rdMs X.K ca W fun env => .ok [] env) := PA.imp pa_nil fun σ H Q ⟨S, He, Ge, G, env, R, hm⟩ => hm [] H G R (Same.refl _) .nil
theorem m_cons {e : Expr} {es : List Expr} {ra : List Sl → RM D} {rb : List Sl → RM (List D)} (n : notStar e = true) (ha : PE X e (rdM X.K ca W ra)) (hb : PA X es (rdMs X.K ca W rb)) :
    PA X (e :: es) (rdMs X.K ca W fun env => (ra env).bind fun d e => (rb e).bind fun ds e => .ok (d :: ds) e) :=
  PA.imp (pa_cons ha hb (star_cons n)) fun σ H Q ⟨S, He, Ge, G, env, R, hm⟩ => ⟨S, He, Ge, G, env, R, RsM.bind hm fun d e v H1 G1 _ R1 s1 p1 hm1 =>
    ⟨S, He, Ge, G1, e, R1, RsM.bind hm1 fun ds e2 vs H2 G2 _ R2 s2 p2 hm2 => hm2 (v :: vs) H2 G2 R2 (Same.refl _) (.cons (dp_mono s2 p1) p2)⟩⟩
theorem RSG.newT {p : Addr} {vs : List V} (h : RSG K S He Ge G σ H env) (hp : H p = none) : RSG K S He Ge (L2.upd G p (.tup vs)) σ (L2.upd H p (.tup vs)) env := h.ext (Ext.new h.x.c hp)
theorem m_tup {es : List Expr} {k : Nat} {pos : Pos} {r : List Sl → RM (List D)} (h : PA X es (rdMs X.K ca W r)) (hl : es.length ≤ 1000) (hn : ∀ env ds e, r env = .ok ds e → ds.length = es.length) :
    PE X (.Tuple es k pos) (rdM X.K ca W fun env => (r env).bind fun ds e => .ok (.tuple ds) e) :=
  PE.imp (pe_tup h) fun σ H Q ⟨S, He, Ge, G, env, R, hm⟩ => ⟨S, He, Ge, G, env, R, RsM.bind hm fun ds e vs H1 G1 er R1 s1 p hm1 => by
    refine ⟨by rw [dpAll_len p, hn env ds e er, sizeLine_eq]; omega, fun q hq => ?_⟩
    exact hm1 (.ref q) _ _ (R1.newT hq) (Same.upd (R1.x.c.free hq)) (.tup (SqT.of upd_same) (dpAll_mono (Same.upd (R1.x.c.free hq)) p))⟩
theorem m_not {a : Expr} {pos : Pos} {ra : List Sl → RM D} (ha : BothM X ca W a ra) : BothM X ca W (.UnaryOp .Not a pos) (fun env => (ra env).bind fun d e => match d with | .bool b => .ok (.bool (!b)) e | _ => .bad) := by
  refine ⟨PE.imp (pe_not ha.pe) fun σ H Q ⟨S, He, Ge, G, env, R, hm⟩ => ⟨S, He, Ge, G, env, R, RsM.bind hm fun d e v H1 G1 _ R1 s1 p hm1 => ?_⟩, PT.imp (pt_not ha.pt) fun σ H Q ⟨S, He, Ge, G, env, R, hm, hb⟩ => ⟨S, He, Ge, G, env, R, RsM.bind hm fun d e v H1 G1 _ R1 s1 p hm1 => ?_, fun d e q => ?_⟩⟩
  · cases p with
    | bl i => exact ⟨i, rfl, hm1 (.bl _) H1 G1 R1 (Same.refl _) (.bl _)⟩
    | _ => exact hm1.elim
  · cases p
    exact hm1 _ H1 G1 R1 (Same.refl _) rfl
  · cases d with
    | bool b => exact ⟨b, rfl⟩
    | _ =>
      dsimp only at hm
      rw [q] at hm
      exact hm.elim
theorem m_and {a b : Expr} {pos : Pos} {ra rb : List Sl → RM D} (ha : BothM X ca W a ra) (hb : BothM X ca W b rb) :
    BothM X ca W (.BoolOp .And [a, b] pos) (fun env => (ra env).bind fun d e => match d with | .bool true => rb e | .bool false => .ok (.bool false) e | _ => .bad) := by
  refine ⟨PE.imp (pe_and ha.pe (pe_one hb.pe)) fun σ H Q ⟨S, He, Ge, G, env, R, hm⟩ => ⟨S, He, Ge, G, env, R, RsM.bind hm fun d e v H1 G1 _ R1 s1 p hm1 => ?_⟩, PT.imp (PW.pt (pw_and ha.pt (pw_and1 hb.pt))) fun σ H Q ⟨S, He, Ge, G, env, R, hm, hbb⟩ => ⟨S, He, Ge, G, env, R, RsM.bind hm fun d e v H1 G1 er R1 s1 p hm1 => ?_, fun d e q => ?_⟩⟩
  · cases p with
    | bl i =>
      refine ⟨i, rfl, ?_⟩
      cases i with
      | true => rw [if_pos rfl]; exact ⟨S, He, Ge, G1, e, R1, hm1⟩
      | false => rw [if_neg Bool.false_ne_true]; exact hm1 (.bl _) H1 G1 R1 (Same.refl _) (.bl _)
    | _ => exact hm1.elim
  · cases p
    cases v with
    | true =>
      rw [if_pos rfl]
      refine ⟨S, He, Ge, G1, e, R1, hm1, fun d2 e2 q2 => ?_⟩
      refine hbb d2 e2 ?_
      show (ra env).bind _ = _
      rw [er]
      exact q2
    | false => rw [if_neg Bool.false_ne_true]; exact hm1 _ H1 G1 R1 (Same.refl _) rfl
  · cases d with
    | bool b => exact ⟨b, rfl⟩
    | _ =>
      dsimp only at hm
      rw [q] at hm
      exact hm.elim

theorem RsM.lift {Q : VK} {r : R D} {e : List Sl} (R : RSG K S He Ge G σ H e) (h : RsM K ca W S He Ge σ G (Dp K) Q (liftM e r)) : Rs K (BX ca W σ) H G Q r := by
  cases r with
  | ok d => exact fun v H1 G1 x p => h v H1 G1 (R.ext x) x.b p
  | exc c => exact fun H1 G1 x => h H1 G1 (R.ext x)
  | bad => exact h
theorem RsM.liftB {Q : VK} {N : V → Hp → Prop} {r : R D} {f : D → R D} {e : List Sl} (R : RSG K S He Ge G σ H e) (h : RsM K ca W S He Ge σ G (Dp K) Q ((liftM e r).bind fun y e2 => liftM e2 (f y)))
    (n : ∀ y u H1 G1, Ext H G H1 G1 → Dp K G1 u y → Rs K (BX ca W σ) H1 G1 Q (f y) → N u H1) : Rs K (BX ca W σ) H G N r := by
  cases r with
  | ok d => exact fun v H1 G1 x p => n d v H1 G1 x p (RsM.lift (R.ext x) (RsM.step h x.b))
  | exc c => exact fun H1 G1 x => h H1 G1 (R.ext x)
  | bad => exact h
theorem m_cmp {a b : Expr} {o : Cm} {pos : Pos} {ra : List Sl → RM D} {rb : List Sl → R D} (hu : X.A.units + 65 < cLine) (hm0 : behindInMarks (cmOf o) b = false) (ha : PE X a (rdM X.K ca W ra)) (hb : PE X b (rdE X.K ca W rb)) :
    BothM X ca W (.Compare a [cmOf o] [b] pos) (fun env => (ra env).bind fun d e2 => (liftM e2 (rb e2)).bind fun y e3 => liftM e3 (cmR o d y)) := by
  obtain ⟨r, h1, h2⟩ := rule_cm hu o
  refine ⟨PE.imp (pe_cmpR h1 ha hb hm0) fun σ H Q ⟨S, He, Ge, G, env, R, hm⟩ => ⟨S, He, Ge, G, env, R, RsM.bind hm fun d e v H1 G1 _ R1 s1 p1 hm1 => R1.rd (RsM.liftB R1 hm1 fun y u H2 G2 x hy hm2 => h2 _ _ _ _ _ _ _ _ x.c (dp_mono x.b p1) hy hm2)⟩, ?_⟩
  exact PT.imp (pt_cmpR h1 ha hb hm0) fun σ H Q h => by
    obtain ⟨S, He, Ge, G, env, R, hm⟩ := rdMT_val h
    exact ⟨S, He, Ge, G, env, R, RsM.bind hm fun d e v H1 G1 _ R1 s1 p1 hm1 => R1.rd (RsM.liftB R1 hm1 fun y u H2 G2 x hy hm2 => h2 _ _ _ _ _ _ _ _ x.c (dp_mono x.b p1) hy hm2)⟩
theorem m_ind {a : Expr} {x : Str} {j : Nat} {p pos : Pos} {ra : List Sl → RM D} (Dc : DctV X x j) (hg : Gl X x) (hd : (x == ("__debug__" : Str)) = false) (ha : PE X a (rdM X.K ca W ra)) :
    BothM X ca W (.Compare a [.In] [.Name x p] pos) (fun env => (ra env).bind fun d e2 => liftM e2 (indR j d)) := by
  obtain ⟨d, es, m, h1, h2, h3⟩ := Dc.ex
  have hb : PE X (.Name x p) (tC (.ref d)) := pe_glob hg h1 rfl hd
  have key : ∀ (B : Str → Hp → Prop) (H1 G1 : Hp) (y : D) (v : V) (Q : VK), Same G1 H1 → Dp X.K G1 v y → Rs X.K B H1 G1 Q (indR j y) → ∃ (z : Str) (r : Option Value), v = .str z ∧ (V.ref d : V) = .ref d ∧ PySem.W.nsIn X.K d z = some r ∧ Q (.bl r.isSome) H1 := by
    intro B H1 G1 y v Q s hx hm
    cases hx with
    | str z =>
      obtain ⟨r, r1, r2, _⟩ := h3 z
      exact ⟨z, r, rfl, rfl, r1, by rw [r2]; exact Rs.now hm s (.bl _)⟩
    | _ => exact hm.elim
  refine ⟨PE.imp (pe_cmpR (op_in_kd h2) ha hb rfl) fun σ H Q ⟨S, He, Ge, G, env, R, hm⟩ => ⟨S, He, Ge, G, env, R, RsM.bind hm fun y e v H1 G1 _ R1 s1 p1 hm1 => key _ _ _ _ _ _ R1.x.c p1 (RsM.lift R1 hm1)⟩, ?_⟩
  exact PT.imp (pt_cmpR (op_in_kd h2) ha hb rfl) fun σ H Q h => by
    obtain ⟨S, He, Ge, G, env, R, hm⟩ := rdMT_val h
    exact ⟨S, He, Ge, G, env, R, RsM.bind hm fun y e v H1 G1 _ R1 s1 p1 hm1 => key _ _ _ _ _ _ R1.x.c p1 (RsM.lift R1 hm1)⟩

/-! ### methods -/
theorem zip_none {β : Type} : ∀ {l : List Str} {us : List β} {x : Str}, x ∉ l → (l.zip us).lookup x = none
  | [], us, x, _ => rfl
  | a :: l, [], x, _ => rfl
  | a :: l, v :: us, x, h => by
    have z : (x == a) = false := by
      cases q : (x == a) with
      | false => rfl
      | true => rw [eq_of_beq q] at h; exact (h List.mem_cons_self).elim
    rw [List.zip_cons_cons]
    simp only [List.lookup, z]
    exact zip_none fun y => h (List.mem_cons_of_mem _ y)
def tMethSD (C : Addr) (m : Str) (sp : Sp) (E : L2.St → XK) (ta : TE) (t : TA) : TE := fun σ H Q => ta σ H fun x H1 => ∃ a dx fs, x = .ref a ∧ H1 a = some (.ins C dx fs) ∧ fs.lookup m = none ∧
  t σ H1 fun vs H2 => sp (x :: vs) H2 Q (E σ)
theorem pe_methSD {CX : CXT} {k : Nat} {C f : Addr} {fd : FuncData} {ps : List Str} {m : Str} {sp : Sp} {E : L2.St → XK} {o e1 : Expr} {es : List Expr} {ta : TE} {t : TA} {apos pos : Pos} {pl : Sem Bool} (he : PE X o ta) (c : Cls X.K C) (hm : Meth X.K C m f)
    (F : FnOk X.prog X.w X.K X.mg X.base CX k f fd ps sp) (hr : Room k X.A) (hb : Binds X.K fd ps []) (hx : ∀ σ, PassesAt CX X σ (E σ)) (ha : PA X (e1 :: es) t) (hn1 : notStar e1 = true) (hn : es.all notStar = true)
    (ht : eval (.Call (.Attribute o m apos) (e1 :: es) [] pos) X.env = (do
      let ov ← eval o X.env
      standAt apos.atName
      let (f, first) ← holding [ov] (getMethod ov m pl)
      callWith pos f first (backTo pos (starEach (e1 :: es) X.env)) (backToKw pos (keywordEach [] X.env)))) :
    PE X (.Call (.Attribute o m apos) (e1 :: es) [] pos) (tMethSD C m sp E ta t) := by
  refine ⟨fun pins s σ H Q I h => ?_⟩
  refine PySem.W.methodCall_KW (pl := pl) (thn (he.run pins s σ H _ I h) fun u s1 ⟨x, H1, I1, rx, a, dx, fs, ex, ea, l, q⟩ => ?_) ht
  subst ex
  obtain rfl : u = Value.ref a := rx
  refine getmeth_ok I1 ea c hm l ?_
  refine PySem.W.callWith_K (first := [.ref a]) (h₀ := X.base) I.ok.mod.kin hm.kp (thn (ha.run pos pins s1 σ H1 _ I1 q) fun us s2 ⟨vs, H2, I2, r, q2⟩ => ⟨I2.kIn, ?_⟩) (star_cons hn1) (star_none hn)
  exact run_fnS (us := .ref a :: us) (vs := .ref a :: vs) F hr hb (hx σ) I2 (.cons rfl r) q2
theorem pe_methSD0 {CX : CXT} {k : Nat} {C f : Addr} {fd : FuncData} {ps : List Str} {m : Str} {sp : Sp} {E : L2.St → XK} {o : Expr} {ta : TE} {apos pos : Pos} {pl : Sem Bool} (he : PE X o ta) (c : Cls X.K C) (hm : Meth X.K C m f)
    (F : FnOk X.prog X.w X.K X.mg X.base CX k f fd ps sp) (hr : Room k X.A) (hb : Binds X.K fd ps []) (hx : ∀ σ, PassesAt CX X σ (E σ))
    (ht : eval (.Call (.Attribute o m apos) [] [] pos) X.env = (do
      let ov ← eval o X.env
      standAt apos.atName
      let (f, first) ← holding [ov] (getMethod ov m pl)
      callWith pos f first (backTo pos (starEach [] X.env)) (backToKw pos (keywordEach [] X.env)))) :
    PE X (.Call (.Attribute o m apos) [] [] pos) (tMethSD C m sp E ta tNil) := by
  refine ⟨fun pins s σ H Q I h => ?_⟩
  refine PySem.W.methodCall_KW (pl := pl) (thn (he.run pins s σ H _ I h) fun u s1 ⟨x, H1, I1, rx, a, dx, fs, ex, ea, l, q⟩ => ?_) ht
  subst ex
  obtain rfl : u = Value.ref a := rx
  refine getmeth_ok I1 ea c hm l ?_
  exact PySem.W.callWith_K0 (first := [.ref a]) I1.kIn hm.kp (run_fnS (us := [.ref a]) (vs := [.ref a]) F hr hb (hx σ) I1 (.cons rfl .nil) q)
theorem hasO_some {env : List Sl} {i k : Nat} (h : hasO env i k = true) : ∃ b fs, env[i]? = some (.ob b k fs) := by
  unfold hasO at h
  split at h
  · rename_i b k' fs e
    rw [decide_eq_true_eq] at h
    subst h
    exact ⟨_, _, e⟩
  · cases h
/-- the method's own call -/
theorem call_rd {T : Nat → Option Def} {n i k f : Nat} {Q : VK} {e : List Sl} {ds : List D} {vs : List V} {x : V} (R : RSG K S He Ge G σ H e) (p : DpAll K G vs ds) (hx : σ[i]? = some (some x))
    (m : RsM K ca W S He Ge σ G (Dp K) Q (callM (evc T n) e i k f ds)) : spM T ca K n f k (x :: vs) H Q (WE W σ) := by
  unfold callM at m
  split at m
  · rename_i b k' fs q
    split at m
    · rename_i hk
      subst hk
      obtain ⟨p0, dx, ws, c1, c2, c3, c4, c5, c6, c7⟩ := R.b i b k' fs q
      rw [hx] at c1
      cases c1
      refine ⟨p0, dx, ws, fs, vs, ds, G, rfl, c2, c3, c5, R.x.c, p, ?_⟩
      cases er : metO (evc T n f (.tuple fs :: ds)) with
      | ok r =>
        rw [er] at m
        exact fun v H' G' ws' e1 h1 h2 h3 h4 => m v H' G' (R.obU q hx c2 e1 h1 h2 h3) e1.b h4
      | exc c =>
        rw [er] at m
        exact fun H' G' ws' e1 g1 => m H' G' (R.obX q hx c2 e1 g1)
      | bad => rw [er] at m; exact m
    · exact m.elim
  · exact m.elim
theorem star_few {env : Env} {pos : Pos} : ∀ {es : List Expr}, es.all notStar = true → (backTo pos (starEach es env)).all (fun x => !x.1) = true
  | [], _ => rfl
  | e :: es, h => by
    rw [List.all_cons, Bool.and_eq_true] at h
    have ih := star_few (env := env) (pos := pos) h.2
    rw [star_cons h.1]
    show (true && (backTo pos (starEach es env)).all (fun x => !x.1)) = true
    rw [ih]; rfl
theorem meth_form {env : Env} {o : Expr} {m : Str} {ap pos : Pos} {xs : List Expr} (hb : attributeBase o m env (eval o env) = eval o env) (hn : xs.all notStar = true) (hz : xs.length < 20) (hl : (ap.endLine == pos.line) = true) :
    eval (.Call (.Attribute o m ap) xs [] pos) env = (do
      let ov ← eval o env
      standAt ap.atName
      let (f, first) ← holding [ov] (getMethod ov m (do return (← importBound o env).getD true))
      callWith pos f first (backTo pos (starEach xs env)) (backToKw pos (keywordEach [] env))) := by
  have few : methodCallForm (xs.length + ([] : List Keyword).length) (backTo pos (starEach xs env)) (backToKw pos (keywordEach [] env)) = true := by
    unfold methodCallForm
    rw [star_few hn]
    show (true && true && decide (xs.length + 0 + 0 < 30)) = true
    rw [decide_eq_true (by omega)]
    rfl
  have e0 : eval (.Call (.Attribute o m ap) xs [] pos) env = (do
    let ov ← attributeBase o m env (eval o env)
    standAt ap.atName
    methodCall o m ap pos env ov (xs.length + ([] : List Keyword).length) (backTo pos (starEach xs env)) (backToKw pos (keywordEach [] env))) := rfl
  rw [e0, hb]
  unfold methodCall
  rw [few]
  unfold methodCallPos calleeOf
  rw [hl]
  rfl
theorem m_mc {T : Nat → Option Def} {n lv i k f : Nat} {f0 : Addr} {fd : FuncData} {ps : List Str} {y m : Str} {py ap pos : Pos} {xs : List Expr} {r : List Sl → RM (List D)} (c : Cls X.K (clsA X.K k)) (hm : Meth X.K (clsA X.K k) m f0) (hb : Binds X.K fd ps [])
    (F : FnOk X.prog X.w X.K X.mg X.base (L2N.CX X.prog X.w) lv f0 fd ps (spM T ca X.K n f k)) (hr : Room lv X.A) (tk : L2N.Takes X W) (nf : m ∉ clsF k) (hv : PE X (.Name y py) (tVar i)) (ha : PA X xs (rdMs X.K ca W r)) (hn : xs.all notStar = true) (hz : xs.length < 20) (hl : (ap.endLine == pos.line) = true) (h0 : xs = [] → ∀ env, r env = .ok [] env) :
    PE X (.Call (.Attribute (.Name y py) m ap) xs [] pos) (rdM X.K ca W fun env => if hasO env i k = true then (r env).bind fun ds e => callM (evc T n) e i k f ds else .bad) := by
  cases xs with
  | nil =>
    refine PE.imp (pe_methSD0 (E := WE W) hv c hm F hr hb (fun σ => L2N.passAt tk σ) (meth_form rfl hn hz hl)) fun σ H Q ⟨S, He, Ge, G, env, R, h⟩ => ?_
    dsimp only at h
    split at h
    · rename_i ho
      obtain ⟨b, fs, q⟩ := hasO_some ho
      obtain ⟨p0, dx, ws, c1, c2, c3, _⟩ := R.b i b k fs q
      rw [h0 rfl env] at h
      exact ⟨.ref p0, c1, p0, dx, _, rfl, c2, zip_none nf, call_rd R .nil c1 h⟩
    · exact h.elim
  | cons x xs =>
    have hn' := hn
    rw [List.all_cons, Bool.and_eq_true] at hn'
    refine PE.imp (pe_methSD (E := WE W) hv c hm F hr hb (fun σ => L2N.passAt tk σ) ha hn'.1 hn'.2 (meth_form rfl hn hz hl)) fun σ H Q ⟨S, He, Ge, G, env, R, h⟩ => ?_
    dsimp only at h
    split at h
    · rename_i ho
      obtain ⟨b, fs, q⟩ := hasO_some ho
      obtain ⟨p0, dx, ws, c1, c2, c3, _⟩ := R.b i b k fs q
      exact ⟨.ref p0, c1, p0, dx, _, rfl, c2, zip_none nf, S, He, Ge, G, env, R, RsM.bind h fun ds e vs H1 G1 _ R1 s1 p1 h1 => call_rd R1 p1 c1 h1⟩
    · exact h.elim
theorem callL_rd {T : Nat → Option Def} {n i f : Nat} {Q : VK} {e : List Sl} {d : D} {v x : V} (R : RSG K S He Ge G σ H e) (p : Dp K G v d) (hx : σ[i]? = some (some x))
    (m : RsM K ca W S He Ge σ G (Dp K) Q (callL (evc T n) e i f d)) : spL T K n f [v, x] H Q (WE W σ) := by
  unfold callL at m
  split at m
  · rename_i l q
    obtain ⟨p0, ws, c1, c2, c3, c4, c5, c6, c7, c8⟩ := R.l i l q
    rw [hx] at c1
    cases c1
    refine ⟨v, p0, ws, l, d, G, rfl, c2, c3, c5, R.x.c, p, ?_⟩
    cases er : metL (evc T n f [d, .list l]) with
    | ok r =>
      rw [er] at m
      exact fun v' H' G' ws' e1 h1 h2 h3 h4 => m v' H' G' (R.lnU q hx c2 e1 h1 h2 h3) e1.b h4
    | exc c => exact (metL_exc er).elim
    | bad => rw [er] at m; exact m.elim
  · exact m.elim
/-- a call with a lent list -/
theorem m_cl {T : Nat → Option Def} {n lv i f : Nat} {f0 : Addr} {fd : FuncData} {ps : List Str} {y z : Str} {yp zp pos : Pos} {xa : Expr} {r : List Sl → R D} (F : FnOk X.prog X.w X.K X.mg X.base (L2N.CX X.prog X.w) lv f0 fd ps (spL T X.K n f)) (hr : Room lv X.A) (hg : Gl X y) (hm : X.mg y = some (.ref f0)) (hk : PySem.W.keepIn X.K (.ref f0) = true) (hb : Binds X.K fd ps [])
    (tk : L2N.Takes X W) (hd : (y == ("__debug__" : Str)) = false) (ns : notStar xa = true) (ha : Both X ca W xa r) (hv : PE X (.Name z zp) (tVar i)) :
    PE X (.Call (.Name y yp) [xa, .Name z zp] [] pos) (rdM X.K ca W fun env => (liftM env (r env)).bind fun d e => callL (evc T n) e i f d) := by
  have hA : PA X [xa, .Name z zp] (tCons (rdM X.K ca W fun env => liftM env (r env)) (tCons (tVar i) tNil)) := pa_cons (m_e ha).pe (pa_cons hv pa_nil rfl) (star_cons ns)
  refine PE.imp (pe_callS (E := WE W) F hr hg hm hk hb (fun σ => L2N.passAt tk σ) hA hd (star_cons ns) (star_none rfl)) fun σ H Q ⟨S, He, Ge, G, env, R, h⟩ => ?_
  refine ⟨S, He, Ge, G, env, R, RsM.bind h fun d e v H1 G1 _ R1 s1 p1 h1 => ?_⟩
  have hl : ∃ l, e[i]? = some (.ln l) := by
    unfold callL at h1
    split at h1
    · rename_i l q; exact ⟨l, q⟩
    · exact h1.elim
  obtain ⟨l, q⟩ := hl
  obtain ⟨p0, ws, c1, _⟩ := R1.l i l q
  exact ⟨.ref p0, c1, callL_rd R1 p1 c1 h1⟩
/-! ### new objects -/
theorem Ext.made {p dx : Addr} {o o2 : HO} {G1 : Hp} (n1 : H p = none) (n2 : H dx = none) (e : Ext (del (upd (upd H dx o) p o2) p) G (del H1 p) G1) : Ext H G (del H1 p) G1 := by
  have k : ∀ (b : Addr) (u : HO), H b = some u → del (upd (upd H dx o) p o2) p b = some u := fun b u h => by
    have h1 : b ≠ p := ne_of_none h n1
    have h2 : b ≠ dx := ne_of_none h n2
    rw [del_ne h1, upd_ne h1, upd_ne h2]
    exact h
  exact ⟨fun b u h => e.a b u (k b u h), e.b, e.c, fun b u h n => e.d b u (k b u h) n⟩
theorem insO_nil {k : Nat} {dx : Addr} : insO K k dx [] = .ins (clsA K k) dx [] := by
  unfold insO
  rw [List.zip_nil_right]
theorem make_rd {T : Nat → Option Def} {n k f : Nat} {e : List Sl} {ds : List D} {vs : List V} {Q : Addr → Hp → Prop} (R : RSG K S He Ge G σ H e) (p : DpAll K G vs ds)
    (m : match metO (evc T n f (.tuple [] :: ds)) with
      | .ok (.none, fs) => ∀ x dx H' G' ws, H x = none → Ext H G (del H' x) G' → H' x = some (insO K k dx ws) → DpAll K G' ws fs → G' x = none → Q x H'
      | .exc c => ∀ H' G', RSG K S He Ge G' σ H' e → W (ca c) none σ H'
      | _ => False) (x dx : Addr) (h1 : H x = none) (h2 : H dx = none) (h3 : dx ≠ x) :
    spM T ca K n f k (.ref x :: vs) (upd (upd H dx (.own x)) x (.ins (clsA K k) dx [])) (fun v H2 => v = .non ∧ Q x H2) (WE W σ) := by
  have s : Same G (upd (upd H dx (.own x)) x (.ins (clsA K k) dx [])) := fun b u h => by
    have h := R.x.c b u h
    rw [upd_ne (ne_of_none h h1), upd_ne (ne_of_none h h2)]
    exact h
  refine ⟨x, dx, [], [], vs, ds, G, rfl, by rw [upd_same, insO_nil], .nil, R.x.c.free h1, s, p, ?_⟩
  cases er : metO (evc T n f (.tuple [] :: ds)) with
  | ok r =>
    rw [er] at m
    obtain ⟨d, fs⟩ := r
    cases d with
    | none =>
      exact fun v H' G' ws e1 g1 g2 g3 g4 => by
        cases g4
        exact ⟨rfl, m x dx H' G' ws h1 (Ext.made h1 h2 e1) g1 g2 g3⟩
    | _ => exact m.elim
  | exc c =>
    rw [er] at m
    exact fun H' G' ws e1 _ => m H' G' ((R.ext (Ext.made h1 h2 e1)).grow del_same)
  | bad => rw [er] at m; exact m.elim
def tMakeSD (C : Addr) (sp : Sp) (E : L2.St → XK) (t : TA) : TE := fun σ H Q => t σ H fun vs H1 => ∀ x dx, H1 x = none → H1 dx = none → dx ≠ x →
  sp (.ref x :: vs) (upd (upd H1 dx (.own x)) x (.ins C dx [])) (fun v H2 => v = .non ∧ Q (.ref x) H2) (E σ)
theorem run_makeSD {CX : CXT} {k : Nat} {C f : Addr} {fd : FuncData} {ps : List Str} {sp : Sp} {E : L2.St → XK} {pins : List (Addr × Obj)} {s : Shared} {Q : VK} {us : List Value} {vs : List V} (M : Mk X.K C f) (F : FnOk X.prog X.w X.K X.mg X.base CX k f fd ps sp) (hr : Room (k + 1) X.A) (hb : Binds X.K fd ps [])
    (hx : PassesAt CX X σ (E σ)) (I : Inv X pins σ H s) (r : Vals vs us)
    (h : ∀ x dx, H x = none → H dx = none → dx ≠ x → sp (.ref x :: vs) (upd (upd H dx (.own x)) x (.ins C dx [])) (fun v H2 => v = .non ∧ Q (.ref x) H2) (E σ)) :
    wpAny (model X.prog X.w) X.A (call (.ref C) us) (EP X pins σ Q) X.xe s := by
  have hq := h (s.heap.objs.size + 1) s.heap.objs.size (I.hok.fresh (Nat.le_succ _)) (I.hok.fresh (Nat.le_refl _)) (Nat.ne_of_lt (Nat.lt_succ_self _))
  have I2 := Inv.made (C := C) I
  have r2 : Vals (V.ref (s.heap.objs.size + 1) :: vs) (Value.ref (s.heap.objs.size + 1) :: us) := .cons rfl r
  have hl : (Value.ref (s.heap.objs.size + 1) :: us ++ []).length = ps.length := by
    have e := r2.length
    rw [F.len _ _ _ _ hq] at e
    rw [List.append_nil]
    exact e.symm
  have b := hb _ (Value.ref (s.heap.objs.size + 1) :: us) I2.kIn hl
  rw [List.append_nil] at b
  refine wpAny_call (make_map (f := f) I.kIn M.makes M.init (beq_iff_eq.mp M.fn) (codeAny_mono (F.run _ X.stack _ _ ⟨Value.ref (s.heap.objs.size + 1) :: us, []⟩ (Value.ref (s.heap.objs.size + 1) :: us) _ _ (E σ) (hr.make C us [])
    (I2.env0.make C us []) b r2 hq) fun r s' hq' => ?_))
  cases r with
  | error e => exact hx pins _ _ e s' I2 hq'
  | ok fl =>
    cases fl with
    | ret u =>
      obtain ⟨v, H', I3, rv, ev, q3⟩ := I2.after hq'
      subst ev
      exact ⟨rv, ⟨V.ref (s.heap.objs.size + 1), H', I3, rfl, q3⟩⟩
    | next => exact False.elim hq'
    | brk => exact False.elim hq'
    | cont => exact False.elim hq'
theorem pe_makeSD {CX : CXT} {k : Nat} {C f : Addr} {fd : FuncData} {ps : List Str} {sp : Sp} {E : L2.St → XK} {x : Str} {e : Expr} {es : List Expr} {t : TA} {p pos : Pos} (M : Mk X.K C f) (F : FnOk X.prog X.w X.K X.mg X.base CX k f fd ps sp) (hr : Room (k + 1) X.A) (hg : Gl X x) (hm : X.mg x = some (.ref C)) (hb : Binds X.K fd ps [])
    (hx : ∀ σ, PassesAt CX X σ (E σ)) (ha : PA X (e :: es) t) (hdb : (x == ("__debug__" : Str)) = false) (hn : (e :: es).all notStar = true) :
    PE X (.Call (.Name x p) (e :: es) [] pos) (tMakeSD C sp E t) := by
  rw [List.all_cons, Bool.and_eq_true] at hn
  refine ⟨fun pins s σ H Q I h => ?_⟩
  refine wpAny_Call_Name_kw (ld_glob I hg hm ?_ hdb)
  refine PySem.W.callWith_K (h₀ := X.base) I.ok.mod.kin M.kp (thn (ha.run pos pins s σ H _ I h) fun us s1 ⟨vs, H1, I1, r, q⟩ => ⟨I1.kIn, ?_⟩) (star_cons hn.1) (star_none hn.2)
  exact run_makeSD M F hr hb (hx σ) I1 r q
theorem Ext.delE {p : Addr} {G1 : Hp} (e : Ext H G H1 G1) (n : G1 p = none) : Ext (del H p) G (del H1 p) G1 :=
  ⟨fun b u h => by
    obtain ⟨h1, h2⟩ := del_some h
    rw [del_ne h1]; exact e.a b u h2, e.b, fun b u h => by rw [del_ne (ne_of_none h n)]; exact e.c b u h, fun b u h n2 => e.d b u (del_some h).2 n2⟩
/-- C(..).m(..) -/
theorem m_mk {T : Nat → Option Def} {n lv k f hh : Nat} {f0 f1 : Addr} {fd fd1 : FuncData} {ps ps1 : List Str} {y m : Str} {py cp ap pos : Pos} {xa : Expr} {xs : List Expr} {xb : Expr} {ys : List Expr} {ra rb : List Sl → R (List D)} (c : Cls X.K (clsA X.K k)) (M : Mk X.K (clsA X.K k) f0) (hb0 : Binds X.K fd ps [])
    (F0 : FnOk X.prog X.w X.K X.mg X.base (L2N.CX X.prog X.w) lv f0 fd ps (spM T ca X.K n f k)) (hr : Room (lv + 1) X.A) (hg : Gl X y) (hmg : X.mg y = some (.ref (clsA X.K k))) (hdb : (y == ("__debug__" : Str)) = false)
    (hm : Meth X.K (clsA X.K k) m f1) (hb : Binds X.K fd1 ps1 []) (F : FnOk X.prog X.w X.K X.mg X.base (L2N.CX X.prog X.w) lv f1 fd1 ps1 (spM T ca X.K n hh k)) (tk : L2N.Takes X W) (nf : m ∉ clsF k)
    (ha : PA X (xa :: xs) (rdA X.K ca W ra)) (hna : (xa :: xs).all notStar = true) (hbb : PA X (xb :: ys) (rdA X.K ca W rb)) (hnb : (xb :: ys).all notStar = true) (hz : (xb :: ys).length < 20) (hl : (ap.endLine == pos.line) = true) :
    PE X (.Call (.Attribute (.Call (.Name y py) (xa :: xs) [] cp) m ap) (xb :: ys) [] pos) (rdM X.K ca W fun env => (liftM env (ra env)).bind fun ds e => (makeM (evc T n) e f ds).bind fun fs e => (liftM e (rb e)).bind fun es e => onceM (evc T n) e hh fs es) := by
  have hnb' := hnb
  rw [List.all_cons, Bool.and_eq_true] at hnb'
  refine PE.imp (pe_methSD (E := WE W) (pe_makeSD (E := WE W) M F0 hr hg hmg hb0 (fun σ => L2N.passAt tk σ) (m_es ha) hdb hna) c hm F (hr.mono (by omega)) hb (fun σ => L2N.passAt tk σ) hbb hnb'.1 hnb'.2 (meth_form rfl hnb hz hl)) fun σ H Q ⟨S, He, Ge, G, env, R, h⟩ => ?_
  refine ⟨S, He, Ge, G, env, R, RsM.bind h fun ds e vs H1 G1 _ R1 s1 p1 h1 => ?_⟩
  refine make_rd R1 p1 (Q := fun x H2 => _) ?_
  unfold makeM at h1
  cases em : metO (evc T n f (.tuple [] :: ds)) with
  | bad => rw [em] at h1; exact h1.elim
  | exc cc => rw [em] at h1; exact h1
  | ok r =>
    rw [em] at h1
    obtain ⟨d, fs⟩ := r
    cases d with
    | none =>
      intro x dx H2 G2 ws n1 e1 g1 g2 g3
      refine ⟨x, dx, _, rfl, g1, zip_none nf, ?_⟩
      have R2d : RSG X.K S He Ge G2 σ (del H2 x) e := R1.ext e1
      have R2 : RSG X.K S He Ge G2 σ H2 e := R2d.grow del_same
      have h2 : RsM X.K ca W S He Ge σ G1 (Dp X.K) Q ((liftM e (rb e)).bind fun es e => onceM (evc T n) e hh fs es) := h1
      refine R2.rdA ?_
      cases eb : rb e with
      | bad => rw [eb] at h2; exact h2.elim
      | exc cc => rw [eb] at h2; exact fun H3 G3 e3 => h2 H3 G3 (R2.ext e3)
      | ok es =>
        rw [eb] at h2
        have h2 : RsM X.K ca W S He Ge σ G1 (Dp X.K) Q (onceM (evc T n) e hh fs es) := h2
        intro vs3 H3 G3 e3 p3
        have g5 : G3 x = none := e3.d x _ g1 g3
        have R3d : RSG X.K S He Ge G3 σ (del H3 x) e := R2d.ext (e3.delE g5)
        unfold onceM at h2
        refine ⟨x, dx, ws, fs, vs3, es, G3, rfl, e3.a x _ g1, dpAll_mono e3.b g2, g5, e3.c, p3, ?_⟩
        cases eo : metO (evc T n hh (.tuple fs :: es)) with
        | bad => rw [eo] at h2; exact h2.elim
        | exc cc => rw [eo] at h2; exact fun H4 G4 ws4 e4 _ => h2 H4 G4 ((R3d.ext e4).grow del_same)
        | ok r =>
          rw [eo] at h2
          exact fun v H4 G4 ws4 e4 k1 k2 k3 k4 => h2 v H4 G4 ((R3d.ext e4).grow del_same) (e1.b.trans (e3.b.trans e4.b)) k4
    | _ => exact h1.elim
end
/-! ### soundness -/
section
variable {T : Nat → Option Def} {g : Gm} {ca : Str → Value} {n : Nat}
theorem evMs_len {F : Nat → List D → R D} : ∀ {ms : Ms} {L : Lx} {xs : List Expr} {ds : List D} {env e : List Sl}, chkMs g ms L xs = true → evMs F env ms = .ok ds e → ds.length = xs.length
  | .nil, L, xs, ds, env, e, h, q => by
    unfold evMs at q
    cases q
    unfold chkMs at h
    cases xs with
    | nil => rfl
    | cons _ _ => cases h
  | .cons m ms, L, xs, ds, env, e, h, q => by
    unfold chkMs at h
    cases xs with
    | nil => cases h
    | cons x xs =>
      dsimp only at h
      rw [Bool.and_eq_true] at h
      unfold evMs at q
      cases e1 : evM F env m with
      | ok d e2 =>
        rw [e1] at q
        dsimp only [RM.bind] at q
        cases e3 : evMs F e2 ms with
        | ok l e4 =>
          rw [e3] at q
          cases q
          rw [List.length_cons, List.length_cons, evMs_len h.2 e3]
        | _ => rw [e3] at q; cases q
      | _ => rw [e1] at q; cases q
mutual
theorem sndM : ∀ (m : M) {X : Cx} {L : Lx} {W : WX} {x : Expr}, CxOk T g ca n L X → L2N.Takes X W → chkM g m L x = true → BothM X ca W x (fun env => evM (evc T n) env m) ∧ notStar x = true
  | .e e, X, L, W, x, C, tk, h => by
    unfold chkM at h
    simp only [evM]
    obtain ⟨a1, a2⟩ := sndE e C tk h
    exact ⟨m_e a1, a2⟩
  | .mc i k f ms, X, L, W, x, C, tk, h => by
    unfold chkM at h
    simp only [evM]
    split at h
    · rename_i y py m ap xs cp
      simp only [Bool.and_eq_true, decide_eq_true_eq, Bool.not_eq_true'] at h
      obtain ⟨⟨⟨⟨⟨⟨⟨h1, h2⟩, h3⟩, h4⟩, h5⟩, h6⟩, h7⟩, h8⟩ := h
      have hv := h2
      unfold visB at hv
      rw [Bool.and_eq_true] at hv
      have dd := dbg_of hv.2
      have Z := C.clss k (List.contains_iff_mem.mp h5)
      obtain ⟨f0, fd, ps, m1, m2, m3⟩ := C.mths k m f (List.contains_iff_mem.mp h6)
      obtain ⟨a1, a2⟩ := sndMs ms C tk h8
      refine ⟨bothM_val (m_mc Z.cls m1 m2 m3 (C.room.mono (by omega)) tk (fun z => by rw [List.contains_iff_mem.mpr z] at h7; cases h7) (pe_var (by rw [C.hN]; exact h1) (C.vis h2) dd.1 dd.2) a1 a2 h3 h4 fun e env => ?_) fun _ => rfl, rfl⟩
      subst e
      unfold chkMs at h8
      cases ms with
      | nil => simp only [evMs]
      | cons _ _ => cases h8
    · cases h
  | .mk k f as hh bs, X, L, W, x, C, tk, h => by
    unfold chkM at h
    simp only [evM]
    split at h
    · rename_i y py xa xs cp m ap xb ys pos
      simp only [Bool.and_eq_true, decide_eq_true_eq, Bool.not_eq_true'] at h
      obtain ⟨⟨⟨⟨⟨⟨⟨⟨⟨h1, h2⟩, h3⟩, h4⟩, h5⟩, h6⟩, h7⟩, h8⟩, h9⟩, h10⟩ := h
      subst h1
      have Z := C.clss k (List.contains_iff_mem.mp h3)
      obtain ⟨f0, fd, ps, m1, m2, m3⟩ := C.inis k f (List.contains_iff_mem.mp h4)
      obtain ⟨f1, fd1, ps1, n1, n2, n3⟩ := C.mths k m hh (List.contains_iff_mem.mp h5)
      obtain ⟨a1, a2⟩ := sndEs as C tk h7
      obtain ⟨b1, b2⟩ := sndEs bs C tk h8
      exact ⟨bothM_val (m_mk Z.cls m1 m2 m3 C.room (C.gl h2) Z.mg (glB_dbg h2) n1 n2 n3 tk (fun z => by rw [List.contains_iff_mem.mpr z] at h6; cases h6) a1 a2 b1 b2 h9 h10) fun _ => rfl, rfl⟩
    · cases h
  | .tup ms, X, L, W, x, C, tk, h => by
    unfold chkM at h
    simp only [evM]
    cases x with
    | Tuple xs k p =>
      dsimp only at h
      rw [Bool.and_eq_true, decide_eq_true_eq] at h
      obtain ⟨h1, h2⟩ := sndMs ms C tk h.1
      exact ⟨bothM_val (m_tup h1 h.2 fun env ds e q => evMs_len h.1 q) fun _ => rfl, rfl⟩
    | _ => cases h
  | .not m, X, L, W, x, C, tk, h => by
    unfold chkM at h
    simp only [evM]
    cases x with
    | UnaryOp op xa p => cases op with
      | Not => exact ⟨m_not (sndM m C tk h).1, rfl⟩
      | _ => cases h
    | _ => cases h
  | .and a b, X, L, W, x, C, tk, h => by
    unfold chkM at h
    simp only [evM]
    split at h
    · rw [Bool.and_eq_true] at h
      exact ⟨m_and (sndM a C tk h.1).1 (sndM b C tk h.2).1, rfl⟩
    · cases h
  | .cmp o m e, X, L, W, x, C, tk, h => by
    unfold chkM at h
    simp only [evM]
    split at h
    · simp only [Bool.and_eq_true, decide_eq_true_eq] at h
      obtain ⟨⟨⟨h0, hs⟩, h1⟩, h2⟩ := h
      subst h0
      exact ⟨m_cmp C.un (marks_of hs) (sndM m C tk h1).1.pe (sndE e C tk h2).1.pe, rfl⟩
    · cases h
  | .ind m j, X, L, W, x, C, tk, h => by
    unfold chkM at h
    simp only [evM]
    split at h
    · simp only [Bool.and_eq_true, decide_eq_true_eq] at h
      obtain ⟨⟨⟨h1, h2⟩, h3⟩, h4⟩ := h
      subst h1
      exact ⟨m_ind (C.dvs _ _ (List.contains_iff_mem.mp h3)) (C.gl h2) (glB_dbg h2) (sndM m C tk h4).1.pe, rfl⟩
    · cases h
  | .cl i f a, X, L, W, x, C, tk, h => by
    unfold chkM at h
    simp only [evM]
    split at h
    · rename_i y yp xa z zp pos
      simp only [Bool.and_eq_true, decide_eq_true_eq] at h
      obtain ⟨⟨⟨⟨h1, h2⟩, h3⟩, h4⟩, h5⟩ := h
      have hv := h4
      unfold visB at hv
      rw [Bool.and_eq_true] at hv
      have dd := dbg_of hv.2
      obtain ⟨f0, fd, ps, m1, m2, m3, m4⟩ := C.lfs _ _ (List.contains_iff_mem.mp h2)
      obtain ⟨a1, a2⟩ := sndE a C tk h5
      exact ⟨bothM_val (m_cl m4 (C.room.mono (by omega)) (C.gl h1) m1 m2 m3 tk (glB_dbg h1) a2 a1 (pe_var (by rw [C.hN]; exact h3) (C.vis h4) dd.1 dd.2)) fun _ => rfl, rfl⟩
    · cases h
theorem sndMs : ∀ (ms : Ms) {X : Cx} {L : Lx} {W : WX} {xs : List Expr}, CxOk T g ca n L X → L2N.Takes X W → chkMs g ms L xs = true → PA X xs (rdMs X.K ca W fun env => evMs (evc T n) env ms) ∧ xs.all notStar = true
  | .nil, X, L, W, xs, C, tk, h => by
    unfold chkMs at h
    simp only [evMs]
    cases xs with
    | nil => exact ⟨m_nil, rfl⟩
    | cons _ _ => cases h
  | .cons m ms, X, L, W, xs, C, tk, h => by
    unfold chkMs at h
    simp only [evMs]
    cases xs with
    | nil => cases h
    | cons x xs =>
      dsimp only at h
      rw [Bool.and_eq_true] at h
      obtain ⟨a1, a2⟩ := sndM m C tk h.1
      obtain ⟨b1, b2⟩ := sndMs ms C tk h.2
      exact ⟨m_cons a2 a1.pe b1, by rw [List.all_cons, a2, b2]; rfl⟩
end
end
end Cw

set_option Elab.async false
set_option linter.all false
set_option maxRecDepth 100000
set_option maxHeartbeats 4000000
namespace Cw
open PySem PySem.Spec PyProof.Rows L2

/-! ### the look at statements -/
def notComp : Expr → Bool
  | .ListComp _ _ _ _ => false
  | .SetComp _ _ _ _ => false
  | .DictComp _ _ _ _ _ => false
  | _ => true
def notTup : Expr → Bool
  | .Tuple _ _ _ => false
  | _ => true
def swapB (L : Lx) (x : Str) (px : Pos) : Expr → Bool
  | .ListComp _ _ scope lp => (kindB L x .local && ((px.line == lp.line) && !(scope.names.any fun (n, k) => n == x && (k == .local || k == .cell)))) || !kindB L x .local
  | e => notComp e
def isLst : E → Bool
  | .lst _ => true
  | .lc _ _ _ _ _ => true
  | .bin .add _ b => isLst b
  | _ => false
def isLc : E → Bool
  | .lc _ _ _ _ _ => true
  | _ => false
/-- the end of a method that tells nothing -/
def isEnd : Ss → Bool
  | .cons (.retM (.e (.k .none))) .nil => true
  | _ => false
mutual
def chkS (g : Gm) (ex : List Str) : S → Lx → Stmt → Bool
  | .asg i _ e, L, x => (match x with
    | .Assign [.Name y py] val _ => tgB L i y && swapB L y py val && chkE g e L val
    | _ => false)
  | .asgL i _ e, L, x => (match x with
    | .Assign [.Name y py] val _ => tgB L i y && swapB L y py val && chkE g e L val && isLst e
    | _ => false)
  | .asgT l _ e, L, x => (match x with
    | .Assign [.Tuple ts k p] val _ => chkTs L l ts && notComp val && notTup val && chkE g e L val
    | _ => false)
  | .par i j _ a b, L, x => (match x with
    | .Assign [.Tuple [.Name y py, .Name z pz] _ _] (.Tuple [xa, xb] _ _) _ => decide (L.N[i]? = some y) && decide (L.N[j]? = some z) && decide (i ≠ j) && kindB L y .local && kindB L z .local && (py.line == pz.line) && decide (y ≠ z)
        && !(foldedForSure 8 xa && foldedForSure 8 xb) && !(constantsAlone 8 xa && constantsAlone 8 xb) && chkE g a L xa && chkE g b L xb
    | _ => false)
  | .parL i j _ a b, L, x => (match x with
    | .Assign [.Tuple [.Name y py, .Name z pz] _ _] (.Tuple [xa, xb] _ _) _ => decide (L.N[i]? = some y) && decide (L.N[j]? = some z) && decide (i ≠ j) && kindB L y .local && kindB L z .local && (py.line == pz.line) && decide (y ≠ z)
        && !(foldedForSure 8 xa && foldedForSure 8 xb) && !(constantsAlone 8 xa && constantsAlone 8 xb) && chkE g a L xa && chkE g b L xb && isLst a
    | _ => false)
  | .ret _ e, L, x => (match x with
    | .Return (some y) _ => !L.me && chkE g e L y
    | _ => false)
  | .self _, _, _ => false
  | .asgM i m, L, x => (match x with
    | .Assign [.Name y py] val _ => tgB L i y && notComp val && chkM g m L val
    | _ => false)
  | .retM m, L, x => (match x with
    | .Return (some y) _ => L.me && chkM g m L y
    | _ => false)
  | .retP m, L, x => (match x with
    | .Return (some y) _ => !L.me && chkM g m L y
    | _ => false)
  | .iffM m a b, L, x => (match x with
    | .If xc xa xb _ => chkM g m L xc && chkSs g ex a L xa && chkSs g ex b L xb
    | _ => false)
  | .whlM m b, L, x => (match x with
    | .While xc xb [] _ => chkM g m L xc && chkSs g ex b L xb
    | _ => false)
  | .exprM m, L, x => (match x with
    | .Expr y _ => notComp y && chkM g m L y
    | _ => false)
  | .fld i k j m, L, x => (match x with
    | .Assign [.Attribute (.Name y _) f _] val _ => decide (L.N[i]? = some y) && visB L y && g.clss.contains k && decide ((clsF k)[j]? = some f) && chkM g m L val
    | _ => false)
  | .new i k f ms, L, x => (match x with
    | .Assign [.Name y py] (.Call (.Name z _) (xe :: xs) [] _) _ => tgB L i y && decide (z = clsN k) && glB L z && g.clss.contains k && g.inis.contains (k, f) && chkMs g ms L (xe :: xs)
    | _ => false)
  | .iff _ c a b, L, x => (match x with
    | .If xc xa xb _ => chkE g c L xc && chkSs g ex a L xa && chkSs g ex b L xb
    | _ => false)
  | .whl _ c b, L, x => (match x with
    | .While xc xb [] _ => chkE g c L xc && chkSs g ex b L xb
    | _ => false)
  | .for_ _ t it b, L, x => (match x with
    | .For xt xi xb [] _ => chkT L t xt && chkI g it L t xi && chkSs g ex b L xb
    | _ => false)
  | .app i ms e, L, x => (match x with
    | .Expr (.Call (.Attribute (.Name y _) at_ ap) [xe] [] cp) _ => decide (at_ = ("append" : Str)) && (ap.endLine == cp.line) && decide (L.N[i]? = some y) && visB L y && !ms.contains i && chkE g e L xe
    | _ => false)
  | .ext i ms e, L, x => (match x with
    | .Expr (.Call (.Attribute (.Name y _) at_ ap) [xe] [] cp) _ => decide (at_ = ("extend" : Str)) && (ap.endLine == cp.line) && decide (L.N[i]? = some y) && visB L y && !ms.contains i && isLc e && chkE g e L xe
    | _ => false)
  | .popT l i, L, x => (match x with
    | .Assign [.Tuple ts k p] (.Call (.Attribute (.Name y _) at_ ap) [] [] cp) _ => decide (at_ = ("pop" : Str)) && (ap.endLine == cp.line) && decide (L.N[i]? = some y) && visB L y && chkTs L l ts
    | _ => false)
  | .setC i a b, L, x => (match x with
    | .Assign [.Subscript (.Name y _) (.Constant (.int ca) _ _) _] (.Subscript (.Name y2 _) (.Constant (.int cb) _ _) _) _ => decide (L.N[i]? = some y) && decide (y2 = y) && visB L y && decide (ca = (a : Int)) && decide (cb = (b : Int))
    | _ => false)
  | .setX i ms a e, L, x => (match x with
    | .Assign [.Subscript (.Name y _) xa _] xe _ => decide (L.N[i]? = some y) && visB L y && notSlice xa && notComp xe && notTup xe && chkE g a L xa && chkE g e L xe
    | _ => false)
  | .asgU l _ e, L, x => (match x with
    | .Assign [.Tuple ts k p] val _ => chkTs L l ts && notComp val && notTup val && chkE g e L val
    | _ => false)
  | .rais c, L, x => (match x with
    | .Raise (some (.Call (.Name y _) [.Constant (.str _) _ _] [] _)) none _ => decide (y = c) && ex.contains c && glB L y
    | _ => false)
  | .tryN b c i d, L, x => (match x with
    | .Try xb [.ExceptHandler (some (.Name y _)) none [.Assign [.Name z _] val _] _] [] [] _ => decide (y = c) && ex.contains c && glB L y && chkSs g ex b L xb && tgB L i z && chkK d val
    | _ => false)
  | .tryW b i k, L, x => (match x with
    | .Try xb [.ExceptHandler (some (.Name y _)) (some en) [.Return (some (.Call (.Name f _) [.Name e2 _] [] _)) _] _] [] [] _ => !L.me && decide (y = Str.ofString "CloseError") && glB L y && chkSs g ex b L xb && decide (e2 = en) && decide (L.N[i]? = some en) && kindB L en .local && visB L en && g.wrds.contains (f, k) && glB L f
    | _ => false)
  | .tryA b i k j, L, x => (match x with
    | .Try xb [.ExceptHandler (some (.Name y _)) (some en) [.Expr (.Call (.Attribute (.Name l _) at_ ap) [.Call (.Name f _) [.Name e2 _] [] _] [] cp) _] _] [] [] _ => decide (y = Str.ofString "CloseError") && glB L y && chkSs g ex b L xb && decide (e2 = en) && decide (L.N[i]? = some en) && kindB L en .local && visB L en && g.wrds.contains (f, k) && glB L f
        && decide (at_ = ("append" : Str)) && (ap.endLine == cp.line) && decide (L.N[j]? = some l) && visB L l && decide (i ≠ j)
    | _ => false)
  | .expr _ e, L, x => (match x with
    | .Expr y _ => notComp y && chkE g e L y
    | _ => false)
  | .selfL _, _, _ => false
  | .tryR b c d, L, x => (match x with
    | .Try xb [.ExceptHandler (some (.Name y _)) none [.Return (some val) _] _] [] [] _ => !L.me && decide (y = c) && ex.contains c && glB L y && chkSs g ex b L xb && chkK d val
    | _ => false)
  | .appL i e, L, x => (match x with
    | .Expr (.Call (.Attribute (.Name y _) at_ ap) [xe] [] cp) _ => decide (at_ = ("append" : Str)) && (ap.endLine == cp.line) && decide (L.N[i]? = some y) && visB L y && chkE g e L xe
    | _ => false)
  | .retL i e, L, x => (match x with
    | .Return (some y) _ => L.me && chkE g e L y
    | _ => false)
  | .retLM i m, L, x => (match x with
    | .Return (some y) _ => L.me && chkM g m L y
    | _ => false)
  | .brk, _, x => (match x with
    | .Break _ => true
    | _ => false)
  | .cont, _, x => (match x with
    | .Continue _ => true
    | _ => false)
  | .pass, _, x => (match x with
    | .Pass _ => true
    | _ => false)
def chkSs (g : Gm) (ex : List Str) : Ss → Lx → List Stmt → Bool
  | .nil, _, x => x.isEmpty
  | .cons s ss, L, x => (match x with
    | x :: xs => chkS g ex s L x && chkSs g ex ss L xs
    | _ => false)
end
/-- a method's body -/
def chkSsM (g : Gm) (ex : List Str) : Ss → Lx → List Stmt → Bool
  | .nil, _, x => x.isEmpty
  | .cons s ss, L, x => (match x with
    | x :: xs => chkS g ex s L x && chkSsM g ex ss L xs
    | [] => isEnd (.cons s ss))

structure CxS (T : Nat → Option Def) (g : Gm) (ex : List Str) (ca : Str → Value) (n : Nat) (L : Lx) (X : Cx) : Prop where
  c : CxOk T g ca n L X
  hs : X.stack = X.env :: X.outer
  hf : X.env.frame = some X.env.locals
  po : PassesOwn (model X.prog X.w) X.A X.env X.xe
  kd : X.env.scope.kind = .function
  exm : ∀ c2, ∀ c ∈ ex, PySem.W.exmOne X.K (ca c2) (ca c) = some (isSub c2 c)
  rai : ∀ c ∈ ex, ∃ C, ca c = .ref C ∧ X.mg c = some (.ref C) ∧ PySem.W.excIn X.K C He.veBase "ValueError.__new__" = true ∧ PySem.W.keepIn X.K (.ref C) = true ∧ Raises X (.ref C)
  wrd : ∀ x k, (x, k) ∈ g.wrds → ∃ f fd ps, X.mg x = some (.ref f) ∧ PySem.W.keepIn X.K (.ref f) = true ∧ Binds X.K fd ps [] ∧ FnW X.prog X.w X.K X.mg X.base (L2N.CX X.prog X.w) 30 f fd ps (spW ca k)
  clo : g.wrds ≠ [] → ∃ C, X.mg (Str.ofString "CloseError") = some (.ref C) ∧ ∀ c, PySem.W.exmOne X.K (ca c) (.ref C) = some true

section
variable {T : Nat → Option Def} {g : Gm} {ex : List Str} {ca : Str → Value} {n : Nat} {L : Lx} {X : Cx} {W : WX}
theorem sw_attr {val o : Expr} {f : Str} {p : Pos} {l : Nat} {env : Env} : swapsWith val (some (.Attribute o f p)) l env = pure false := by
  cases val <;> rfl
theorem sw_false {val : Expr} {t : Option Expr} {l : Nat} {env : Env} (h : notComp val = true) : swapsWith val t l env = pure false := by
  cases val <;> first | rfl | cases h
theorem blk_fn {env : Env} (h : env.scope.kind = .function) : env.blockKind = .function := by unfold Env.blockKind; rw [h]; rfl
theorem sw_cell {elt : Expr} {gs : List Comprehension} {scope : Scope} {pos py : Pos} {y : Str} {l : Nat} {env : Env} (hy : env.scope.names.lookup y ≠ some .local) : swapsWith (.ListComp elt gs scope pos) (some (.Name y py)) l env = pure false := by
  have ky : (env.kindOf y == some NameKind.local) = false := by
    cases q : (env.kindOf y == some NameKind.local) with
    | false => rfl
    | true => exact (hy (eq_of_beq q)).elim
  unfold swapsWith
  simp only [ky, Bool.and_false, Bool.false_and]
theorem lst_sz {a b : E} : sizeOf b < sizeOf (E.bin .add a b) := by simp; omega
theorem lst_ind {P : E → Prop} (st : ∀ e, (∀ a b, e = .bin .add a b → P b) → P e) (e : E) : P e := st e (fun a b q => lst_ind st b)
termination_by sizeOf e
decreasing_by subst q; exact lst_sz
theorem lc_list_ev {F : Nat → List D → R D} : ∀ {e : E} {env : List Sl} {d : D} (h : isLst e = true) (q : ev F env e = .ok d), ∃ l, d = .list l := by
  intro e
  induction e using lst_ind with
  | st e ih =>
  intro env d h q
  cases e with
  | lst es =>
    simp only [ev] at q
    cases e1 : evs F env es with
    | ok l => rw [e1] at q; cases q; exact ⟨_, rfl⟩
    | _ => rw [e1] at q; cases q
  | lc own elt tg it c =>
    simp only [ev] at q
    cases e1 : evI F env it with
    | ok l =>
      rw [e1] at q
      dsimp only [R.bind] at q
      split at q
      · cases q; exact ⟨_, rfl⟩
      · cases q
      · cases q
    | _ => rw [e1] at q; cases q
  | bin o a b =>
    cases o with
    | add =>
      simp only [ev] at q
      cases e1 : ev F env a with
      | ok x =>
        rw [e1] at q
        dsimp only [R.bind] at q
        cases e2 : ev F env b with
        | ok y =>
          obtain ⟨l, rfl⟩ := ih a b rfl h e2
          rw [e2] at q
          dsimp only at q
          cases x with
          | list l2 =>
            dsimp only [opR] at q
            split at q
            · cases q; exact ⟨_, rfl⟩
            · cases q
          | _ => cases q
        | _ => rw [e2] at q; cases q
      | _ => rw [e1] at q; cases q
    | _ => cases h
  | _ => cases h
theorem rdL_of {K : PySem.W.Frag} {r : List Sl → R D} {σ : L2.St} {H : Hp} {Q : VK} (hl : ∀ env d, r env = .ok d → ∃ l, d = .list l) (h : rdE K ca W r σ H Q) : rdL K ca W r σ H Q := by
  obtain ⟨env, G, s, he, hm⟩ := h
  refine ⟨env, G, s, he, ?_⟩
  cases ha : r env with
  | exc c => rw [ha] at hm; exact hm
  | bad => rw [ha] at hm; exact hm
  | ok d =>
    obtain ⟨l, rfl⟩ := hl env d ha
    rw [ha] at hm
    exact fun p vs H' G' x h1 h2 h3 h4 => hm (.ref p) H' _ (x.freeze h1 h2 h3) (.lst (SqL.of upd_same) (dpAll_mono (Same.upd h2) h4))
/-- a list that is made: as an expression -/
theorem sndL {e : E} {x : Expr} (C : CxOk T g ca n L X) (tk : L2N.Takes X W) (hl : isLst e = true) (h : chkE g e L x = true) : PE X x (rdL X.K ca W fun env => ev (evc T n) env e) := by
  cases e with
  | bin o a b =>
    cases o with
    | add =>
      unfold chkE at h
      simp only [ev]
      cases x with
      | BinOp xa op xb p =>
        dsimp only at h
        rw [Bool.and_eq_true, Bool.and_eq_true, decide_eq_true_eq] at h
        obtain ⟨h0, h1, h2⟩ := h
        subst h0
        exact e_catL (sndE a C tk h1).1.pe (sndE b C tk h2).1.pe fun env d q => lc_list_ev (e := b) hl q
      | _ => cases h
    | _ => cases hl
  | lst es =>
    unfold chkE at h
    simp only [ev]
    cases x with
    | List xs p =>
      dsimp only at h
      rw [Bool.and_eq_true, decide_eq_true_eq] at h
      obtain ⟨h1, h2⟩ := sndEs es C tk h.1
      exact e_lst h1 h.2 fun env ds q => evs_len h.1 q
    | _ => cases h
  | lc own elt tg it c =>
    have h0 := h
    unfold chkE at h
    split at h
    · obtain ⟨e0, P⟩ := sndLc C tk h0
      subst e0
      exact P.pe C.calm C.nd
    · cases h
  | _ => cases hl
/-- name = value -/
theorem sndA {e : E} {i : Nat} {y : Str} {py pos : Pos} {val : Expr} (C : CxS T g ex ca n L X) (tk : L2N.Takes X W) (h1 : tgB L i y = true) (h2 : swapB L y py val = true) (h3 : chkE g e L val = true) :
    PS X (.Assign [.Name y py] val pos) (tAsg (rdE X.K ca W fun env => ev (evc T n) env e) (gName i)) ∧ (isLst e = true → PS X (.Assign [.Name y py] val pos) (tAsg (rdL X.K ca W fun env => ev (evc T n) env e) (gName i))) := by
  obtain ⟨t1, t2, t3⟩ := C.c.tg h1
  by_cases hc : notComp val = true
  · exact ⟨ps_set C.c.nd t1 t2 (sndE e C.c tk h3).1.pe (sw_false hc) t3, fun hl => ps_set C.c.nd t1 t2 (sndL C.c tk hl h3) (sw_false hc) t3⟩
  · cases val with
    | ListComp xe gs scope lp =>
      cases e with
      | lc own elt tg it c =>
        have hk := h3
        unfold chkE at h3
        split at h3
        · rename_i heq
          cases heq
          rename_i xt xi xc as0
          obtain ⟨e0, P⟩ := sndLc C.c tk hk
          subst e0
          have key : PS X (.Assign [.Name y py] (.ListComp xe [⟨xt, xi, xc, 0⟩] scope lp) pos) (tAsg (rdL X.K ca W fun env => ev (evc T n) env (.lc own elt tg it c)) (gName i)) := by
            unfold swapB at h2
            rw [Bool.or_eq_true] at h2
            rcases h2 with h2 | h2
            · simp only [Bool.and_eq_true, Bool.not_eq_true'] at h2
              obtain ⟨k1, k2, k3⟩ := h2
              unfold kindB at k1
              rw [decide_eq_true_eq] at k1
              obtain ⟨wi, gg, tt, te, hi, ok, hg, ht, he, hs, rd⟩ := P.ex
              refine PS.imp (ps_setLc (spos := pos) C.c.calm C.c.nd t1 (by rw [C.c.hsc]; exact k1) (sw_true C.kd (by rw [C.c.hsc]; exact k1) k2 k3) hi ok hg ht he hs) fun D σ H q => ?_
              exact rd σ H _ q
            · refine ps_set C.c.nd t1 t2 (P.pe C.c.calm C.c.nd) (sw_cell ?_) t3
              unfold kindB at h2
              rw [C.c.hsc]
              simpa using h2
          exact ⟨PS.imp key fun D σ H q => rdL_of (fun env d q => lc_list_ev (e := .lc own elt tg it c) rfl q) q, fun _ => key⟩
        · cases h3
      | lcx own elt tg it =>
        have hk := h3
        unfold chkE at h3
        split at h3
        · rename_i heq
          cases heq
          rename_i xt xi as0
          obtain ⟨e0, P⟩ := sndLcx C.c tk hk
          subst e0
          have key : PS X (.Assign [.Name y py] (.ListComp xe [⟨xt, xi, [], 0⟩] scope lp) pos) (tAsg (rdL X.K ca W fun env => ev (evc T n) env (.lcx own elt tg it)) (gName i)) := by
            unfold swapB at h2
            rw [Bool.or_eq_true] at h2
            rcases h2 with h2 | h2
            · simp only [Bool.and_eq_true, Bool.not_eq_true'] at h2
              obtain ⟨k1, k2, k3⟩ := h2
              unfold kindB at k1
              rw [decide_eq_true_eq] at k1
              obtain ⟨wi, gg, te, hi, ok, hg, he, hs, ⟨q1, q2⟩, rd⟩ := P.ex
              refine PS.imp (ps_setLcX (spos := pos) C.c.calm C.c.nd t1 (by rw [C.c.hsc]; exact k1) (sw_true C.kd (by rw [C.c.hsc]; exact k1) k2 k3) tk q1 q2 hi ok hg (fun _ _ _ _ _ _ => pts_nil) he hs) fun D σ H q => ?_
              exact rd σ H _ q
            · refine ps_set C.c.nd t1 t2 (P.pe tk C.c.calm C.c.nd) (sw_cell ?_) t3
              unfold kindB at h2
              rw [C.c.hsc]
              simpa using h2
          exact ⟨PS.imp key fun D σ H q => rdL_of (fun env d q => by
            simp only [ev] at q
            cases e : evI (evc T n) env it with
            | ok l =>
              rw [e] at q
              dsimp only [R.bind] at q
              split at q
              · cases q; exact ⟨_, rfl⟩
              · cases q
              · cases q
            | _ => rw [e] at q; cases q) q, fun hl => by cases hl⟩
        · cases h3
      | _ =>
        exfalso
        unfold chkE at h3
        first | cases h3 | (rename_i d; cases d <;> cases h3)
    | SetComp _ _ _ _ => cases h2
    | DictComp _ _ _ _ _ => cases h2
    | _ => exact (hc rfl).elim
end
end Cw

set_option Elab.async false
set_option linter.all false
set_option maxRecDepth 100000
set_option maxHeartbeats 4000000
namespace Cw
open PySem PySem.Spec PyProof.Rows L2

section
variable {me : Bool} {T : Nat → Option Def} {g : Gm} {ex : List Str} {ca : Str → Value} {n : Nat} {L : Lx} {X : Cx} {W : WX} {K : PySem.W.Frag} {He Ge G H : Hp} {σ : L2.St} {env : List Sl} {F : Nat → List D → R D}
theorem CxS.tr (C : CxS T g ex ca n L X) {pn : List (Addr × Obj)} {xe : Value → Shared → Prop} (po : PassesOwn (model X.prog X.w) X.A X.env xe) : CxS T g ex ca n L (X.tr pn xe) :=
  ⟨⟨C.c.hN, C.c.hsc, C.c.hfl, C.c.htop, C.c.nd, C.c.calm, C.c.room, ⟨C.c.pyl.room, C.c.pyl.seer, C.c.pyl.tree, C.c.pyl.top⟩, C.c.blt, C.c.cons, C.c.fns, fun x j h => ⟨(C.c.dcts x j h).ex⟩, C.c.clss, C.c.mths, C.c.inis, C.c.lfs, fun x j h => ⟨(C.c.dvs x j h).ex⟩⟩, C.hs, C.hf, po, C.kd, C.exm, C.rai, C.wrd, C.clo⟩

theorem swp_some {x y : Str} {a b : Expr} {px py pt pt2 : Pos} {kt k2 : Nat} {env : Env} (hk : env.scope.kind = .function) (hx : env.scope.names.lookup x = some .local) (hy : env.scope.names.lookup y = some .local) (hl : (px.line == py.line) = true) (hxy : x ≠ y)
    (na : notStar a = true) (nb : notStar b = true) (hf : (foldedForSure 8 a && foldedForSure 8 b) = false) (hcn : (constantsAlone 8 a && constantsAlone 8 b) = false) :
    swappedStores [.Tuple [.Name x px, .Name y py] kt pt] (.Tuple [a, b] k2 pt2) env = pure (some [x, y]) := by
  have bk := blk_fn hk
  have kx : env.kindOf x = some .local := hx
  have ky : env.kindOf y = some .local := hy
  have e1 : (py.line == px.line) = true := by rw [beq_iff_eq] at hl ⊢; exact hl.symm
  have ed : ([x, y] : List Str).eraseDups.length = 2 := by
    have q : (y == x) = false := by
      cases z : (y == x) with
      | false => rfl
      | true => exact (hxy (eq_of_beq z).symm).elim
    rw [List.eraseDups_cons]
    simp [q, List.eraseDups_cons]
  unfold swappedStores
  dsimp only
  rw [if_neg (by rw [bk]; simp)]
  rw [if_neg (by
    intro h
    rw [List.any_eq_true] at h
    obtain ⟨e, he, hs⟩ := h
    rcases List.mem_cons.mp he with z | z
    · subst z; cases e <;> first | (cases hs; done) | (cases na; done)
    · rcases List.mem_cons.mp z with z | z
      · subst z; cases e <;> first | (cases hs; done) | (cases nb; done)
      · cases z)]
  simp only [List.filterMap_cons, List.filterMap_nil, List.head?_cons, Option.map_some, Option.getD_some, Expr.pos, kx, ky, e1, beq_self_eq_true, Bool.and_true, if_true]
  rw [if_neg (by rw [ed]; simp)]
  rw [if_neg (by
    show ¬ (foldedForSure 8 a && (foldedForSure 8 b && true)) = true
    rw [Bool.and_true, hf]; simp)]
  rw [if_neg (by
    show ¬ (constantsAlone 8 a && (constantsAlone 8 b && true)) = true
    rw [Bool.and_true, hcn]; simp)]

theorem s_asg {i : Nat} {ms : List Nat} {e : E} {st : Stmt} (h : PS X st (tAsg (rdE X.K ca W fun env => ev F env e) (gName i))) : PS X st (rdS X.K ca W me fun env => evS F env (.asg i ms e)) :=
  PS.imp h fun Dn σ H ⟨S, He, Ge, G, env, me0, R0, ho⟩ => by
    obtain ⟨G', s, R1⟩ := R0.see ms
    simp only [evS] at ho
    refine R1.rd (on_ok ho R0 s fun d v H1 G1 _ e p ho => ?_)
    by_cases f : flatD d = true
    · rw [if_pos f] at ho
      exact ho _ _ _ ((R0.back s e).set (flat_any p f))
    · rw [if_neg f] at ho
      exact ho _ _ _ ((R1.ext e).set p)
theorem s_asgL {i : Nat} {ms : List Nat} {e : E} {st : Stmt} (hl : isLst e = true) (h : PS X st (tAsg (rdL X.K ca W fun env => ev F env e) (gName i))) : PS X st (rdS X.K ca W me fun env => evS F env (.asgL i ms e)) :=
  PS.imp h fun Dn σ H ⟨S, He, Ge, G, env, me0, R0, ho⟩ => by
    obtain ⟨G', s, R1⟩ := R0.see ms
    simp only [evS] at ho
    refine R1.rdL (on_okL ho R0 s (fun d q => lc_list_ev hl q) fun ds p vs H1 G1 _ e h1 h2 h3 h4 ho => ?_)
    exact ho _ _ _ (R1.setN e h1 h2 h3 h4)
theorem s_asgT {l ms : List Nat} {e : E} {st : Stmt} (h : PS X st (tAsg (rdE X.K ca W fun env => ev F env e) (gT X.K (.many l)))) : PS X st (rdS X.K ca W me fun env => evS F env (.asgT l ms e)) :=
  PS.imp h fun Dn σ H ⟨S, He, Ge, G, env, me0, R0, ho⟩ => by
    obtain ⟨G', s, R1⟩ := R0.see ms
    simp only [evS] at ho
    refine R1.rd (on_ok ho R0 s fun d v H1 G1 _ e p ho => ?_)
    cases q : setT (see env ms) (.many l) d with
    | ok e2 =>
      rw [q] at ho
      exact gT_rs (R1.ext e) p q fun σ2 R2 => ho _ _ _ R2
    | _ => rw [q] at ho; exact ho.elim
theorem s_asgU {l ms : List Nat} {e : E} {st : Stmt} (h : PS X st (tAsg (rdE X.K ca W fun env => ev F env e) (gUnl X.K l.length (gMany l)))) : PS X st (rdS X.K ca W me fun env => evS F env (.asgU l ms e)) :=
  PS.imp h fun Dn σ H ⟨S, He, Ge, G, env, me0, R0, ho⟩ => by
    obtain ⟨G', s, R1⟩ := R0.see ms
    simp only [evS] at ho
    refine R1.rd (on_ok ho R0 s fun d v H1 G1 _ e p ho => ?_)
    cases p with
    | lst q0 r0 =>
      rename_i ds hd
      dsimp only at ho
      cases q : setMany (see env ms) l ds with
      | ok e2 =>
        rw [q] at ho
        exact ⟨_, _, rfl, e.c.seq q0, by rw [dpAll_len r0, setMany_len q], many_rs (R1.ext e) r0 q fun σ2 R2 => ho _ _ _ R2⟩
      | _ => rw [q] at ho; exact ho.elim
    | _ => exact ho.elim
theorem s_ret {ms : List Nat} {e : E} {st : Stmt} (h : PS X st (tRet (rdE X.K ca W fun env => ev F env e))) : PS X st (rdS X.K ca W false fun env => evS F env (.ret ms e)) :=
  PS.imp h fun Dn σ H ⟨S, He, Ge, G, env, me0, R0, ho⟩ => by
    cases S with
    | some z => cases me0
    | none =>
      obtain ⟨G', s, R1⟩ := R0.see ms
      simp only [evS] at ho
      exact R1.rd (on_ok ho R0 s fun d v H1 G1 _ e p ho => ho v H1 G1 (R1.ext e).x p)
theorem s_expr {ms : List Nat} {e : E} {st : Stmt} (h : PS X st (tDrop (rdE X.K ca W fun env => ev F env e))) : PS X st (rdS X.K ca W me fun env => evS F env (.expr ms e)) :=
  PS.imp h fun Dn σ H ⟨S, He, Ge, G, env, me0, R0, ho⟩ => by
    obtain ⟨G', s, R1⟩ := R0.see ms
    simp only [evS] at ho
    exact R1.rd (on_ok ho R0 s fun d v H1 G1 _ e p ho => ho _ _ _ (R0.back s e))
theorem s_par {i j : Nat} {ms : List Nat} {a b : E} {st : Stmt} (h : PS X st (tPar i j (tCons (rdE X.K ca W fun env => ev F env a) (tCons (rdE X.K ca W fun env => ev F env b) tNil)))) : PS X st (rdS X.K ca W me fun env => evS F env (.par i j ms a b)) :=
  PS.imp h fun Dn σ H ⟨S, He, Ge, G, env, me0, R0, ho⟩ => by
    obtain ⟨G', s, R1⟩ := R0.see ms
    simp only [evS] at ho
    refine R1.rd (on_ok ho R0 s fun x v H1 G1 _ e p ho => ?_)
    refine (R1.ext e).rd (on_ok ho (R0.back s e) (s.trans e.b) fun y w H2 G2 _ e2 p2 ho => ?_)
    exact ⟨v, w, rfl, ho _ _ _ ((((R1.ext e).ext e2).set (dp_mono e2.b p)).set p2)⟩
theorem s_parL {i j : Nat} {ms : List Nat} {a b : E} {st : Stmt} (hl : isLst a = true) (h : PS X st (tPar i j (tCons (rdL X.K ca W fun env => ev F env a) (tCons (rdE X.K ca W fun env => ev F env b) tNil)))) : PS X st (rdS X.K ca W me fun env => evS F env (.parL i j ms a b)) :=
  PS.imp h fun Dn σ H ⟨S, He, Ge, G, env, me0, R0, ho⟩ => by
    obtain ⟨G', s, R1⟩ := R0.see ms
    simp only [evS] at ho
    refine R1.rdL (on_okL ho R0 s (fun d q => lc_list_ev hl q) fun ds p vs H1 G1 _ e h1 h2 h3 h4 ho => ?_)
    refine (R1.ext e).rd (on_ok ho (R0.back s e) (s.trans e.b) fun y w H2 G2 _ e2 p2 ho => ?_)
    refine ⟨.ref p, w, rfl, ho _ _ _ ((R1.setN (e.trans e2) h1 (e2.d p _ h3 h2) (e2.a p _ h3) (dpAll_mono e2.b h4)).set p2)⟩
theorem s_iff {ms : List Nat} {c : E} {a b : Ss} {xc : Expr} {xa xb : List Stmt} {pos : Pos} (hc : PT X xc (rdT X.K ca W fun env => ev F env c)) (ha : PSs X xa (rdS X.K ca W me fun env => evSs F env a)) (hb : PSs X xb (rdS X.K ca W me fun env => evSs F env b)) :
    PS X (.If xc xa xb pos) (rdS X.K ca W me fun env => evS F env (.iff ms c a b)) :=
  PS.imp (ps_if hc ha hb) fun Dn σ H ⟨S, He, Ge, G, env, me0, R0, ho⟩ => by
    obtain ⟨G', s, R1⟩ := R0.see ms
    simp only [evS] at ho
    refine R1.rdT (on_okT ho R0 s fun k H1 G1 _ e ho => ?_)
    cases k with
    | true => rw [if_pos rfl] at ho ⊢; exact ⟨S, He, Ge, G, env, me0, R0.back s e, ho⟩
    | false => rw [if_neg Bool.false_ne_true] at ho ⊢; exact ⟨S, He, Ge, G, env, me0, R0.back s e, ho⟩
theorem whl_spec {c : List Sl → R Bool} {b : List Sl → Out} {env : List Sl} {P : Out → Prop} (h : P (whl c b env)) (nb : ¬ P .bad) : ∃ m o, whlN c b m env = some o ∧ P o := by
  unfold whl at h
  by_cases q : ∃ n o, whlN c b n env = some o
  · rw [dif_pos q] at h
    exact ⟨_, _, Classical.choose_spec (Classical.choose_spec q), h⟩
  · rw [dif_neg q] at h
    exact (nb h).elim
theorem s_whl {ms : List Nat} {c : E} {b : Ss} {xc : Expr} {xb : List Stmt} {pos : Pos} (po : PassesOwn (model X.prog X.w) X.A X.env X.xe) (hc : PT X xc (rdT X.K ca W fun env => ev F env c)) (hb : PSs X xb (rdS X.K ca W me fun env => evSs F env b)) :
    PS X (.While xc xb [] pos) (rdS X.K ca W me fun env => evS F env (.whl ms c b)) :=
  PS.imp (ps_while po hc hb) fun Dn σ H ⟨S, He, Ge, G, env, me0, R0, ho⟩ => by
    simp only [evS] at ho
    obtain ⟨m0, o, h0, ho⟩ := whl_spec (P := OutS X.K ca W S He Ge Dn) ho (fun z => z)
    refine ⟨fun m σ H => ∃ env G, RSG X.K S He Ge G σ H env ∧ whlN (fun e => toB (ev F (see e ms) c)) (fun e => evSs F e b) m env = some o, ⟨m0, env, G, R0, h0⟩, ?_⟩
    rintro m σ H ⟨env, G, R0, h0⟩
    cases m with
    | zero => cases h0
    | succ m =>
      obtain ⟨G', s, R1⟩ := R0.see ms
      unfold whlN at h0
      refine R1.rdT ?_
      dsimp only at h0 ⊢
      cases ec : ev F (see env ms) c with
      | bad =>
        rw [ec] at h0
        cases h0
        exact ho.elim
      | exc x =>
        rw [ec] at h0
        cases h0
        exact fun H1 G1 e => ho _ _ _ (R0.back s e)
      | ok d =>
        rw [ec] at h0
        cases d with
        | bool k =>
          intro H1 G1 e
          have R2 := R0.back s e
          cases k with
          | false =>
            cases h0
            rw [if_neg Bool.false_ne_true]
            exact ho _ _ _ R2
          | true =>
            rw [if_pos rfl]
            dsimp only [toB] at h0
            refine ⟨fun σ' H' => ∃ env G, RSG X.K S He Ge G σ' H' env ∧ whlN (fun e => toB (ev F (see e ms) c)) (fun e => evSs F e b) m env = some o, fun σ' H' z => ⟨m, Nat.lt_succ_self _, z⟩, S, He, Ge, G, env, me0, R2, ?_⟩
            show OutS X.K ca W S He Ge _ (evSs F env b)
            cases eb : evSs F env b with
            | next e1 => rw [eb] at h0; exact fun σ2 H2 G2 R3 => ⟨e1, G2, R3, h0⟩
            | cont e1 => rw [eb] at h0; exact fun σ2 H2 G2 R3 => ⟨e1, G2, R3, h0⟩
            | brk e1 => rw [eb] at h0; cases h0; exact ho
            | ret x => rw [eb] at h0; cases h0; exact ho
            | exc c2 e1 => rw [eb] at h0; cases h0; exact ho
            | bad => rw [eb] at h0; cases h0; exact ho.elim
        | _ =>
          cases h0
          exact ho.elim
theorem s_for {ms : List Nat} {t : Tg} {it : It} {b : Ss} {xt xi : Expr} {xb : List Stmt} {pos : Pos} (hcalm : X.calm = true) (po : PassesOwn (model X.prog X.w) X.A X.env X.xe) (hi : PI X xt xi (rdI X.K ca W fun env => evI F env it)) (hf : ∀ v, foldedSetIterable xi X.env v = pure v) (hg : PG X xt (gT X.K t)) (hb : PSs X xb (rdS X.K ca W me fun env => evSs F env b)) :
    PS X (.For xt xi xb [] pos) (rdS X.K ca W me fun env => evS F env (.for_ ms t it b)) :=
  PS.imp (ps_for po hcalm hi hg hb hf) fun Dn σ H ⟨S, He, Ge, G, env, me0, R0, ho⟩ => by
    obtain ⟨G', s, R1⟩ := R0.see ms
    simp only [evS] at ho
    refine R1.rdI ?_
    cases ei : evI F (see env ms) it with
    | bad => rw [ei] at ho; exact ho.elim
    | exc c => rw [ei] at ho; exact fun H1 G1 e => ho _ _ _ (R0.back s e)
    | ok ds =>
      rw [ei] at ho
      intro J H1 G1 x1 wk
      dsimp only [onR] at ho
      generalize hfn : (fun (d : D) (e : List Sl) => match setT e t d with
        | .ok e2 => evSs F e2 b
        | _ => .bad) = f at ho
      have R2 := R1.ext x1
      refine ⟨fun i m σ H => m = ds.length - i ∧ i ≤ ds.length ∧ ∃ env G, RSG X.K S He Ge G σ H env ∧ Same G1 G ∧ OutS X.K ca W S He Ge Dn (forGo f (ds.drop i) env), ⟨ds.length, by simp, Nat.zero_le _, _, G1, R2, Same.refl _, by simpa using ho⟩, ?_⟩
      rintro i m σ H ⟨rfl, hi, env, G, R3, s3, ho⟩
      by_cases hlt : i < ds.length
      · refine .inr ⟨wk.goes i H hlt (Same.d (s3.trans R3.x.c)), fun σ' H' => i + 1 ≤ ds.length ∧ ∃ env G, RSG X.K S He Ge G σ' H' env ∧ Same G1 G ∧ OutS X.K ca W S He Ge Dn (forGo f (ds.drop (i + 1)) env), fun σ' H' z => ⟨ds.length - (i + 1), by omega, rfl, z.1, z.2⟩, fun x H2 y => ?_⟩
        obtain ⟨d, G2, hd, x2, dp⟩ := wk.yields i H x H2 G hlt (Same.d s3) R3.x.c y
        have ed : ds.drop i = d :: ds.drop (i + 1) := by
          have q := List.drop_eq_getElem_cons hlt
          rw [q]
          have q2 : ds[i] = d := by
            have q3 := List.getElem?_eq_getElem hlt
            rw [hd] at q3
            exact (Option.some.inj q3).symm
          rw [q2]
        rw [ed] at ho
        unfold forGo at ho
        have R4 := R3.ext x2
        have sG : Same G1 G2 := s3.trans x2.b
        rw [← hfn] at ho
        dsimp only at ho
        cases es : setT env t d with
        | exc c => rw [es] at ho; exact ho.elim
        | bad => rw [es] at ho; exact ho.elim
        | ok e2 =>
          rw [es] at ho
          dsimp only at ho
          refine gT_rs R4 dp es fun σ2 R5 => ⟨S, He, G2, G2, e2, me0, ⟨⟨R5.x.a, Same.refl _, R5.x.c, fun _ _ _ z => z⟩, R5.e, R5.o, R5.b, R5.s, R5.l⟩, ?_⟩
          have xw : Ext He Ge H2 G2 := R5.x
          show OutS X.K ca W S He G2 _ (evSs F e2 b)
          cases eb : evSs F e2 b with
          | next e1 =>
            rw [eb] at ho
            exact fun σ3 H3 G3 R6 => ⟨hlt, e1, G3, R6.wid xw, sG.trans R6.x.b, by rw [← hfn]; exact ho⟩
          | cont e1 =>
            rw [eb] at ho
            exact fun σ3 H3 G3 R6 => ⟨hlt, e1, G3, R6.wid xw, sG.trans R6.x.b, by rw [← hfn]; exact ho⟩
          | brk e1 => rw [eb] at ho; exact fun σ3 H3 G3 R6 => ho σ3 H3 G3 (R6.wid xw)
          | ret x => rw [eb] at ho; exact OutS.wid (o := .ret x) xw ho
          | exc c2 e1 => rw [eb] at ho; exact fun σ3 H3 G3 R6 => ho σ3 H3 G3 (R6.wid xw)
          | bad => rw [eb] at ho; exact ho.elim
      · have e : i = ds.length := by omega
        subst e
        rw [List.drop_length] at ho
        exact .inl ⟨wk.stops H (Same.d (s3.trans R3.x.c)), ho _ _ _ R3⟩
theorem see_out : ∀ (ms : List Nat) {env : List Sl} {i : Nat}, i ∉ ms → (see env ms)[i]? = env[i]?
  | [], _, _, _ => rfl
  | j :: l, env, i, h => by
    unfold see
    rw [see_out l fun z => h (List.mem_cons_of_mem _ z)]
    have hj : j ≠ i := fun z => h (by rw [z]; exact List.mem_cons_self)
    split
    · rw [List.getElem?_set_ne hj]
    · rfl
theorem few_one {e : Expr} {env : Env} {cpos : Pos} (h : notStar e = true) : ((backTo cpos (starEach [e] env)).all (fun x => !x.1) && (backToKw cpos (keywordEach [] env)).all (fun x => x.1.isSome)
      && decide (([e] : List Expr).length + ([] : List Keyword).length + (if ([] : List Keyword).isEmpty then 0 else 1) < 30)) = true := by
  rw [star_cons h]; rfl
theorem s_app {i : Nat} {ms : List Nat} {e : E} {y : Str} {py ap cp pos : Pos} {xe : Expr} (hv : PE X (.Name y py) (tVar i)) (hl : (ap.endLine == cp.line) = true) (him : i ∉ ms) (ns : notStar xe = true) (he : PE X xe (rdE X.K ca W fun env => ev F env e)) :
    PS X (.Expr (.Call (.Attribute (.Name y py) "append" ap) [xe] [] cp) pos) (rdS X.K ca W me fun env => evS F env (.app i ms e)) :=
  PS.imp (ps_expr (pe_bm PySem.F.plainAttrs_list PySem.F.slot_list_append PySem.F.type_list_append mt_append hv (pa_cons he pa_nil (star_cons ns)) rfl (few_one ns) hl (star_cons ns) rfl) rfl) fun Dn σ H ⟨S, He, Ge, G, env, me0, R0, ho⟩ => by
    obtain ⟨G', s, R1⟩ := R0.see ms
    simp only [evS] at ho
    cases q : env[i]? with
    | none => rw [q] at ho; exact ho.elim
    | some z =>
      rw [q] at ho
      cases z with
      | ow ds =>
        have q1 : (see env ms)[i]? = some (.ow ds) := by rw [see_out ms him]; exact q
        obtain ⟨p, vs, a1, a2, a3, a4, a5, a6⟩ := R1.o i ds q1
        refine ⟨.ref p, a1, .inl ⟨rfl, _, SqL.of a2⟩, R1.rd (on_ok ho R0 s fun d v H1 G1 _ e p1 ho => ?_)⟩
        have b2 := e.a p _ a2
        split at ho
        · rename_i hz
          refine ⟨p, vs, v, rfl, rfl, b2, by rw [dpAll_len a3]; exact hz, ho _ _ _ ((R1.ext e).upd q1 a1 b2 (dpAll_app (dpAll_mono e.b a3) (.cons p1 .nil)))⟩
        · exact ho.elim
      | _ => exact ho.elim
theorem s_ext {i : Nat} {ms : List Nat} {e : E} {y : Str} {py ap cp pos : Pos} {xe : Expr} (hlc : isLst e = true) (hv : PE X (.Name y py) (tVar i)) (hl : (ap.endLine == cp.line) = true) (him : i ∉ ms) (ns : notStar xe = true) (he : PE X xe (rdL X.K ca W fun env => ev F env e)) :
    PS X (.Expr (.Call (.Attribute (.Name y py) "extend" ap) [xe] [] cp) pos) (rdS X.K ca W me fun env => evS F env (.ext i ms e)) :=
  PS.imp (ps_expr (pe_bm PySem.F.plainAttrs_list PySem.F.slot_list_extend PySem.F.type_list_extend mt_extend hv (pa_cons he pa_nil (star_cons ns)) rfl (few_one ns) hl (star_cons ns) rfl) rfl) fun Dn σ H ⟨S, He, Ge, G, env, me0, R0, ho⟩ => by
    obtain ⟨G', s, R1⟩ := R0.see ms
    simp only [evS] at ho
    cases q : env[i]? with
    | none => rw [q] at ho; exact ho.elim
    | some z =>
      rw [q] at ho
      cases z with
      | ow ds =>
        have q1 : (see env ms)[i]? = some (.ow ds) := by rw [see_out ms him]; exact q
        obtain ⟨p, vs, a1, a2, a3, a4, a5, a6⟩ := R1.o i ds q1
        refine ⟨.ref p, a1, .inl ⟨rfl, _, SqL.of a2⟩, R1.rdL (on_okL ho R0 s (fun d q => lc_list_ev hlc q) fun es b ws H1 G1 _ e h1 h2 h3 h4 ho => ?_)⟩
        have b2 := e.a p _ a2
        dsimp only at ho
        split at ho
        · rename_i hz
          refine ⟨p, b, vs, ws, rfl, rfl, b2, h3, by rw [dpAll_len a3, dpAll_len h4]; exact hz, ho _ _ _ ((R1.ext e).upd q1 a1 b2 (dpAll_app (dpAll_mono e.b a3) h4))⟩
        · exact ho.elim
      | _ => exact ho.elim
theorem dpAll_set {G : Hp} : ∀ {vs : List V} {ds : List D} {v : V} {d : D} (i : Nat), DpAll K G vs ds → Dp K G v d → DpAll K G (vs.set i v) (ds.set i d)
  | _, _, _, _, _, .nil, _ => .nil
  | _, _, _, _, 0, .cons _ b, h => .cons h b
  | _, _, _, _, i + 1, .cons a b, h => .cons a (dpAll_set i b h)
theorem s_setC {i a b : Nat} {y : Str} {py py2 sp sp2 cp cp2 pos : Pos} {k1 k2 : Nat} (hv : ∀ p, PE X (.Name y p) (tVar i)) :
    PS X (.Assign [.Subscript (.Name y py) (.Constant (.int (a : Int)) k1 cp) sp] (.Subscript (.Name y py2) (.Constant (.int (b : Int)) k2 cp2) sp2) pos) (rdS X.K ca W me fun env => evS F env (.setC i a b)) :=
  PS.imp (ps_asg (pe_ix ix_seq (hv py2) pe_int (plainIx_of rfl)) (pg_sub (hv py) pe_int set_list) rfl rfl rfl) fun Dn σ H ⟨S, He, Ge, G, env, me0, R0, ho⟩ => by
    simp only [evS] at ho
    cases q : env[i]? with
    | none => rw [q] at ho; exact ho.elim
    | some z =>
      rw [q] at ho
      cases z with
      | ow ds =>
        obtain ⟨p, vs, a1, a2, a3, a4, a5, a6⟩ := R0.o i ds q
        dsimp only at ho
        cases ql : ds[b]? with
        | none => rw [ql] at ho; exact ho.elim
        | some d =>
          rw [ql] at ho
          dsimp only at ho
          split at ho
          · rename_i hlt
            obtain ⟨v, v1, v2⟩ := dpAll_get a3 ql
            have hlen := dpAll_len a3
            refine ⟨.ref p, a1, .inl ⟨p, vs, (b : Int), v, rfl, rfl, SqL.of a2, L2.atI_nat v1, .ref p, a1, p, vs, (a : Int), a, rfl, rfl, a2, ?_, ho _ _ _ (R0.upd q a1 a2 (dpAll_set a a3 v2))⟩⟩
            unfold L2.ixN
            rw [if_pos (by omega), if_pos (by omega), Int.toNat_natCast]
          · exact ho.elim
      | _ => exact ho.elim
theorem s_setX {i : Nat} {ms : List Nat} {a e : E} {st : Stmt} (h : PS X st (tAsg (rdE X.K ca W fun env => ev F env e) (gSub (tVar i) (rdE X.K ca W fun env => ev F env a) rSetL))) :
    PS X st (rdS X.K ca W me fun env => evS F env (.setX i ms a e)) :=
  PS.imp h fun Dn σ H ⟨S, He, Ge, G, env, me0, R0, ho⟩ => by
    obtain ⟨G', s, R1, hs⟩ := R0.see3 ms
    simp only [evS] at ho
    cases q : env[i]? with
    | none => rw [q] at ho; exact ho.elim
    | some z =>
      rw [q] at ho
      cases z with
      | ow ds =>
        obtain ⟨p, vs, a1, a2, a3, a4, a5, a6⟩ := R0.o i ds q
        refine R1.rd (on_ok ho R0 s fun d v H1 G1 _ e1 p1 ho => ?_)
        refine ⟨.ref p, a1, (R1.ext e1).rd (on_ok ho (R0.back s e1) (s.trans e1.b) fun k w H2 G2 _ e2 p2 ho => ?_)⟩
        have ee : Ext H G' H2 G2 := e1.trans e2
        have h2 := ee.a p _ a2
        have hlen := dpAll_len a3
        cases p2 with
        | int j =>
          unfold setXO at ho
          dsimp only at ho
          by_cases hc : flt2 d = true ∧ 0 ≤ j ∧ j < ds.length
          · rw [if_pos hc] at ho
            obtain ⟨hf, h0, hj⟩ := hc
            have done : ∀ Gx, RSG X.K S He Ge Gx σ H2 env → Same G Gx → Dp X.K Gx v d → Dn.nx σ (upd H2 p (.lst (vs.set j.toNat v))) := fun Gx Rx sx px => ho σ _ Gx (Rx.upd q a1 h2 (dpAll_set j.toNat (dpAll_mono sx a3) px))
            have ix : L2.ixN vs.length j = some j.toNat := by
              unfold L2.ixN
              rw [if_pos (by omega), if_pos (by omega)]
            refine ⟨p, vs, j, j.toNat, rfl, rfl, h2, ix, ?_⟩
            cases d with
            | tuple l =>
              obtain ⟨Gx, k1, k2, k3⟩ := R0.keepT s hs ee (dp_mono e2.b p1) hf
              exact done Gx k1 k2 k3
            | none => exact done G (R0.back s ee) (Same.refl _) (flat_any p1 rfl)
            | bool b => exact done G (R0.back s ee) (Same.refl _) (flat_any p1 rfl)
            | int b => exact done G (R0.back s ee) (Same.refl _) (flat_any p1 rfl)
            | str b => exact done G (R0.back s ee) (Same.refl _) (flat_any p1 rfl)
            | _ => cases hf
          · rw [if_neg hc] at ho; exact ho.elim
        | _ => exact ho.elim
      | _ => exact ho.elim
theorem dpAll_dropLast {G : Hp} : ∀ {vs : List V} {ds : List D}, DpAll K G vs ds → DpAll K G vs.dropLast ds.dropLast
  | _, _, .nil => .nil
  | _, _, .cons a .nil => .nil
  | _, _, .cons a (.cons b c) => .cons a (dpAll_dropLast (.cons b c))
theorem s_popT {i : Nat} {l : List Nat} {y : Str} {py ap cp pos tp : Pos} {k : Nat} {ts : List Expr} (hv : PE X (.Name y py) (tVar i)) (hl : (ap.endLine == cp.line) = true) (hg : PG X (.Tuple ts k tp) (gT X.K (.many l))) :
    PS X (.Assign [.Tuple ts k tp] (.Call (.Attribute (.Name y py) "pop" ap) [] [] cp) pos) (rdS X.K ca W me fun env => evS F env (.popT l i)) :=
  PS.imp (ps_asg (pe_bm0 PySem.F.plainAttrs_list PySem.F.slot_list_pop PySem.F.type_list_pop mt_pop hv rfl hl) hg rfl rfl rfl) fun Dn σ H ⟨S, He, Ge, G, env, me0, R0, ho⟩ => by
    simp only [evS] at ho
    cases q : env[i]? with
    | none => rw [q] at ho; exact ho.elim
    | some z =>
      rw [q] at ho
      cases z with
      | ow ds =>
        obtain ⟨p, vs, a1, a2, a3, a4, a5, a6⟩ := R0.o i ds q
        dsimp only at ho
        cases ql : ds.getLast? with
        | none => rw [ql] at ho; exact ho.elim
        | some d =>
          rw [ql] at ho
          dsimp only at ho
          have ql2 : ds[ds.length - 1]? = some d := by rw [← List.getLast?_eq_getElem?]; exact ql
          obtain ⟨v, v1, v2⟩ := dpAll_get a3 ql2
          cases es : setT (env.set i (.ow ds.dropLast)) (.many l) d with
          | ok e2 =>
            rw [es] at ho
            refine ⟨.ref p, a1, .inl ⟨rfl, _, SqL.of a2⟩, p, vs, v, rfl, rfl, a2, by rw [dpAll_len a3]; exact v1, ?_⟩
            exact gT_rs (R0.upd q a1 a2 (dpAll_dropLast a3)) v2 es fun σ2 R2 => ho _ _ _ R2
          | _ => rw [es] at ho; exact ho.elim
      | _ => exact ho.elim
/-! ### what may change an object -/
theorem on_okM {A B : Type} {P : Hp → B → A → Prop} {Dn : Ends} {S : Option Bor} {r : RM A} {f : A → List Sl → Out} {N : B → Hp → Prop} (h : OutS K ca W S He Ge Dn (onM r f)) (n : ∀ d e v H' G', r = .ok d e → RSG K S He Ge G' σ H' e → P G' v d → OutS K ca W S He Ge Dn (f d e) → N v H') : RsM K ca W S He Ge σ G P N r := by
  cases r with
  | ok d e => exact fun v H' G' R s p => n d e v H' G' rfl R p h
  | exc c e => exact fun H' G' R => h σ H' G' R
  | bad => exact h
theorem s_asgM {i : Nat} {m : M} {st : Stmt} (h : PS X st (tAsg (rdM X.K ca W fun env => evM F env m) (gName i))) : PS X st (rdS X.K ca W me fun env => evS F env (.asgM i m)) :=
  PS.imp h fun Dn σ H ⟨S, He, Ge, G, env, me0, R0, ho⟩ => by
    simp only [evS] at ho
    exact ⟨S, He, Ge, G, env, R0, on_okM ho fun d e v H1 G1 _ R1 p ho => ho _ _ _ (R1.set p)⟩
theorem s_retP {m : M} {st : Stmt} (h : PS X st (tRet (rdM X.K ca W fun env => evM F env m))) : PS X st (rdS X.K ca W false fun env => evS F env (.retP m)) :=
  PS.imp h fun Dn σ H ⟨S, He, Ge, G, env, me0, R0, ho⟩ => by
    cases S with
    | some z => cases me0
    | none =>
      simp only [evS] at ho
      exact ⟨none, He, Ge, G, env, R0, on_okM ho fun d e v H1 G1 _ R1 p ho => ho v H1 G1 R1.x p⟩
/-- a method's answer -/
theorem ret_met {Dn : Ends} {S : Option Bor} {d : D} {e : List Sl} {v : V} (ho : OutS K ca W S He Ge Dn (retO d e)) (R : RSG K S He Ge G σ H e) (p : Dp K G v d) : Dn.rt v H := by
  unfold retO at ho
  split at ho
  · rename_i k fs q
    obtain ⟨p0, dx, ws, c1, c2, c3, c4, c5, c6, c7⟩ := R.b 0 true k fs q
    rcases c6 with ⟨_, c6⟩ | ⟨c6, _⟩
    case inr => cases c6
    subst c6
    obtain ⟨d0, gs, e1, n⟩ := ho
    cases e1
    exact n v H G ws R.x c2 c3 c5 p
  · exact ho.elim
theorem s_retM {m : M} {st : Stmt} (h : PS X st (tRet (rdM X.K ca W fun env => evM F env m))) : PS X st (rdS X.K ca W me fun env => evS F env (.retM m)) :=
  PS.imp h fun Dn σ H ⟨S, He, Ge, G, env, me0, R0, ho⟩ => by
    simp only [evS] at ho
    exact ⟨S, He, Ge, G, env, R0, on_okM ho fun d e v H1 G1 _ R1 p ho => ret_met ho R1 p⟩
theorem s_exprM {m : M} {st : Stmt} (h : PS X st (tDrop (rdM X.K ca W fun env => evM F env m))) : PS X st (rdS X.K ca W me fun env => evS F env (.exprM m)) :=
  PS.imp h fun Dn σ H ⟨S, He, Ge, G, env, me0, R0, ho⟩ => by
    simp only [evS] at ho
    exact ⟨S, He, Ge, G, env, R0, on_okM ho fun d e v H1 G1 _ R1 p ho => ho _ _ _ R1⟩
theorem s_appL {i : Nat} {e : E} {y : Str} {py ap cp pos : Pos} {xe : Expr} (hv : PE X (.Name y py) (tVar i)) (hl : (ap.endLine == cp.line) = true) (ns : notStar xe = true) (he : PE X xe (rdE X.K ca W fun env => ev F env e)) :
    PS X (.Expr (.Call (.Attribute (.Name y py) "append" ap) [xe] [] cp) pos) (rdS X.K ca W me fun env => evS F env (.appL i e)) :=
  PS.imp (ps_expr (pe_bm PySem.F.plainAttrs_list PySem.F.slot_list_append PySem.F.type_list_append mt_append hv (pa_cons he pa_nil (star_cons ns)) rfl (few_one ns) hl (star_cons ns) rfl) rfl) fun Dn σ H ⟨S, He, Ge, G, env, me0, R0, ho⟩ => by
    simp only [evS] at ho
    cases q : env[i]? with
    | none => rw [q] at ho; exact ho.elim
    | some z =>
      rw [q] at ho
      cases z with
      | ln ds =>
        obtain ⟨p, vs, a1, a2, a3, a4, a5, _⟩ := R0.l i ds q
        refine ⟨.ref p, a1, .inl ⟨rfl, _, SqL.of a2⟩, R0.rd (on_ok ho R0 (Same.refl _) fun d v H1 G1 _ e p1 ho => ?_)⟩
        have b2 := e.a p _ a2
        split at ho
        · rename_i hz
          have R1 := R0.ext e
          obtain ⟨p2, vs2, b1, b3, b4, b5, b6, _⟩ := R1.l i ds q
          rw [a1] at b1
          cases b1
          refine ⟨p, vs, v, rfl, rfl, b2, by rw [dpAll_len a3]; exact hz, ho _ _ _ (R1.lnU q a1 b2 ⟨fun b u z => ?_, Same.refl _, fun b u z => ?_, fun _ _ _ n => n⟩ upd_same (dpAll_app (dpAll_mono e.b a3) (.cons p1 .nil)) b6)⟩
          · obtain ⟨n1, z⟩ := del_some z
            rw [del_ne n1, upd_ne n1]; exact z
          · have n1 : b ≠ p := ne_of_none z b6
            rw [del_ne n1, upd_ne n1]; exact R1.x.c b u z
        · exact ho.elim
      | _ => exact ho.elim
theorem s_retL {i : Nat} {e : E} {st : Stmt} (h : PS X st (tRet (rdE X.K ca W fun env => ev F env e))) : PS X st (rdS X.K ca W me fun env => evS F env (.retL i e)) :=
  PS.imp h fun Dn σ H ⟨S, He, Ge, G, env, me0, R0, ho⟩ => by
    simp only [evS] at ho
    cases q : env[i]? with
    | none => rw [q] at ho; exact ho.elim
    | some z =>
      rw [q] at ho
      cases z with
      | ln ds =>
        obtain ⟨p, vs, c6, c1, c2, c3, c5, R1⟩ := R0.seeLn q
        subst c6
        refine R1.rd (on_ok ho R0 (Same.upd c5) fun d v H1 G1 _ e p1 ho => ?_)
        split at ho
        · rename_i hf
          obtain ⟨d0, es, e0, n⟩ := ho
          cases e0
          exact n v H1 G vs (R0.back (Same.upd c5) e).x (e.a p _ c2) c3 c5 (flat_any p1 hf)
        · exact ho.elim
      | _ => exact ho.elim
theorem s_retLM {i : Nat} {m : M} {st : Stmt} (h : PS X st (tRet (rdM X.K ca W fun env => evM F env m))) : PS X st (rdS X.K ca W me fun env => evS F env (.retLM i m)) :=
  PS.imp h fun Dn σ H ⟨S, He, Ge, G, env, me0, R0, ho⟩ => by
    simp only [evS] at ho
    refine ⟨S, He, Ge, G, env, R0, on_okM ho fun d e v H1 G1 _ R1 p ho => ?_⟩
    unfold retLO at ho
    split at ho
    · rename_i ds q
      obtain ⟨p0, vs, c1, c2, c3, c4, c5, c6, _⟩ := R1.l i ds q
      subst c6
      obtain ⟨d0, es, e0, n⟩ := ho
      cases e0
      exact n v H1 G1 vs R1.x c2 c3 c5 p
    · exact ho.elim
theorem on_okB {Dn : Ends} {S : Option Bor} {r : RM D} {f g : List Sl → Out} {N : Bool → Hp → Prop} (h : OutS K ca W S He Ge Dn (onM r fun d e => match d with | .bool true => f e | .bool false => g e | _ => .bad))
    (n : ∀ b e H' G', RSG K S He Ge G' σ H' e → OutS K ca W S He Ge Dn (if b = true then f e else g e) → N b H') : RsM K ca W S He Ge σ G TrB N r ∧ ∀ d e, r = .ok d e → ∃ b, d = .bool b := by
  cases r with
  | ok d e =>
    dsimp only [onM] at h
    cases d with
    | bool b =>
      refine ⟨fun v H' G' R s p => ?_, fun d e q => by cases q; exact ⟨_, rfl⟩⟩
      cases p
      refine n b e H' G' R ?_
      cases b <;> exact h
    | _ => exact h.elim
  | exc c e => exact ⟨fun H' G' R => h σ H' G' R, fun d e q => by cases q⟩
  | bad => exact h.elim
theorem s_iffM {m : M} {a b : Ss} {xc : Expr} {xa xb : List Stmt} {pos : Pos} (hc : PT X xc (rdMT X.K ca W fun env => evM F env m)) (ha : PSs X xa (rdS X.K ca W me fun env => evSs F env a)) (hb : PSs X xb (rdS X.K ca W me fun env => evSs F env b)) :
    PS X (.If xc xa xb pos) (rdS X.K ca W me fun env => evS F env (.iffM m a b)) :=
  PS.imp (ps_if hc ha hb) fun Dn σ H ⟨S, He, Ge, G, env, me0, R0, ho⟩ => by
    simp only [evS] at ho
    refine ⟨S, He, Ge, G, env, R0, on_okB ho fun k e H1 G1 R1 ho => ?_⟩
    cases k with
    | true => rw [if_pos rfl] at ho ⊢; exact ⟨S, He, Ge, G1, e, me0, R1, ho⟩
    | false => rw [if_neg Bool.false_ne_true] at ho ⊢; exact ⟨S, He, Ge, G1, e, me0, R1, ho⟩
theorem s_whlM {m : M} {b : Ss} {xc : Expr} {xb : List Stmt} {pos : Pos} (po : PassesOwn (model X.prog X.w) X.A X.env X.xe) (hc : PT X xc (rdMT X.K ca W fun env => evM F env m)) (hb : PSs X xb (rdS X.K ca W me fun env => evSs F env b)) :
    PS X (.While xc xb [] pos) (rdS X.K ca W me fun env => evS F env (.whlM m b)) :=
  PS.imp (ps_while po hc hb) fun Dn σ H ⟨S, He, Ge, G, env, me0, R0, ho⟩ => by
    simp only [evS] at ho
    generalize hfb : (fun e => onM (evM F e m) fun d e2 => match d with
      | .bool true => evSs F e2 b
      | .bool false => .brk e2
      | _ => .bad) = fb at ho
    obtain ⟨m0, o, h0, ho⟩ := whl_spec (P := OutS X.K ca W S He Ge Dn) ho (fun z => z)
    refine ⟨fun k σ H => ∃ env G, RSG X.K S He Ge G σ H env ∧ whlN (fun _ => .ok true) fb k env = some o, ⟨m0, env, G, R0, h0⟩, ?_⟩
    rintro k σ H ⟨env, G, R0, h0⟩
    cases k with
    | zero => cases h0
    | succ k =>
      unfold whlN at h0
      dsimp only at h0
      refine ⟨S, He, Ge, G, env, R0, ?_⟩
      have efb : fb env = onM (evM F env m) fun d e2 => match d with
        | .bool true => evSs F e2 b
        | .bool false => .brk e2
        | _ => .bad := by rw [← hfb]
      rw [efb] at h0
      dsimp only
      cases ec : evM F env m with
      | bad =>
        rw [ec] at h0
        cases h0
        exact ho.elim
      | exc x e =>
        rw [ec] at h0
        cases h0
        exact ⟨fun H1 G1 R1 => ho _ _ _ R1, fun d e q => by cases q⟩
      | ok d e =>
        rw [ec] at h0
        dsimp only [onM] at h0
        cases d with
        | bool c =>
          refine ⟨fun c2 H1 G1 R1 s p => ?_, fun d e q => by cases q; exact ⟨_, rfl⟩⟩
          have p : PyData.bool c = .bool c2 := p
          injection p with p
          subst p
          cases c with
          | false =>
            cases h0
            dsimp only
            rw [if_neg Bool.false_ne_true]
            exact ho _ _ _ R1
          | true =>
            dsimp only
            rw [if_pos rfl]
            refine ⟨fun σ' H' => ∃ env G, RSG X.K S He Ge G σ' H' env ∧ whlN (fun _ => .ok true) fb k env = some o, fun σ' H' z => ⟨k, Nat.lt_succ_self _, z⟩, S, He, Ge, G1, e, me0, R1, ?_⟩
            dsimp only at h0
            show OutS X.K ca W S He Ge _ (evSs F e b)
            cases eb : evSs F e b with
            | next e1 => rw [eb] at h0; exact fun σ2 H2 G2 R3 => ⟨e1, G2, R3, h0⟩
            | cont e1 => rw [eb] at h0; exact fun σ2 H2 G2 R3 => ⟨e1, G2, R3, h0⟩
            | brk e1 => rw [eb] at h0; cases h0; exact ho
            | ret x => rw [eb] at h0; cases h0; exact ho
            | exc c2 e1 => rw [eb] at h0; cases h0; exact ho
            | bad => rw [eb] at h0; cases h0; exact ho.elim
        | _ =>
          cases h0
          exact ho.elim
theorem putF_at {v : V} : ∀ {l : List Str} {us : List V} {j : Nat} {x : Str}, l.Nodup → l[j]? = some x → j < us.length → putF x v (l.zip us) = l.zip (us.set j v)
  | [], us, j, x, _, h, _ => by simp at h
  | a :: l, [], j, x, _, _, h => by simp at h
  | a :: l, u :: us, 0, x, nd, h, _ => by
    simp at h
    subst h
    simp [putF]
  | a :: l, u :: us, j + 1, x, nd, h, hj => by
    simp only [List.getElem?_cons_succ] at h
    rw [List.nodup_cons] at nd
    have z : a ≠ x := fun e => by rw [e] at nd; exact nd.1 (List.mem_of_getElem? h)
    rw [List.zip_cons_cons, List.set_cons_succ, List.zip_cons_cons]
    have ih := putF_at (v := v) (us := us) nd.2 h (by simpa using hj)
    unfold putF
    rw [if_neg (by simpa using z), ih]
theorem putF_end {v : V} : ∀ {l : List Str} {us : List V} {x : Str}, l.Nodup → l[us.length]? = some x → putF x v (l.zip us) = l.zip (us ++ [v])
  | [], us, x, _, h => by simp at h
  | a :: l, [], x, nd, h => by
    simp at h
    subst h
    simp [putF]
  | a :: l, u :: us, x, nd, h => by
    simp only [List.length_cons, List.getElem?_cons_succ] at h
    rw [List.nodup_cons] at nd
    have z : a ≠ x := fun e => by rw [e] at nd; exact nd.1 (List.mem_of_getElem? h)
    rw [List.zip_cons_cons, List.cons_append, List.zip_cons_cons]
    have ih := putF_end (v := v) (us := us) nd.2 h
    unfold putF
    rw [if_neg (by simpa using z), ih]
theorem s_fld {i k j : Nat} {m : M} {y f : Str} {py ap pos : Pos} {val : Expr} (c : Cls X.K (clsA X.K k)) (na : NoAttr X.K (clsA X.K k) f) (hf : (clsF k)[j]? = some f) (hv : PE X (.Name y py) (tVar i)) (hm : PE X val (rdM X.K ca W fun env => evM F env m)) (hs : swapsWith val (some (.Attribute (.Name y py) f ap)) pos.line X.env = pure false) :
    PS X (.Assign [.Attribute (.Name y py) f ap] val pos) (rdS X.K ca W me fun env => evS F env (.fld i k j m)) :=
  PS.imp (ps_fld hv hm hs) fun Dn σ H ⟨S, He, Ge, G, env, me0, R0, ho⟩ => by
    simp only [evS] at ho
    refine ⟨S, He, Ge, G, env, R0, on_okM ho fun d e v H1 G1 _ R1 p ho => ?_⟩
    unfold fldO at ho
    split at ho
    · rename_i b k' fs q
      split at ho
      · rename_i hk
        obtain ⟨hk, hj⟩ := hk
        subst hk
        obtain ⟨p0, dx, ws, c1, c2, c3, c4, c5, c6, c7⟩ := R1.b i b _ fs q
        have hl := dpAll_len c3
        have l10 := clsF_len k'
        refine ⟨.ref p0, c1, p0, _, dx, _, rfl, c2, c, na, by rw [List.length_zip]; omega, ?_⟩
        have done : ∀ (ws' : List V) (gs : List D), putF f v ((clsF k').zip ws) = (clsF k').zip ws' → DpAll X.K G1 ws' gs → RSG X.K S He Ge G1 σ (upd H1 p0 (.ins (clsA X.K k') dx (putF f v ((clsF k').zip ws)))) (e.set i (.ob b k' gs)) := fun ws' gs ez hz => by
          rw [ez]
          refine R1.obU (vs := ws) (ws := ws') q c1 c2 ⟨fun b u z => ?_, Same.refl _, fun b u z => ?_, fun _ _ _ z => z⟩ upd_same hz c5
          · obtain ⟨n1, z⟩ := del_some z
            rw [del_ne n1, upd_ne n1]; exact z
          · have n1 : b ≠ p0 := ne_of_none z c5
            rw [del_ne n1, upd_ne n1]; exact R1.x.c b u z
        split at ho
        · rename_i hlt
          exact ho _ _ _ (done _ _ (putF_at (clsF_nd _) hf (by omega)) (dpAll_set j c3 p))
        · split at ho
          · rename_i he
            exact ho _ _ _ (done _ _ (putF_end (clsF_nd _) (by rw [hl, ← he]; exact hf)) (dpAll_app c3 (.cons p .nil)))
          · exact ho.elim
      · exact ho.elim
    · exact ho.elim
theorem s_new {lv i k f : Nat} {f0 : Addr} {fd : FuncData} {ps : List Str} {ms : Ms} {y z : Str} {py zp cp pos : Pos} {xe : Expr} {xs : List Expr} (nd : X.N.Nodup) (t1 : X.N[i]? = some y) (t2 : L2.Loc X.env.scope y) (t3 : X.fn y = true ∨ X.env.scope.names.lookup y = some .local) (M0 : Mk X.K (clsA X.K k) f0) (hb : Binds X.K fd ps [])
    (F0 : FnOk X.prog X.w X.K X.mg X.base (L2N.CX X.prog X.w) lv f0 fd ps (spM T ca X.K n f k)) (hr : Room (lv + 1) X.A) (hg : Gl X z) (hmg : X.mg z = some (.ref (clsA X.K k))) (hdb : (z == ("__debug__" : Str)) = false) (tk : L2N.Takes X W)
    (ha : PA X (xe :: xs) (rdMs X.K ca W fun env => evMs (evc T n) env ms)) (hn : (xe :: xs).all notStar = true) :
    PS X (.Assign [.Name y py] (.Call (.Name z zp) (xe :: xs) [] cp) pos) (rdS X.K ca W me fun env => evS (evc T n) env (.new i k f ms)) :=
  PS.imp (ps_set nd t1 t2 (pe_makeSD (E := WE W) M0 F0 hr hg hmg hb (fun σ => L2N.passAt tk σ) ha hdb hn) (sw_false rfl) t3) fun Dn σ H ⟨S, He, Ge, G, env, me0, R0, ho⟩ => by
    simp only [evS] at ho
    refine ⟨S, He, Ge, G, env, R0, ?_⟩
    dsimp only
    cases em : evMs (evc T n) env ms with
    | bad => rw [em] at ho; exact ho.elim
    | exc c e => rw [em] at ho; exact fun H1 G1 R1 => ho _ _ _ R1
    | ok ds e =>
      rw [em] at ho
      intro vs H1 G1 R1 s1 p1
      refine make_rd R1 p1 (Q := fun x H2 => _) ?_
      dsimp only [RM.bind] at ho
      unfold makeM at ho
      cases eo : metO (evc T n f (.tuple [] :: ds)) with
      | bad => rw [eo] at ho; exact ho.elim
      | exc c => rw [eo] at ho; exact fun H2 G2 R2 => ho _ _ _ R2
      | ok r =>
        rw [eo] at ho
        obtain ⟨d, fs⟩ := r
        cases d with
        | none => exact fun x dx H2 G2 ws n1 e1 g1 g2 g3 => ho _ _ _ (R1.obN e1 n1 g1 g2 g3)
        | _ => exact ho.elim
end
end Cw

set_option Elab.async false
set_option linter.all false
set_option maxRecDepth 100000
set_option maxHeartbeats 4000000
/-! While an exception is handled: lists walked to their end, sums, a comprehension. -/
namespace Cw
open PySem PySem.Spec PyProof.Rows L2 HotX

section
variable {prog : Program} {w : World} {A : Around} {E : Value → Shared → Prop} {s : Shared}
theorem hot_keep {x1 : Addr} {h h' : Heap} (hot : HotAt A x1 h) (k : ∀ o, h.get? x1 = some o → h'.get? x1 = some o) : HotAt A x1 h' := by
  obtain ⟨a, o, vs, e, d, c⟩ := hot
  exact ⟨a, o, vs, k o e, d, c⟩
theorem next_end_hot {it lst x1 : Addr} {i : Nat} {items : Array Value} {Q : Option Value → Shared → Prop} (hot : HotAt A x1 s.heap) (hne : x1 ≠ it) (hit : s.heap.IsListIter it lst i) (hl : s.heap.IsList lst items) (hx : items[i]? = none)
    (hQ : ∀ h', Heap.ExtBut it s.heap h' → Q none { s with heap := h' }) : wpAny (model prog w) A (pyNext (.ref it)) Q E s := by
  obtain ⟨o, ho, hc, hd⟩ := id hit
  obtain ⟨ol, hol, hcl, nl, hdl⟩ := hl
  obtain ⟨hh, o1, vs1, h1, d1, c1⟩ := hot
  unfold pyNext
  refine wpAny_bind (wpAny_attempt (wpAny_callSpecial?_slot (name := Str.ofString "__next__") hit.typeIs slot_listiter_next (wpAny_call_entry slot_listiter_next hit.typeIs entry_listiter_next ?body (args_listiter_next _))))
  case body =>
    show wpAny _ _ (field (.ref it) 0 >>= _) _ _ s
    refine wpAny_bind (wpAny_field ho hd (x := .ref lst) rfl ?_)
    show wpAny _ _ (if (Value.ref lst == Value.none) = true then _ else _) _ _ s
    rw [if_neg (show ¬ ((Value.ref lst == Value.none) = true) from Bool.false_ne_true)]
    show wpAny _ _ (field (.ref it) 1 >>= _) _ _ s
    refine wpAny_bind (wpAny_field ho hd (x := .int i 0) rfl ?_)
    show wpAny _ _ (seqItems? (.ref lst) >>= _) _ _ s
    refine wpAny_bind (wpAny_seqItems hol hdl ?_)
    simp only [Int.toNat_natCast, hx]
    refine wpAny_bind (wpAny_rule (wpAny_bind (wpAny_setField ho hd (by simp) ?_)))
    have k1 := Heap.SameBut.update s.heap it (Obj.mapFields (fun x => x.setIfInBounds 0 Value.none))
    show wpAny _ _ (newExc (.type "StopIteration") [] >>= _) _ _ _
    refine wpAny_bind ?_
    simp only [newExc, newTuple]
    refine wpAny_bind (wpAny_newObj_type ?_ (by size_fits))
    refine wpAny_bind (m := firstArgMember _ _) (wpAny_of_eq (a := Value.none) (by first | rfl | (simp only [firstArgMember]; rfl)) ?_)
    refine wpAny_newObj_type ?_ (by size_fits)
    have e1 : ∀ (g : Array Value → Array Value), (s.heap.update it (Obj.mapFields g)).get? x1 = some o1 := fun g => by rw [Heap.get?_update_other _ _ (Ne.symm hne)]; exact h1
    refine raiseNew_hot ⟨hh, o1, vs1, Heap.get?_push_of_some _ (Heap.get?_push_of_some _ (e1 _)), d1, c1⟩ (Nat.ne_of_lt (Heap.lt_size (Heap.get?_push_of_some _ (e1 _)))) (Heap.get?_push_size _ rfl) rfl (by first | (simp; done) | (simp; omega) | (simp only [Array.size_append]; simp; omega)) ?_
    refine wpAny_bind (wpAny_isInstance (T := "StopIteration") (b := true) ⟨_, Heap.get?_update_self _ (Heap.get?_push_size _ rfl) rfl, rfl⟩ isSubtype_stop ?_)
    refine wpAny_pure (hQ _ fun b u nb e => ?_)
    have e3 : ∀ (g : Array Value → Array Value), (s.heap.update it (Obj.mapFields g)).get? b = some u := fun g => by rw [Heap.get?_update_other _ _ (Ne.symm nb)]; exact e
    exact (Heap.get?_update_other _ _ (Nat.ne_of_gt (Heap.lt_size (Heap.get?_push_of_some _ (e3 _))))).trans (Heap.get?_push_of_some _ (Heap.get?_push_of_some _ (e3 _)))
theorem walks_hot {x1 : Addr} (I ax : Addr) (hne : ax ≠ I) (hx : x1 ≠ I) (items : Array Value) :
    Walks prog w A I [I, ax, x1] [I] items.size (fun i v => items[i]? = some v) (fun i h => h.IsListIter I ax i ∧ h.IsList ax items ∧ HotAt A x1 h) where
  sub := fun b hb => by simp at hb; simp [hb]
  frame := fun i h h' st hk => ⟨st.1.at fun o e => hk I (by simp) o e, st.2.1.at fun o e => hk ax (by simp) o e, hot_keep st.2.2 fun o e => hk x1 (by simp) o e⟩
  item := fun i s Q E hi st hQ => by
    refine wpAny_pyNext_list_item st.1 st.2.1 (x := items[i]) (by simp [hi]) fun h' hit' hs' => ?_
    have kk : ∀ b o, b ∉ [I] → s.heap.get? b = some o → h'.get? b = some o := fun b o hb e => hs'.extBut b o (fun h => hb (by simp [h])) e
    exact hQ _ h' s.toks (by simp [hi]) ⟨hit', st.2.1.extBut hs'.extBut hne, hot_keep st.2.2 fun o e => kk x1 o (by simpa using hx) e⟩ kk
  done := fun s Q E st hQ => next_end_hot st.2.2 hx st.1 st.2.1 (by simp) fun h' he' => hQ h' s.toks fun b o hb e => he' b o (fun h => hb (by simp [h])) e
  self := fun i s Q E st hQ => wpAny_pyIter_listiter st.1 hQ
theorem sum_hot {l x1 : Addr} {its : List Value} {ns : List Int} {Q : Value → Shared → Prop} (hot : HotAt A x1 s.heap) (hl : s.heap.IsList l its.toArray) (hi : IntsAre its ns)
    (h : ∀ h' tk t', (∀ b o, s.heap.get? b = some o → h'.get? b = some o) → Q (.int ns.sum t') { s with heap := h', toks := tk }) : wpAny (model prog w) A (call (.builtin "sum") [.ref l]) Q E s := by
  obtain ⟨xs, e⟩ := hi.allInts.items
  have hn : numsOf (intItems xs).toList = ns := by rw [← e]; exact hi.numsOf
  rw [nums_intItems] at hn
  rw [e] at hl
  have lx : x1 < s.heap.objs.size := by obtain ⟨_, o, _, e1, _⟩ := hot; exact Heap.lt_size e1
  refine call_sum_walkG (iter_intList hl fun s2 es st hfp hlI => ?_)
  subst es
  refine ⟨_, _, _, _, _, _, numAt xs, rfl, walks_hot (A := A.in1) (x1 := x1) _ l hlI (Nat.ne_of_lt lx) (intItems xs), ⟨st.1, st.2, hot_keep hot fun o q => Heap.get?_push_of_some _ q⟩, fun b hb => ?_, (fun _ _ => intItems_at), fun h' tk t' hk => ?_⟩
  · rcases List.mem_cons.mp hb with rfl | hb
    · exact hfp _ (by simp)
    · rcases List.mem_cons.mp hb with rfl | hb
      · exact hfp _ (by simp)
      · have eb : b = x1 := by simpa using hb
        subst eb
        exact Nat.lt_trans lx (hfp _ List.mem_cons_self)
  · have z := h h' tk t' (old_kept hk)
    have e2 : preSum (numAt xs) (intItems xs).size = ns.sum := by
      have e3 : (intItems xs).size = xs.size := by simp [intItems]
      rw [e3, preSum_eq, List.take_of_length_le (by simp), hn]
    rw [e2]
    exact z
end
section
variable {X : Cx}
theorem paired_ints : ∀ {bs : List Bool} {vs ys : List Value}, vs = bs.map Value.bool → Paired (fun v y => ∃ b t, v = Value.bool b ∧ y = Value.int (if b then 1 else 0) t) vs ys → IntsAre ys (bs.map fun b => if b then (1 : Int) else 0)
  | [], vs, ys, e, p => by
    subst e
    cases p
    exact .nil
  | b :: bs, vs, ys, e, p => by
    subst e
    cases p with
    | cons h r =>
      obtain ⟨c, t, h1, h2⟩ := h
      cases h1
      subst h2
      exact .cons _ _ (paired_ints rfl r)
theorem vals_bools : ∀ {bs : List Bool} {us : List Value}, Vals (bs.map V.bl) us → us = bs.map Value.bool
  | [], us, r => by cases r; rfl
  | b :: bs, us, r => by
    cases r with
    | cons r1 r2 =>
      have e := vals_bools r2
      have e1 : _ = Value.bool b := r1
      rw [e, e1]
      rfl
/-- sum([int(flag) for flag in flags]) -/
theorem pe_sumHot {i : Nat} {y z : Str} {p0 p1 p2 p3 p4 p5 cp lp : Pos} {scope : Scope} (hc : L2H.HotC X) (hgs : Gl X "sum") (hms : X.mg "sum" = none) (hmi : X.mg "int" = none) (hN : X.N[i]? = some y) (hv : Vis X.env.scope y) (hd : (y == ("__debug__" : Str)) = false) (hcd : (y == ("__classdict__" : Str)) = false)
    (hfree : ∀ v ∈ scope.names, v.2 ≠ .free) (hcell : ∀ v ∈ scope.names, v.2 ≠ .cell) (hkind : scope.kind = .function) (hnames : ∀ v ∈ scope.names, v.2 = .local → scope.names.lookup v.1 = some .local) (hz : scope.names.lookup z = some .local) (hzd : (z == ("__debug__" : Str)) = false) (hi : scope.names.lookup ("int" : Str) = some .globalImplicit) :
    PE X (.Call (.Name "sum" p0) [.ListComp (.Call (.Name "int" p1) [.Name z p2] [] p3) [⟨.Name z p4, .Name y p5, [], 0⟩] scope lp] [] cp) (fun σ H Q => ∃ a bs, σ[i]? = some (some (.ref a)) ∧ SqL X.K H a (bs.map V.bl) ∧ Q (.int (cntB bs)) H) := by
  refine ⟨fun pins s σ H Q I ⟨a, bs, e1, e2, q⟩ => ?_⟩
  refine wpAny_Call_Name_kw (ld_blt I hgs hms boot_sum ?_)
  refine PyProof.Rows.callWith_builtin1 (args_cons ?_ rfl) rfl rfl
  refine wpAny_ListComp_walk (fun _ => true) (fun v y => ∃ b t, v = Value.bool b ∧ y = Value.int (if b then 1 else 0) t) hfree hcell hkind hnames hz (thn ((pe_var hN hv hd hcd).run pins s σ H (fun v H1 => v = .ref a ∧ H1 = H) I ⟨_, e1, rfl, rfl⟩) fun u s1 ⟨v, H1, I1, r1, q1, q2⟩ => ?_) (fun _ => rfl)
  subst q1 q2
  obtain rfl : u = Value.ref a := r1
  obtain ⟨its, rv, hl, hz2⟩ := I1.list e2
  have ev := vals_bools rv
  subst ev
  obtain ⟨x1, hot⟩ := hc.at I1
  have lx : x1 < s1.heap.objs.size := by obtain ⟨_, o, _, e1, _⟩ := hot; exact Heap.lt_size e1
  have hl' := hl.isList
  have la : a < s1.heap.objs.size := by obtain ⟨_, e, _⟩ := hl'; exact Heap.lt_size e
  obtain ⟨mb, b1, b2⟩ := I1.mod.blt
  refine wpAny_pyIter_list hl' ?_
  have old : ∀ {h' : Heap}, (∀ b o, b ∉ [s1.heap.objs.size] → (s1.heap.push { cls := .type "list_iterator", data := .fields #[.ref a, .int 0 0] }).get? b = some o → h'.get? b = some o) → ∀ b o, s1.heap.get? b = some o → h'.get? b = some o := fun {h'} hk b o e => old_kept hk b o e
  refine ⟨_, _, _, _, _, _, rfl, walks_hot (x1 := x1) s1.heap.objs.size a (Nat.ne_of_lt la) (Nat.ne_of_lt lx) (bs.map Value.bool).toArray, ?_, ⟨⟨_, Heap.get?_push_size _ rfl, rfl, rfl⟩, hl'.push _, hot_keep hot fun o q => Heap.get?_push_of_some _ q⟩, fun b hb => ?_, ⟨fun C j v s3 m3 E' hv3 hn3 hm3 hk3 ht3 => ?_, fun C j v s3 m3 E' hv3 hp3 hn3 hm3 hk3 ht3 => ?_⟩, fun D h' tk ys vs hD hlD hpl hlen hP hF hk => ?_⟩
  · have := hz2
    simpa using this
  · show b < (s1.heap.push _).objs.size
    rw [Heap.size_push]
    have hb2 : b = s1.heap.objs.size ∨ b = a ∨ b = x1 := by simpa using hb
    rcases hb2 with rfl | rfl | rfl
    · exact Nat.lt_succ_self _
    · exact Nat.lt_succ_of_lt la
    · exact Nat.lt_succ_of_lt lx
  · exact wpAny_pure ⟨rfl, s3.heap, s3.toks, rfl, fun _ _ e => e⟩
  · have kk := old (h' := s3.heap) hk3
    obtain ⟨bv, rfl⟩ : ∃ bv, v = Value.bool bv := by
      have q3 : (bs.map Value.bool).toArray[j]? = some v := hv3
      simp only [List.getElem?_toArray, List.getElem?_map] at q3
      cases q4 : bs[j]? with
      | none => rw [q4] at q3; cases q3
      | some bv => rw [q4] at q3; exact ⟨bv, (Option.some.inj q3).symm⟩
    refine Call_ (Calls.Name_function_global (env := compEnv scope C X.env) hkind hi (Calls.loadGlobal_builtin (env := compEnv scope C X.env) (mg := X.mg) (mb := mb) (v := .type "int") ?_ hmi ?_ ((b2 "int" (by decide)).trans boot_int) ?_)) rfl
    · show s3.heap.Ns X.env.globals X.mg
      rw [I1.ok.glob]
      exact (I1.mod.glob.keeps I1.bk).keeps kk
    · show s3.heap.Ns X.env.builtins mb
      rw [I1.ok.blt]
      exact (b1.keeps I1.bk).keeps kk
    · refine PyProof.Rows.callWith_type1 (args_cons (wpAny_Name (wpAny_loadName_local (env := compEnv scope C X.env) hkind hz hn3 hm3 ?_) hzd) rfl) rfl rfl
      refine args_nil ?_
      exact call_int_bool ⟨⟨bv, _, rfl, rfl⟩, _, _, rfl, fun _ _ e => e⟩
  · refine args_nil ?_
    have kk := old hk
    have hv2 : vs = bs.map Value.bool := by
      apply List.ext_getElem?
      intro j
      by_cases hj : j < vs.length
      · have := hP j vs[j] (List.getElem?_eq_getElem hj)
        rw [List.getElem?_eq_getElem hj]
        simpa using this.symm
      · rw [List.getElem?_eq_none (by omega), List.getElem?_eq_none (by simp at hlen ⊢; omega)]
    have hF2 : Paired (fun v y => ∃ b t, v = Value.bool b ∧ y = Value.int (if b then 1 else 0) t) vs ys.toList := by
      have : vs.filter (fun _ => true) = vs := List.filter_eq_self.mpr fun _ _ => rfl
      rw [this] at hF
      exact hF
    have hI := paired_ints hv2 hF2
    refine sum_hot (s := { s1 with heap := h', toks := tk }) (its := ys.toList) (hot_keep hot fun o e => kk x1 o e) (by simpa using hlD) hI fun h2 tk2 t2 hk2 => ?_
    exact ⟨.int _, H1, I1.kept fun b o e => hk2 b o (kk b o e), ⟨_, rfl⟩, q⟩
end
end Cw

set_option Elab.async false
set_option linter.all false
set_option maxRecDepth 100000
set_option maxHeartbeats 4000000
/-! A def that tells an exception's word, called where the exception is handled. -/
namespace Cw
open PySem PySem.Spec PyProof.Rows L2

/-! ### a def's promise, of the exception that is handled -/
theorem fnW_of {CX : CXT} {P : Program} {w : World} {K : PySem.W.Frag} {mg : Str → Option Value} {base : Heap} {k : Nat} {f : Addr} {fd : FuncData} {x : Str} {params : Arguments} {body : List Stmt} {scope : Scope} {N ps : List Str} {sp : Addr × Obj → Sp}
    (F : FunD K x x params body scope [] [] f fd) (S : FnScope N ps scope) (len : ∀ q vs H Q E, sp q vs H Q E → vs.length = ps.length)
    (hbody : ∀ (cdv : Value) (A : Around) (out : List Env) (s : Shared) (H : Hp) (vs : List V) (Q : VK) (E : XK) (q : Addr × Obj), L2H.Hot1 A q → L2H.RoomH k (A.deeper (envOfC x scope s.heap.objs.size f cdv)) → sp q vs H Q E →
      ∃ t, PSs (L2H.cxH CX P w K mg base N x scope f cdv A out s H E q) body t ∧ t { nx := fun _ H' => Q .non H', rt := Q } (L2.start N vs) H) : FnW P w K mg base CX (k + 1) f fd ps sp := by
  obtain ⟨oc, od, dV, kV, doc, pm, an, cdv, ct, osl, rfl, lk, hcd, _, _⟩ := F.ex
  refine ⟨len, fun A out s H args us vs Q E q hr hot pin e0 hb r hq => ?_⟩
  have hl := len _ _ _ _ _ hq
  have inK : K.In s.heap := e0.mod.kin.keeps fun b o e => (e0.bs b o e).1
  have lim : s.heap.NoLimit := e0.mod.nolimit.keeps fun b o e => (e0.bs b o e).1
  refine codeAny_call_function hr.depth (inK _ _ lk) rfl S.co S.gen rfl (PySem.W.codeRec_of inK hcd) (hb _ _ _ _ ?_)
  refine wpAny_newFunctionEnv_cells S.kind (fun y hy => ?_) fun env he s1 x1 => ?_
  · rcases S.par y.1 (List.of_mem_zip (show (y.1, y.2) ∈ ps.zip us from hy)).1 with z | z
    · exact .inl z
    · exact .inr ⟨z, PySem.W.cellsFrom_some _ _ _ (.inl z)⟩
  · subst he
    refine ⟨lim.keeps x1.toInCall.keep, codeAny_func ?_⟩
    obtain ⟨t, ht, hq2⟩ := hbody cdv A out s H vs Q E q hot (hr.deeper _) hq
    refine wpAny_mono (ht.run [] s1 (L2.start N vs) H _ (L2H.inv_startH S pin e0 hl r x1) hq2) (fun fl s2 hs => ?_) fun e s2 hs => hs
    cases fl with
    | ret u =>
      obtain ⟨v, σ2, H2, J, rv, z⟩ := hs
      exact ⟨v, H2, J.os, J.bare, J.base, J.hok, rv, z⟩
    | next =>
      obtain ⟨σ2, H2, J, z⟩ := hs
      exact ⟨.non, H2, J.os, J.bare, J.base, J.hok, rfl, z⟩
    | brk => obtain ⟨_, _, _, z⟩ := hs; exact z.elim
    | cont => obtain ⟨_, _, _, z⟩ := hs; exact z.elim
section
variable {X : Cx} {CX : CXT} {k : Nat} {f : Addr} {fd : FuncData} {ps : List Str} {sp : Addr × Obj → Sp} {E : XK} {x : Str} {e : Expr} {t : TA} {np pos : Pos}
theorem pe_callW (F : FnW X.prog X.w X.K X.mg X.base CX k f fd ps sp) (hr : L2H.RoomH k X.A) {q : Addr × Obj} (hq : L2H.Hot1 X.A q) (hp : q ∈ X.pn) (hg : Gl X x) (hm : X.mg x = some (.ref f)) (hk : PySem.W.keepIn X.K (.ref f) = true) (hb : Binds X.K fd ps []) (hx : ∀ σ, PassesAt CX X σ E)
    (ha : PA X [e] t) (hdb : (x == ("__debug__" : Str)) = false) (ns : notStar e = true) : PE X (.Call (.Name x np) [e] [] pos) (fun σ H Q => t σ H fun vs H1 => sp q vs H1 Q E) := by
  refine ⟨fun pins s σ H Q I h => ?_⟩
  refine wpAny_Call_Name_kw (ld_glob I hg hm ?_ hdb)
  refine PySem.W.callWith_K (h₀ := X.base) I.ok.mod.kin hk (thn (ha.run pos pins s σ H _ I h) fun us s1 ⟨vs, H1, I1, r, z⟩ => ⟨I1.kIn, ?_⟩) (star_cons ns) rfl
  have lu : us.length = ps.length := by rw [← r.length]; exact F.len _ _ _ _ _ z
  have b := hb s1 us I1.kIn (by rw [List.append_nil]; exact lu)
  rw [List.append_nil] at b
  have Pq := I1.pin q (List.mem_append_left _ hp)
  refine wpAny_call (codeAny_mono (F.go X.A X.stack s1 H1 ⟨us, []⟩ us vs Q E q hr hq ⟨Pq.1, Pq.2.1, fun y => (List.mem_cons.mp (I1.stkSub q.1 y)).elim Pq.2.2.1 Pq.2.2.2.1, Pq.2.2.2.2⟩ I1.env0 b r z) fun r2 s2 y => ?_)
  cases r2 with
  | error e => exact hx σ pins H1 s1 e s2 I1 y
  | ok fl =>
    cases fl with
    | ret u => exact I1.after y
    | _ => exact y.elim
end

/-! ### isinstance of the handled exception -/
section
variable {X : Cx} {a D : Addr} {oe : Obj}
theorem call_isW (hp : (a, oe) ∈ X.pn) (C : ExcC X.K D) (hz : Zc (.ref D) none oe) (hf : ∃ vs, oe.data = .fields vs) : CallR X (.builtin "isinstance") (rIsE X.K D a) := by
  intro pins s σ H xs us Q I r ⟨c, cv, b, ex, hcv, e, q⟩
  subst ex
  obtain ⟨u1, u2, rfl, r1, r2⟩ := vals2 r
  obtain rfl : u1 = Value.ref a := r1
  obtain rfl := hcv _ r2
  have hget := (I.pin (a, oe) (List.mem_append_left _ hp)).1
  obtain ⟨vs, hv⟩ := hf
  have J : PySem.W.InstAt s.heap a oe D none := by
    obtain ⟨oc, od, oda, osl⟩ := oe
    obtain ⟨h1, h2⟩ := hz
    dsimp only at h1 h2 hv
    subst h1 h2 hv
    exact ⟨hget, rfl, rfl, trivial⟩
  exact PySem.W.kia_one (PySem.W.handS_kitx_exc C.hg C.hk C.hs C.hd C.ha C.hn C.ht C.hm) I.kIn J e (fun z => nomatch z) fun tk => ⟨.bl b, H, I.kept (t' := tk) fun _ _ z => z, rfl, q⟩
/-- what the body of such a def leans on -/
structure WordCx (X : Cx) (cs : List Str) (sc : Scope) (c : Str) (a D : Addr) (oe : Obj) : Prop where
  hN : X.N = (["e", "flags"] : List Str)
  hsc : X.env.scope = sc
  hfn : ∀ y, X.fn y = true
  pin : (a, oe) ∈ X.pn
  hot : L2H.HotC X
  un : X.A.units + 65 < cLine
  exc : ExcC X.K D
  zc : Zc (.ref D) none oe
  fl : ∃ vs, oe.data = .fields vs
  blt : ∀ x ∈ (["isinstance", "sum", "int", "ValueError"] : List Str), X.mg x = none
  cls : ∀ k ∈ cs, ∃ C, X.mg k = some (.ref C) ∧ PySem.W.kitOne X.K (.ref D) (.ref C) = some (isSub c k)
  ve : PySem.W.kitOne X.K (.ref D) (.type "ValueError") = some true

/-! ### the look at such a def -/
def glW (sc : Scope) (x : Str) : Bool := decide (sc.names.lookup x = some .globalImplicit) && !(x == ("__debug__" : Str))
def isW (sc : Scope) (k : Str) (x : Expr) : Bool := match x with
  | .Call (.Name f _) [.Name e _, .Name y _] [] _ => decide (f = "isinstance") && decide (e = "e") && decide (y = k) && glW sc k
  | _ => false
def allW (sc : Scope) : List Str → List Expr → Bool
  | [], [] => true
  | k :: ks, x :: xs => isW sc k x && allW sc ks xs
  | _, _ => false
def strsW : List Str → List Expr → Bool
  | [], [] => true
  | k :: ks, x :: xs => (match x with
    | .Constant (.str c) _ _ => decide (c = k)
    | _ => false) && strsW ks xs
  | _, _ => false
def sumW (sc : Scope) (x : Expr) : Bool := match x with
  | .Call (.Name f _) [.ListComp (.Call (.Name g _) [.Name z _] [] _) [⟨.Name z2 _, .Name y _, [], 0⟩] s2 _] [] _ => decide (f = "sum") && decide (g = "int") && decide (z = z2) && decide (y = "flags") && decide (sc.names.lookup ("sum" : Str) = some .globalImplicit) &&
      (s2.names.all fun v => !decide (v.2 = .free) && !decide (v.2 = .cell) && (!decide (v.2 = .local) || decide (s2.names.lookup v.1 = some .local))) && (match s2.kind with | .function => true | _ => false) && decide (s2.names.lookup z2 = some .local) && !(z2 == ("__debug__" : Str)) && decide (s2.names.lookup ("int" : Str) = some .globalImplicit)
  | _ => false
def testW (sc : Scope) (x : Expr) : Bool := match x with
  | .BoolOp .Or [.Compare a [.NotEq] [.Constant (.int i) _ _] _, .UnaryOp .Not b _] _ => sumW sc a && decide (i = 1) && isW sc "ValueError" b
  | _ => false
def endW (sc : Scope) (ws : List Str) (x : List Stmt) : Bool := match x with
  | [.If c [.Return (some (.Constant (.str o) _ _)) _] [] _, .Return (some (.Subscript (.List ss _) (.Call (.Attribute (.Name y _) m ap) [.Constant (.bool b) _ _] [] cp) _)) _] =>
    testW sc c && decide (o = "other") && strsW ws ss && decide (y = "flags") && decide (m = "index") && decide (b = true) && (ap.endLine == cp.line)
  | _ => false
def wordB (sc : Scope) (cs ws : List Str) (x : List Stmt) : Bool := decide (sc.names.lookup ("e" : Str) = some .local) && decide (sc.names.lookup ("flags" : Str) = some .local) && decide (sc.names.lookup ("isinstance" : Str) = some .globalImplicit) && decide (cs.length ≤ 20) && decide (cs.length = ws.length) && (match x with
  | .Assign [.Name y _] (.List es _) _ :: .Expr (.Call (.Attribute (.Name y2 _) m ap) [e5] [] cp) _ :: r => decide (y = "flags") && decide (y2 = "flags") && decide (m = "append") && (ap.endLine == cp.line) && allW sc cs (es ++ [e5]) && endW sc ws r
  | .Assign [.Name y _] (.List es _) _ :: r => decide (y = "flags") && allW sc cs es && endW sc ws r
  | _ => false)
section
variable {X : Cx} {a D : Addr} {oe : Obj} {cs ws : List Str} {sc : Scope} {c : Str}
theorem WordCx.gl (Z : WordCx X cs sc c a D oe) {x : Str} (h : sc.names.lookup x = some .globalImplicit) : Gl X x := by
  show X.env.scope.names.lookup x = _
  rw [Z.hsc]; exact h
theorem WordCx.var (Z : WordCx X cs sc c a D oe) (h : sc.names.lookup ("e" : Str) = some .local) {p : Pos} : PE X (.Name "e" p) (tVar 0) :=
  pe_var (by rw [Z.hN]; rfl) (.inl (by rw [Z.hsc]; exact h)) (by decide) (by decide)
theorem WordCx.flg (Z : WordCx X cs sc c a D oe) (h : sc.names.lookup ("flags" : Str) = some .local) {p : Pos} : PE X (.Name "flags" p) (tVar 1) :=
  pe_var (by rw [Z.hN]; rfl) (.inl (by rw [Z.hsc]; exact h)) (by decide) (by decide)
/-- isinstance(e, K) -/
theorem isW_ok (Z : WordCx X cs sc c a D oe) (he : sc.names.lookup ("e" : Str) = some .local) (hi : sc.names.lookup ("isinstance" : Str) = some .globalImplicit) {k : Str} {x : Expr} (hk : k ∈ cs) (h : isW sc k x = true) :
    PE X x (fun σ H Q => σ[0]? = some (some (.ref a)) ∧ Q (.bl (isSub c k)) H) ∧ notStar x = true := by
  unfold isW at h
  split at h
  · simp only [Bool.and_eq_true, decide_eq_true_eq, glW, Bool.not_eq_true'] at h
    obtain ⟨⟨⟨h1, h2⟩, h3⟩, h4, h5⟩ := h
    subst h1 h2 h3
    obtain ⟨C, m1, m2⟩ := Z.cls _ hk
    refine ⟨PE.imp (pe_callB (call_isW Z.pin Z.exc Z.zc Z.fl) (Z.gl hi) (Z.blt _ (by simp)) boot_isinstance (pa_cons (Z.var he) (pa_cons (pe_glob (v := .ref C) (Z.gl h4) m1 rfl h5) pa_nil rfl) rfl) (by decide) (by decide) rfl rfl) fun σ H Q ⟨e0, q⟩ => ?_, rfl⟩
    exact ⟨_, e0, .ref C, .ref C, _, rfl, fun u r => r, m2, q⟩
  · cases h
theorem allW_ok (Z : WordCx X cs sc c a D oe) (he : sc.names.lookup ("e" : Str) = some .local) (hi : sc.names.lookup ("isinstance" : Str) = some .globalImplicit) : ∀ {ks : List Str} {xs : List Expr}, (∀ k ∈ ks, k ∈ cs) → allW sc ks xs = true →
    PA X xs (fun σ H Q => σ[0]? = some (some (.ref a)) ∧ Q (ks.map fun k => V.bl (isSub c k)) H) := by
  intro ks
  induction ks with
  | nil =>
    intro xs _ h
    cases xs with
    | nil => exact PA.imp pa_nil fun σ H Q ⟨_, q⟩ => q
    | cons _ _ => cases h
  | cons k ks ih =>
    intro xs hm h
    cases xs with
    | nil => cases h
    | cons x xs =>
      unfold allW at h
      rw [Bool.and_eq_true] at h
      obtain ⟨p1, p2⟩ := isW_ok Z he hi (hm k List.mem_cons_self) h.1
      exact PA.imp (pa_cons p1 (ih (fun k hk => hm k (List.mem_cons_of_mem _ hk)) h.2) (star_cons p2)) fun σ H Q ⟨e0, q⟩ => ⟨e0, e0, q⟩
theorem strsW_ok : ∀ {ks : List Str} {xs : List Expr}, strsW ks xs = true → PA X xs (fun _ H Q => Q (ks.map V.str) H) := by
  intro ks
  induction ks with
  | nil =>
    intro xs h
    cases xs with
    | nil => exact pa_nil
    | cons _ _ => cases h
  | cons k ks ih =>
    intro xs h
    cases xs with
    | nil => cases h
    | cons x xs =>
      unfold strsW at h
      rw [Bool.and_eq_true] at h
      obtain ⟨h1, h2⟩ := h
      split at h1
      · rw [decide_eq_true_eq] at h1
        subst h1
        exact PA.imp (pa_cons pe_str (ih h2) rfl) fun σ H Q q => q
      · cases h1
/-- isinstance(e, ValueError) -/
theorem isV_ok (Z : WordCx X cs sc c a D oe) (he : sc.names.lookup ("e" : Str) = some .local) (hi : sc.names.lookup ("isinstance" : Str) = some .globalImplicit) {x : Expr} (h : isW sc "ValueError" x = true) :
    PT X x (fun σ H Q => σ[0]? = some (some (.ref a)) ∧ Q true H) := by
  unfold isW at h
  split at h
  · simp only [Bool.and_eq_true, decide_eq_true_eq, glW, Bool.not_eq_true'] at h
    obtain ⟨⟨⟨h1, h2⟩, h3⟩, h4, h5⟩ := h
    subst h1 h2 h3
    have hT : ∀ p, PE X (.Name "ValueError" p) (tC (.ty "ValueError")) := fun p => pe_bltn (Z.gl h4) (Z.blt _ (by simp)) (by decide +kernel) rfl (by decide) h5
    refine ⟨fun pins s σ H Q I ⟨e0, q⟩ => (pt_val (pe_callB (call_isW Z.pin Z.exc Z.zc Z.fl) (Z.gl hi) (Z.blt _ (by simp)) boot_isinstance (pa_cons (Z.var he) (pa_cons (hT _) pa_nil rfl) rfl) (by decide) (by decide) rfl rfl) (by intro _; rfl)).run pins s σ H Q I ?_⟩
    exact ⟨_, e0, .ty "ValueError", .type "ValueError", true, rfl, fun u r => r, Z.ve, true, rfl, q⟩
  · cases h
theorem testW_ok (Z : WordCx X cs sc c a D oe) (he : sc.names.lookup ("e" : Str) = some .local) (hfl : sc.names.lookup ("flags" : Str) = some .local) (hi : sc.names.lookup ("isinstance" : Str) = some .globalImplicit) {x : Expr} (h : testW sc x = true) :
    PT X x (fun σ H Q => σ[0]? = some (some (.ref a)) ∧ ∃ p bs, σ[1]? = some (some (.ref p)) ∧ SqL X.K H p (bs.map V.bl) ∧ Q (!(cntB bs == 1)) H) := by
  unfold testW at h
  split at h
  · rename_i xa i k1 p1 p2 xb p3 p4
    simp only [Bool.and_eq_true, decide_eq_true_eq] at h
    obtain ⟨⟨h1, h2⟩, h3⟩ := h
    subst h2
    have hs : PE X xa (fun σ H Q => ∃ a bs, σ[1]? = some (some (.ref a)) ∧ SqL X.K H a (bs.map V.bl) ∧ Q (.int (cntB bs)) H) := by
      unfold sumW at h1
      split at h1
      · simp only [Bool.and_eq_true, decide_eq_true_eq, List.all_eq_true, Bool.not_eq_true', Bool.or_eq_true, decide_eq_false_iff_not] at h1
        obtain ⟨⟨⟨⟨⟨⟨⟨⟨⟨g1, g2⟩, g3⟩, g4⟩, g5⟩, g6⟩, g7⟩, g8⟩, g9⟩, g10⟩ := h1
        subst g1 g2 g3 g4
        refine pe_sumHot Z.hot (Z.gl g5) (Z.blt _ (by simp)) (Z.blt _ (by simp)) (by rw [Z.hN]; rfl) (.inl (by rw [Z.hsc]; exact hfl)) (by decide) (by decide) (fun v hv => (g6 v hv).1.1) (fun v hv => (g6 v hv).1.2) ?_ (fun v hv e => ?_) g8 g9 g10
        · split at g7
          · assumption
          · cases g7
        · rcases (g6 v hv).2 with z | z
          · exact (z e).elim
          · exact z
      · cases h1
    refine PT.imp (pw_or (pt_cmpR op_ne hs pe_int (nobehind _ (by decide) (by decide))) (pw_or1 (pt_not (isV_ok Z he hi h3)))).pt fun σ H Q ⟨e0, p, bs, e1, e2, q⟩ => ?_
    refine ⟨p, bs, e1, e2, rfl, !(cntB bs == 1), ?_, ?_⟩
    · rw [dec_int]
    · cases hb : (cntB bs == 1) with
      | true => rw [hb] at q; exact ⟨e0, q⟩
      | false => rw [hb] at q; exact q
  · cases h
theorem endW_ok (Z : WordCx X cs sc c a D oe) (he : sc.names.lookup ("e" : Str) = some .local) (hfl : sc.names.lookup ("flags" : Str) = some .local) (hi : sc.names.lookup ("isinstance" : Str) = some .globalImplicit) (hl : ws.length ≤ 20) {x : List Stmt} (h : endW sc ws x = true) :
    PSs X x (fun E σ H => σ[0]? = some (some (.ref a)) ∧ ∃ p bs, σ[1]? = some (some (.ref p)) ∧ H p = some (.lst (bs.map V.bl)) ∧ bs.length = ws.length ∧
      ∀ H', Grows H H' → E.rt (.str (if cntB bs = 1 then (match bs.idxOf? true with | some j => ws.getD j "" | none => "") else "other")) H') := by
  unfold endW at h
  split at h
  · simp only [Bool.and_eq_true, decide_eq_true_eq] at h
    obtain ⟨⟨⟨⟨⟨⟨h1, h2⟩, h3⟩, h4⟩, h5⟩, h6⟩, h7⟩ := h
    subst h2 h4 h5 h6
    refine PSs.imp (pss_cons (ps_if (testW_ok Z he hfl hi h1) (pss_one (ps_ret pe_str)) pss_nil) (pss_one (ps_ret (pe_ix ix_list (pe_lst (strsW_ok h3)) (pe_bm PySem.F.plainAttrs_list PySem.F.slot_list_index PySem.F.type_list_index mt_index (Z.flg hfl) (pa_cons pe_bl pa_nil rfl) rfl rfl h7 rfl rfl) (plainIx_of rfl))))) fun E σ H ⟨e0, p, bs, e1, e2, e3, q⟩ => ?_
    refine ⟨e0, p, bs, e1, SqL.of e2, ?_⟩
    cases hb : (cntB bs == 1) with
    | false =>
      have hb' : ¬ cntB bs = 1 := by simpa using hb
      have z := q H fun _ _ y => y
      rw [if_neg hb'] at z
      exact z
    | true =>
      have hb' : cntB bs = 1 := by simpa using hb
      show tNext _ σ H
      refine ⟨by rw [List.length_map, sizeLine_eq]; omega, fun r hr => ?_⟩
      have ne : p ≠ r := fun y => by rw [← y, e2] at hr; cases hr
      have g : Grows H (upd H r (.lst (ws.map V.str))) := fun b o y => by
        rw [upd_ne (fun w => by rw [w, hr] at y; cases y)]
        exact y
      have z := q _ g
      rw [if_pos hb'] at z
      have hj : ∃ j, bs.idxOf? true = some j := by
        cases q2 : bs.idxOf? true with
        | some j => exact ⟨j, rfl⟩
        | none =>
          exfalso
          rw [List.idxOf?_eq_none_iff] at q2
          have : ∀ l : List Bool, true ∉ l → cntB l = 0 := by
            intro l
            induction l with
            | nil => intro _; rfl
            | cons b l ih =>
              intro h
              have hb0 : b = false := by
                cases b with
                | false => rfl
                | true => exact (h List.mem_cons_self).elim
              subst hb0
              unfold cntB
              simp only [List.map_cons, List.sum_cons]
              have := ih fun y => h (List.mem_cons_of_mem _ y)
              unfold cntB at this
              rw [this]; rfl
          rw [this bs q2] at hb'
          cases hb'
      obtain ⟨j, hj⟩ := hj
      rw [hj] at z
      have hj1 : j < bs.length := by
        rw [List.idxOf?_eq_some_iff] at hj
        exact hj.1
      have hj2 : bs[j]? = some true := by
        rw [List.idxOf?_eq_some_iff] at hj
        rw [List.getElem?_eq_getElem hj1]
        exact congrArg some (by simpa using hj.2.1)
      have hj3 : ∀ m, m < j → bs[m]? = some false := fun m hm => by
        rw [List.idxOf?_eq_some_iff] at hj
        have y := hj.2.2 m hm
        rw [List.getElem?_eq_getElem (by omega)]
        exact congrArg some (by simpa using y)
      refine ⟨_, e1, .inl ⟨rfl, _, SqL.of (by rw [upd_ne ne]; exact e2)⟩, p, _, .bl true, j, .bl true, rfl, rfl, SqL.of (by rw [upd_ne ne]; exact e2), rfl, ?_, ?_, rfl, ?_, r, _, (j : Int), .str (ws.getD j ""), rfl, rfl, SqL.of upd_same, ?_, z⟩
      · rw [List.all_map]; exact List.all_eq_true.mpr fun _ _ => rfl
      · rw [List.getElem?_map, hj2]; rfl
      · intro m v hm hv
        rw [List.getElem?_map, hj3 m hm] at hv
        cases hv; rfl
      · have hjw : j < ws.length := by omega
        refine L2.atI_nat ?_
        rw [List.getElem?_map, List.getElem?_eq_getElem hjw, List.getD_eq_getElem?_getD, List.getElem?_eq_getElem hjw]
        rfl
  · cases h
theorem allW_snoc : ∀ {es : List Expr} {ks : List Str} {e : Expr}, allW sc ks (es ++ [e]) = true → ∃ l k, ks = l ++ [k] ∧ allW sc l es = true ∧ isW sc k e = true
  | [], ks, e, h => by
    cases ks with
    | nil => cases h
    | cons k ks =>
      rw [List.nil_append] at h
      unfold allW at h
      rw [Bool.and_eq_true] at h
      cases ks with
      | nil => exact ⟨[], k, rfl, rfl, h.1⟩
      | cons _ _ => cases h.2
  | x :: es, ks, e, h => by
    cases ks with
    | nil => cases h
    | cons k ks =>
      rw [List.cons_append] at h
      unfold allW at h
      rw [Bool.and_eq_true] at h
      obtain ⟨l, k2, e1, e2, e3⟩ := allW_snoc h.2
      refine ⟨k :: l, k2, by rw [e1]; rfl, ?_, e3⟩
      unfold allW
      rw [Bool.and_eq_true]
      exact ⟨h.1, e2⟩
theorem wordB_ok (Z : WordCx X cs sc c a D oe) {x : List Stmt} (h : wordB sc cs ws x = true) :
    PSs X x (fun E σ H => σ.length = 2 ∧ σ[0]? = some (some (.ref a)) ∧ ∀ H', Grows H H' → E.rt (.str (wordW cs ws c)) H') := by
  unfold wordB at h
  simp only [Bool.and_eq_true, decide_eq_true_eq] at h
  obtain ⟨⟨⟨⟨⟨he, hfl⟩, hi⟩, hl⟩, hlw⟩, h⟩ := h
  have nd : X.N.Nodup := by rw [Z.hN]; decide
  have hset : ∀ {v : V} {σ : L2.St}, σ.length = 2 → σ[0]? = some (some (.ref a)) → (σ.set 1 (some v))[0]? = some (some (.ref a)) ∧ (σ.set 1 (some v))[1]? = some (some v) := fun {v σ} h2 h0 =>
    ⟨by rw [List.getElem?_set_ne (by decide)]; exact h0, by rw [List.getElem?_set_self (by omega)]⟩
  have mapb : ∀ l : List Str, (l.map fun k => V.bl (isSub c k)) = (flagsW l c).map V.bl := fun l => by unfold flagsW; rw [List.map_map]; rfl
  split at h
  · simp only [Bool.and_eq_true, decide_eq_true_eq] at h
    obtain ⟨⟨⟨⟨⟨h1, h2⟩, h3⟩, h4⟩, h5⟩, h6⟩ := h
    subst h1 h2 h3
    obtain ⟨l, k, e1, e2, e3⟩ := allW_snoc h5
    obtain ⟨p5, n5⟩ := isW_ok Z he hi (k := k) (by rw [e1]; simp) e3
    refine PSs.imp (pss_cons (ps_set nd (i := 1) (by rw [Z.hN]; rfl) (.inl (by rw [Z.hsc]; exact hfl)) (pe_lst (allW_ok Z he hi (ks := l) (fun k hk => by rw [e1]; simp [hk]) e2)) rfl (.inl (Z.hfn _)))
      (pss_cons (ps_expr (pe_bm PySem.F.plainAttrs_list PySem.F.slot_list_append PySem.F.type_list_append mt_append (Z.flg hfl) (pa_cons p5 pa_nil (star_cons n5)) rfl (few_one n5) h4 (star_cons n5) rfl) rfl) (endW_ok Z he hfl hi (by omega) h6))) fun E σ H ⟨e0, e4, q⟩ => ?_
    have ll : l.length + 1 = cs.length := by rw [e1]; simp
    refine ⟨e4, by rw [List.length_map, sizeLine_eq]; omega, fun p hp => ?_⟩
    obtain ⟨s0, s1⟩ := hset (v := .ref p) e0 e4
    refine ⟨.ref p, s1, .inl ⟨rfl, _, SqL.of upd_same⟩, s0, p, _, _, rfl, rfl, upd_same, by rw [List.length_map, sizeLine_eq]; omega, s0, p, flagsW cs c, s1, ?_, ?_, fun H' g => ?_⟩
    · rw [upd_same, e1]
      simp [flagsW]
    · unfold flagsW; rw [List.length_map]; exact hlw
    · refine q H' fun b o y => g b o ?_
      have ne : b ≠ p := fun w => by rw [w, hp] at y; cases y
      rw [upd_ne ne, upd_ne ne]
      exact y
  · simp only [Bool.and_eq_true, decide_eq_true_eq] at h
    obtain ⟨⟨h1, h2⟩, h3⟩ := h
    subst h1
    refine PSs.imp (pss_cons (ps_set nd (i := 1) (by rw [Z.hN]; rfl) (.inl (by rw [Z.hsc]; exact hfl)) (pe_lst (allW_ok Z he hi (ks := cs) (fun k hk => hk) h2)) rfl (.inl (Z.hfn _))) (endW_ok Z he hfl hi (by omega) h3)) fun E σ H ⟨e0, e4, q⟩ => ?_
    refine ⟨e4, by rw [List.length_map, sizeLine_eq]; omega, fun p hp => ?_⟩
    obtain ⟨s0, s1⟩ := hset (v := .ref p) e0 e4
    refine ⟨s0, p, flagsW cs c, s1, by rw [upd_same, mapb], by unfold flagsW; rw [List.length_map]; exact hlw, fun H' g => ?_⟩
    refine q H' fun b o y => g b o ?_
    rw [upd_ne fun w => by rw [w, hp] at y; cases y]
    exact y
  · cases h
end
end
end Cw

set_option Elab.async false
set_option linter.all false
set_option maxRecDepth 100000
set_option maxHeartbeats 4000000
namespace Cw
open PySem PySem.Spec PyProof.Rows L2

section
variable {T : Nat → Option Def} {g : Gm} {ex : List Str} {ca : Str → Value} {n : Nat}
theorem names_of {L : Lx} {X : Cx} (C : CxS T g ex ca n L X) {c : Str} (h1 : c ∈ ex) (h2 : glB L c = true) : Names X c (ca c) := by
  obtain ⟨A, e1, e2, _⟩ := C.rai c h1
  exact ⟨C.c.gl h2, glB_dbg h2, .inl (by rw [e1]; exact e2)⟩
def kv : D → V
  | .bool b => .bl b
  | .int b => .int b
  | .str b => .str b
  | _ => .non
theorem const_pe {X : Cx} {d : D} {x : Expr} (h : chkK d x = true) : PE X x (tC (kv d)) ∧ (∀ G, Dp X.K G (kv d) d) ∧ notComp x = true := by
  cases d with
  | none => cases x with
    | Constant c k p => cases c with
      | none => exact ⟨pe_non, fun _ => .non, rfl⟩
      | _ => cases h
    | _ => cases h
  | bool b => cases x with
    | Constant c k p => cases c with
      | bool c => have e : b = c := of_decide_eq_true h; subst e; exact ⟨pe_bl, fun _ => .bl _, rfl⟩
      | _ => cases h
    | _ => cases h
  | int b => cases x with
    | Constant c k p => cases c with
      | int c => have e : b = c := of_decide_eq_true h; subst e; exact ⟨pe_int, fun _ => .int _, rfl⟩
      | _ => cases h
    | _ => cases h
  | str b => cases x with
    | Constant c k p => cases c with
      | str c => have e : b = c := of_decide_eq_true h; subst e; exact ⟨pe_str, fun _ => .str _, rfl⟩
      | _ => cases h
    | _ => cases h
  | _ => cases x <;> cases h
mutual
theorem sndS : ∀ (s : S) {X : Cx} {L : Lx} {W : WX} {x : Stmt}, CxS T g ex ca n L X → L2N.Takes X W → chkS g ex s L x = true → PS X x (rdS X.K ca W L.me fun env => evS (evc T n) env s)
  | .asg i ms e, X, L, W, x, C, tk, h => by
    unfold chkS at h
    split at h
    · simp only [Bool.and_eq_true] at h
      exact s_asg (sndA C tk h.1.1 h.1.2 h.2).1
    · cases h
  | .asgL i ms e, X, L, W, x, C, tk, h => by
    unfold chkS at h
    split at h
    · simp only [Bool.and_eq_true] at h
      exact s_asgL h.2 ((sndA C tk h.1.1.1 h.1.1.2 h.1.2).2 h.2)
    · cases h
  | .asgT l ms e, X, L, W, x, C, tk, h => by
    unfold chkS at h
    split at h
    · rename_i ts k p val pos
      simp only [Bool.and_eq_true] at h
      obtain ⟨⟨⟨h1, h2⟩, h3⟩, h4⟩ := h
      refine s_asgT (ps_asg (sndE e C.c tk h4).1.pe (C.c.pg (t := .many l) (e := .Tuple ts k p) h1) (show swapsWith val (some (.Tuple ts k p)) pos.line X.env = pure false from sw_false h2) ?_ rfl)
      cases val <;> first | rfl | cases h3
    · cases h
  | .asgU l ms e, X, L, W, x, C, tk, h => by
    unfold chkS at h
    split at h
    · rename_i ts k p val pos
      simp only [Bool.and_eq_true] at h
      obtain ⟨⟨⟨h1, h2⟩, h3⟩, h4⟩ := h
      obtain ⟨a, b, c⟩ := C.c.pgs (l := l) (es := ts) h1
      refine s_asgU (ps_asg (sndE e C.c tk h4).1.pe (pg_unl C.c.calm a b c) (show swapsWith val (some (.Tuple ts k p)) pos.line X.env = pure false from sw_false h2) ?_ rfl)
      cases val <;> first | rfl | cases h3
    · cases h
  | .setX i ms a e, X, L, W, x, C, tk, h => by
    unfold chkS at h
    split at h
    · rename_i y py xa sp xe pos
      simp only [Bool.and_eq_true, decide_eq_true_eq] at h
      obtain ⟨⟨⟨⟨⟨⟨h1, h2⟩, h3⟩, h4⟩, h5⟩, h6⟩, h7⟩ := h
      have hv := h2
      unfold visB at hv
      rw [Bool.and_eq_true] at hv
      have dd := dbg_of hv.2
      refine s_setX (ps_asg (sndE e C.c tk h7).1.pe (pg_sub (pe_var (by rw [C.c.hN]; exact h1) (C.c.vis h2) dd.1 dd.2) (sndE a C.c tk h6).1.pe set_list (by intro v; cases xa <;> first | rfl | cases h3)) (show swapsWith xe (some (.Subscript (.Name y py) xa sp)) pos.line X.env = pure false from sw_false h4) ?_ rfl)
      cases xe <;> first | rfl | cases h5
    · cases h
  | .par i j ms a b, X, L, W, x, C, tk, h => by
    unfold chkS at h
    split at h
    · simp only [Bool.and_eq_true, decide_eq_true_eq, Bool.not_eq_true'] at h
      obtain ⟨⟨⟨⟨⟨⟨⟨⟨⟨⟨h1, h2⟩, h3⟩, h4⟩, h5⟩, h6⟩, h7⟩, h8⟩, h9⟩, h10⟩, h11⟩ := h
      unfold kindB at h4 h5
      rw [decide_eq_true_eq] at h4 h5
      obtain ⟨a1, a2⟩ := sndE a C.c tk h10
      obtain ⟨b1, b2⟩ := sndE b C.c tk h11
      refine s_par (ps_par C.c.calm C.c.nd (by rw [C.c.hN]; exact h1) (by rw [C.c.hN]; exact h2) h3 (by rw [C.c.hsc]; exact h4) (by rw [C.c.hsc]; exact h5) (pa_cons a1.pe (pa_cons b1.pe pa_nil (star_cons b2)) (star_cons a2)) ?_ rfl)
      exact swp_some C.kd (by rw [C.c.hsc]; exact h4) (by rw [C.c.hsc]; exact h5) h6 h7 a2 b2 h8 h9
    · cases h
  | .parL i j ms a b, X, L, W, x, C, tk, h => by
    unfold chkS at h
    split at h
    · simp only [Bool.and_eq_true, decide_eq_true_eq, Bool.not_eq_true'] at h
      obtain ⟨⟨⟨⟨⟨⟨⟨⟨⟨⟨⟨h1, h2⟩, h3⟩, h4⟩, h5⟩, h6⟩, h7⟩, h8⟩, h9⟩, h10⟩, h11⟩, h12⟩ := h
      unfold kindB at h4 h5
      rw [decide_eq_true_eq] at h4 h5
      obtain ⟨a1, a2⟩ := sndE a C.c tk h10
      obtain ⟨b1, b2⟩ := sndE b C.c tk h11
      refine s_parL h12 (ps_par C.c.calm C.c.nd (by rw [C.c.hN]; exact h1) (by rw [C.c.hN]; exact h2) h3 (by rw [C.c.hsc]; exact h4) (by rw [C.c.hsc]; exact h5) (pa_cons (sndL C.c tk h12 h10) (pa_cons b1.pe pa_nil (star_cons b2)) (star_cons a2)) ?_ rfl)
      exact swp_some C.kd (by rw [C.c.hsc]; exact h4) (by rw [C.c.hsc]; exact h5) h6 h7 a2 b2 h8 h9
    · cases h
  | .ret ms e, X, L, W, x, C, tk, h => by
    unfold chkS at h
    split at h
    · rw [Bool.and_eq_true, Bool.not_eq_true'] at h
      rw [h.1]
      exact s_ret (ps_ret (sndE e C.c tk h.2).1.pe)
    · cases h
  | .self k, X, L, W, x, C, tk, h => by
    unfold chkS at h
    cases h
  | .asgM i m, X, L, W, x, C, tk, h => by
    unfold chkS at h
    split at h
    · rw [Bool.and_eq_true, Bool.and_eq_true] at h
      obtain ⟨⟨h1, h2⟩, h3⟩ := h
      obtain ⟨t1, t2, t3⟩ := C.c.tg h1
      exact s_asgM (ps_set C.c.nd t1 t2 (sndM m C.c tk h3).1.pe (sw_false h2) t3)
    · cases h
  | .retM m, X, L, W, x, C, tk, h => by
    unfold chkS at h
    split at h
    · rw [Bool.and_eq_true] at h
      exact s_retM (ps_ret (sndM m C.c tk h.2).1.pe)
    · cases h
  | .retP m, X, L, W, x, C, tk, h => by
    unfold chkS at h
    split at h
    · rw [Bool.and_eq_true, Bool.not_eq_true'] at h
      rw [h.1]
      exact s_retP (ps_ret (sndM m C.c tk h.2).1.pe)
    · cases h
  | .iffM m a b, X, L, W, x, C, tk, h => by
    unfold chkS at h
    split at h
    · simp only [Bool.and_eq_true] at h
      exact s_iffM (sndM m C.c tk h.1.1).1.pt (sndSs a C tk h.1.2) (sndSs b C tk h.2)
    · cases h
  | .whlM m b, X, L, W, x, C, tk, h => by
    unfold chkS at h
    split at h
    · simp only [Bool.and_eq_true] at h
      exact s_whlM C.po (sndM m C.c tk h.1).1.pt (sndSs b C tk h.2)
    · cases h
  | .exprM m, X, L, W, x, C, tk, h => by
    unfold chkS at h
    split at h
    · simp only [Bool.and_eq_true] at h
      exact s_exprM (ps_expr (sndM m C.c tk h.2).1.pe (sw_false h.1))
    · cases h
  | .fld i k j m, X, L, W, x, C, tk, h => by
    unfold chkS at h
    split at h
    · rename_i y py f ap val pos
      simp only [Bool.and_eq_true, decide_eq_true_eq] at h
      obtain ⟨⟨⟨⟨h1, h2⟩, h3⟩, h4⟩, h6⟩ := h
      have hv := h2
      unfold visB at hv
      rw [Bool.and_eq_true] at hv
      have dd := dbg_of hv.2
      have Z := C.c.clss k (List.contains_iff_mem.mp h3)
      exact s_fld Z.cls (Z.noat f (List.mem_of_getElem? h4)) h4 (pe_var (by rw [C.c.hN]; exact h1) (C.c.vis h2) dd.1 dd.2) (sndM m C.c tk h6).1.pe sw_attr
    · cases h
  | .new i k f ms, X, L, W, x, C, tk, h => by
    unfold chkS at h
    split at h
    · rename_i y py z zp xe xs cp pos
      simp only [Bool.and_eq_true, decide_eq_true_eq] at h
      obtain ⟨⟨⟨⟨⟨h1, h2⟩, h3⟩, h4⟩, h5⟩, h6⟩ := h
      subst h2
      obtain ⟨t1, t2, t3⟩ := C.c.tg h1
      have Z := C.c.clss k (List.contains_iff_mem.mp h4)
      obtain ⟨f0, fd, ps, m1, m2, m3⟩ := C.c.inis k f (List.contains_iff_mem.mp h5)
      obtain ⟨a1, a2⟩ := sndMs ms C.c tk h6
      exact s_new C.c.nd t1 t2 t3 m1 m2 m3 C.c.room (C.c.gl h3) Z.mg (glB_dbg h3) tk a1 a2
    · cases h
  | .iff ms c a b, X, L, W, x, C, tk, h => by
    unfold chkS at h
    split at h
    · simp only [Bool.and_eq_true] at h
      exact s_iff (sndE c C.c tk h.1.1).1.pt (sndSs a C tk h.1.2) (sndSs b C tk h.2)
    · cases h
  | .whl ms c b, X, L, W, x, C, tk, h => by
    unfold chkS at h
    split at h
    · simp only [Bool.and_eq_true] at h
      exact s_whl C.po (sndE c C.c tk h.1).1.pt (sndSs b C tk h.2)
    · cases h
  | .for_ ms t it b, X, L, W, x, C, tk, h => by
    unfold chkS at h
    split at h
    · rename_i xt xi xb pos
      simp only [Bool.and_eq_true] at h
      obtain ⟨⟨h1, h2⟩, h3⟩ := h
      obtain ⟨i1, i2⟩ := sndI it C.c tk h2 (xt := xt) (fun hm => by
        cases t with
        | one i => cases hm
        | many l => cases xt with
          | Tuple es k p => exact ⟨_, _, _, rfl⟩
          | _ => cases h1)
      exact s_for C.c.calm C.po i1 i2 (C.c.pg h1) (sndSs b C tk h3)
    · cases h
  | .app i ms e, X, L, W, x, C, tk, h => by
    unfold chkS at h
    split at h
    · simp only [Bool.and_eq_true, decide_eq_true_eq, Bool.not_eq_true'] at h
      obtain ⟨⟨⟨⟨⟨h1, h2⟩, h3⟩, h4⟩, h5⟩, h6⟩ := h
      subst h1
      have hv := h4
      unfold visB at hv
      rw [Bool.and_eq_true] at hv
      have dd := dbg_of hv.2
      obtain ⟨a1, a2⟩ := sndE e C.c tk h6
      exact s_app (pe_var (by rw [C.c.hN]; exact h3) (C.c.vis h4) dd.1 dd.2) h2 (fun z => by rw [List.contains_iff_mem.mpr z] at h5; cases h5) a2 a1.pe
    · cases h
  | .ext i ms e, X, L, W, x, C, tk, h => by
    unfold chkS at h
    split at h
    · simp only [Bool.and_eq_true, decide_eq_true_eq, Bool.not_eq_true'] at h
      obtain ⟨⟨⟨⟨⟨⟨h1, h2⟩, h3⟩, h4⟩, h5⟩, h6⟩, h7⟩ := h
      subst h1
      have hv := h4
      unfold visB at hv
      rw [Bool.and_eq_true] at hv
      have dd := dbg_of hv.2
      have hl : isLst e = true := by cases e <;> first | rfl | cases h6
      obtain ⟨a1, a2⟩ := sndE e C.c tk h7
      exact s_ext hl (pe_var (by rw [C.c.hN]; exact h3) (C.c.vis h4) dd.1 dd.2) h2 (fun z => by rw [List.contains_iff_mem.mpr z] at h5; cases h5) a2 (sndL C.c tk hl h7)
    · cases h
  | .setC i a b, X, L, W, x, C, tk, h => by
    unfold chkS at h
    split at h
    · simp only [Bool.and_eq_true, decide_eq_true_eq] at h
      obtain ⟨⟨⟨⟨h1, h2⟩, h3⟩, h4⟩, h5⟩ := h
      subst h2
      subst h4
      subst h5
      have hv := h3
      unfold visB at hv
      rw [Bool.and_eq_true] at hv
      have dd := dbg_of hv.2
      exact s_setC fun p => pe_var (by rw [C.c.hN]; exact h1) (C.c.vis h3) dd.1 dd.2
    · cases h
  | .popT l i, X, L, W, x, C, tk, h => by
    unfold chkS at h
    split at h
    · rename_i ts k p y py at_ ap cp pos
      simp only [Bool.and_eq_true, decide_eq_true_eq] at h
      obtain ⟨⟨⟨⟨h1, h2⟩, h3⟩, h4⟩, h5⟩ := h
      subst h1
      have hv := h4
      unfold visB at hv
      rw [Bool.and_eq_true] at hv
      have dd := dbg_of hv.2
      exact s_popT (pe_var (by rw [C.c.hN]; exact h3) (C.c.vis h4) dd.1 dd.2) h2 (C.c.pg (t := .many l) (e := .Tuple ts k p) h5)
    · cases h
  | .rais c, X, L, W, x, C, tk, h => by
    unfold chkS at h
    split at h
    · simp only [Bool.and_eq_true, decide_eq_true_eq] at h
      obtain ⟨⟨h1, h2⟩, h3⟩ := h
      subst h1
      obtain ⟨A, e1, e2, e3, e4, e5⟩ := C.rai _ (List.contains_iff_mem.mp h2)
      refine PS.imp (L2N.ps_raise C.c.calm tk (L2N.pmk_own PySem.F.excBase_ValueError e3 e2 e4 e5 (C.c.gl h3) (glB_dbg h3))) fun Dn σ H ⟨S, He, Ge, G, env, me0, R0, ho⟩ => ?_
      simp only [evS] at ho
      have z := ho σ H G R0
      rw [e1] at z
      exact z
    · cases h
  | .tryN b c i d, X, L, W, x, C, tk, h => by
    unfold chkS at h
    split at h
    · simp only [Bool.and_eq_true, decide_eq_true_eq] at h
      obtain ⟨⟨⟨⟨⟨h1, h2⟩, h3⟩, h4⟩, h5⟩, h6⟩ := h
      subst h1
      have hc := List.contains_iff_mem.mp h2
      obtain ⟨t1, t2, t3⟩ := C.c.tg h5
      obtain ⟨hv, hd, hn⟩ := const_pe (X := X) h6
      refine PS.imp (L2N.ps_try_many (tb := fun W' => rdS X.K ca W' L.me fun env => evSs (evc T n) env b) (Wout := W) C.hs C.hf tk (fun W' pn xe tk' po => sndSs b (C.tr po) tk' h4) (.cons (c := ca _) (ts := fun _ _ _ => tAsg (tC (kv d)) (gName i)) (names_of C hc h3) (fun a oe cls dd pn hz hf => ?_) .nil)) fun Dn σ H ⟨S, He, Ge, G, env, me0, R0, ho⟩ => ?_
      · exact pss_one (ps_set C.c.nd t1 t2 (const_pe (X := X.suite a ((a, oe) :: pn)) h6).1 (sw_false hn) t3)
      · simp only [evS] at ho
        refine ⟨S, He, Ge, G, env, me0, R0, ?_⟩
        show OutS X.K ca _ S He Ge Dn (evSs (evc T n) env b)
        cases eb : evSs (evc T n) env b with
        | next e1 => rw [eb] at ho; exact ho
        | ret x => rw [eb] at ho; exact ho
        | brk e1 => rw [eb] at ho; exact ho
        | cont e1 => rw [eb] at ho; exact ho
        | bad => rw [eb] at ho; exact ho
        | exc c2 e1 =>
          rw [eb] at ho
          dsimp only at ho
          intro σ2 H2 G2 R2
          refine ⟨_, C.exm c2 _ hc, fun hb => ?_, fun hb => ?_⟩
          · rw [if_pos hb] at ho
            intro a _
            exact ho _ _ _ (R2.set (hd G2))
          · rw [if_neg (by rw [hb]; exact Bool.false_ne_true)] at ho
            exact ho _ _ _ R2
    · cases h
  | .tryW b i k, X, L, W, x, C, tk, h => by
    unfold chkS at h
    split at h
    · rename_i xb y yp en f fp e2 ep cp rp hp tp
      simp only [Bool.and_eq_true, decide_eq_true_eq] at h
      obtain ⟨⟨⟨⟨⟨⟨⟨⟨⟨h0, h1⟩, h2⟩, h3⟩, h4⟩, h5⟩, h6⟩, h7⟩, h8⟩, h9⟩ := h
      rw [Bool.not_eq_true'] at h0
      subst h1 h4
      have hw := List.contains_iff_mem.mp h8
      obtain ⟨fa, fd, ps, m1, m2, m3, FW⟩ := C.wrd _ _ hw
      obtain ⟨Cc, c1, cl2⟩ := C.clo (fun z => by rw [z] at hw; cases hw)
      have hv := h7
      unfold visB at hv
      rw [Bool.and_eq_true] at hv
      have dd := dbg_of hv.2
      unfold kindB at h6
      rw [decide_eq_true_eq] at h6
      refine PS.imp (L2N.ps_try_as (c := .ref Cc) (tb := fun W' => rdS X.K ca W' L.me fun env => evSs (evc T n) env b) (ts := fun a cls d D σ H => ∃ (c2 : Str) (σ0 : L2.St), cls = ca c2 ∧ d = none ∧ σ = σ0.set i (some (.ref a)) ∧ ∀ H', Grows H H' → D.rt (.str (wordT k c2)) H') (Wout := W) C.hs C.hf C.c.nd (by rw [C.c.hN]; exact h5) (show X.env.scope.names.lookup _ = _ by rw [C.c.hsc]; exact h6) ⟨C.c.gl h2, glB_dbg h2, .inl c1⟩ tk (fun W' pn xe tk' po => sndSs b (C.tr po) tk' h3) (fun a oe cls d pn hz hf => ?_)) fun Dn σ H ⟨S, He, Ge, G, env, me0, R0, ho⟩ => ?_
      · obtain ⟨vs, hvs⟩ := hf
        have hr : L2H.RoomH 30 (X.suite a ((a, oe) :: pn)).A := L2H.RoomH.mono (k := 2 * n + 46) ⟨C.c.room.dp, C.c.room.un⟩ (by omega)
        refine ⟨fun pins s σ H D I ⟨c2, σ0, ec, ed, e0, q⟩ => (pss_one (ps_ret (pe_callW (X := X.suite a ((a, oe) :: pn)) (E := fun _ _ _ => False) FW hr (q := (a, oe)) ⟨rfl, vs, hvs, hz.2.2 vs hvs⟩ List.mem_cons_self (C.c.gl h9) m1 m2 m3 (fun σ => fun pins H s e s' I x => ?_) (pa_cons (pe_var (i := i) (by rw [C.c.hN]; exact h5) (C.c.vis h7) dd.1 dd.2) pa_nil rfl) (glB_dbg h9) rfl))).run pins s σ H D I ?_⟩
        · obtain ⟨_, _, _, _, _, _, _, _, _, _, _, _, z⟩ := x
          exact z.elim
        · have hl : i < σ.length := by
            have z := I.len
            have z2 : i < L.N.length := (List.getElem?_eq_some_iff.mp h5).1
            rw [z]
            show i < X.N.length
            rw [C.c.hN]
            exact z2
          have e1 : σ[i]? = some (some (.ref a)) := by
            rw [e0] at hl ⊢
            rw [List.length_set] at hl
            exact List.getElem?_set_self hl
          refine ⟨.ref a, e1, c2, rfl, ?_, ⟨vs, hvs⟩, q⟩
          rw [← ec, ← ed]
          exact hz
      · simp only [evS] at ho
        refine ⟨S, He, Ge, G, env, me0, R0, ?_⟩
        show OutS X.K ca _ S He Ge Dn (evSs (evc T n) env b)
        cases eb : evSs (evc T n) env b with
        | next e1 => rw [eb] at ho; exact ho
        | ret x => rw [eb] at ho; exact ho
        | brk e1 => rw [eb] at ho; exact ho
        | cont e1 => rw [eb] at ho; exact ho
        | bad => rw [eb] at ho; exact ho
        | exc c2 e1 =>
          rw [eb] at ho
          dsimp only at ho
          intro σ2 H2 G2 R2
          refine ⟨true, cl2 c2, fun _ a _ => ⟨c2, σ2, rfl, rfl, rfl, fun H' g => ?_⟩, fun hb => by cases hb⟩
          rw [h0] at me0
          cases S with
          | some z => cases me0
          | none => exact ho (.str _) H' G2 ⟨fun p o y => g p o (R2.x.a p o y), R2.x.b, fun p o y => g p o (R2.x.c p o y), R2.x.d⟩ (.str _)
    · cases h
  | .tryA b i k j, X, L, W, x, C, tk, h => by
    unfold chkS at h
    split at h
    · rename_i xb y yp en l lp at_ ap f fp e2 ep wp cp sp hp tp
      simp only [Bool.and_eq_true, decide_eq_true_eq] at h
      obtain ⟨⟨⟨⟨⟨⟨⟨⟨⟨⟨⟨⟨⟨h1, h2⟩, h3⟩, h4⟩, h5⟩, h6⟩, h7⟩, h8⟩, h9⟩, k1⟩, k2⟩, k3⟩, k4⟩, k5⟩ := h
      subst h1 h4 k1
      have hw := List.contains_iff_mem.mp h8
      obtain ⟨fa, fd, ps, m1, m2, m3, FW⟩ := C.wrd _ _ hw
      obtain ⟨Cc, c1, cl2⟩ := C.clo (fun z => by rw [z] at hw; cases hw)
      have hv := h7
      unfold visB at hv
      rw [Bool.and_eq_true] at hv
      have dd := dbg_of hv.2
      have hv4 := k4
      unfold visB at hv4
      rw [Bool.and_eq_true] at hv4
      have dd4 := dbg_of hv4.2
      unfold kindB at h6
      rw [decide_eq_true_eq] at h6
      refine PS.imp (L2N.ps_try_as (c := .ref Cc) (tb := fun W' => rdS X.K ca W' L.me fun env => evSs (evc T n) env b) (ts := fun a cls d D σ H => ∃ (c2 : Str) (σ0 : L2.St) (p : Addr) (vs : List V), cls = ca c2 ∧ d = none ∧ σ = σ0.set i (some (.ref a)) ∧ σ0[j]? = some (some (.ref p)) ∧ H p = some (.lst vs) ∧ vs.length < sizeLine ∧ ∀ H', Grows H H' → D.nx σ (upd H' p (.lst (vs ++ [.str (wordT k c2)])))) (Wout := W) C.hs C.hf C.c.nd (by rw [C.c.hN]; exact h5) (show X.env.scope.names.lookup _ = _ by rw [C.c.hsc]; exact h6) ⟨C.c.gl h2, glB_dbg h2, .inl c1⟩ tk (fun W' pn xe tk' po => sndSs b (C.tr po) tk' h3) (fun a oe cls d pn hz hf => ?_)) fun Dn σ H ⟨S, He, Ge, G, env, me0, R0, ho⟩ => ?_
      · obtain ⟨vs, hvs⟩ := hf
        have hr : L2H.RoomH 30 (X.suite a ((a, oe) :: pn)).A := L2H.RoomH.mono (k := 2 * n + 46) ⟨C.c.room.dp, C.c.room.un⟩ (by omega)
        have pw := pe_callW (X := X.suite a ((a, oe) :: pn)) (E := fun _ _ _ => False) (pos := wp) (np := fp) FW hr (q := (a, oe)) ⟨rfl, vs, hvs, hz.2.2 vs hvs⟩ List.mem_cons_self (C.c.gl h9) m1 m2 m3 (fun σ => fun pins H s e s' I x => by
          obtain ⟨_, _, _, _, _, _, _, _, _, _, _, _, z⟩ := x
          exact z.elim) (pa_cons (pe_var (pos := ep) (i := i) (by rw [C.c.hN]; exact h5) (C.c.vis h7) dd.1 dd.2) pa_nil rfl) (glB_dbg h9) rfl
        refine ⟨fun pins s σ H D I ⟨c2, σ0, p, ws, ec, ed, e0, e3, e4, e5, q⟩ => (pss_one (ps_expr (pe_bm (X := X.suite a ((a, oe) :: pn)) PySem.F.plainAttrs_list PySem.F.slot_list_append PySem.F.type_list_append mt_append (pe_var (pos := lp) (i := j) (by rw [C.c.hN]; exact k3) (C.c.vis k4) dd4.1 dd4.2) (pa_cons pw pa_nil rfl) rfl (few_one rfl) k2 rfl rfl) rfl)).run pins s σ H D I ?_⟩
        have hl : i < σ.length := by
          have z := I.len
          have z2 : i < L.N.length := (List.getElem?_eq_some_iff.mp h5).1
          rw [z]
          show i < X.N.length
          rw [C.c.hN]
          exact z2
        have e1 : σ[i]? = some (some (.ref a)) := by
          rw [e0] at hl ⊢
          rw [List.length_set] at hl
          exact List.getElem?_set_self hl
        have e6 : σ[j]? = some (some (.ref p)) := by
          rw [e0, List.getElem?_set_ne k5]
          exact e3
        refine ⟨.ref p, e6, .inl ⟨rfl, _, SqL.of e4⟩, .ref a, e1, c2, rfl, ?_, ⟨vs, hvs⟩, fun H' g => ⟨p, ws, _, rfl, rfl, g p _ e4, e5, q H' g⟩⟩
        rw [← ec, ← ed]
        exact hz
      · simp only [evS] at ho
        refine ⟨S, He, Ge, G, env, me0, R0, ?_⟩
        show OutS X.K ca _ S He Ge Dn (evSs (evc T n) env b)
        cases eb : evSs (evc T n) env b with
        | next e1 => rw [eb] at ho; exact ho
        | ret x => rw [eb] at ho; exact ho
        | brk e1 => rw [eb] at ho; exact ho
        | cont e1 => rw [eb] at ho; exact ho
        | bad => rw [eb] at ho; exact ho
        | exc c2 e1 =>
          rw [eb] at ho
          dsimp only at ho
          cases qj : e1[j]? with
          | none => rw [qj] at ho; exact ho.elim
          | some z =>
            rw [qj] at ho
            cases z with
            | ow ds =>
              dsimp only at ho
              split at ho
              · rename_i hz
                intro σ2 H2 G2 R2
                obtain ⟨p, vs, a1, a2, a3, a4, a5, a6⟩ := R2.o j ds qj
                refine ⟨true, cl2 c2, fun _ a _ => ⟨c2, σ2, p, vs, rfl, rfl, rfl, a1, a2, by rw [dpAll_len a3]; exact hz, fun H' g => ?_⟩, fun hb => by cases hb⟩
                have R3 := ((R2.grow (H1 := H') g).unset (i := i) (o := none))
                have R4 := R3.upd (i := j) (p := p) (vs := vs) (ws := vs ++ [.str (wordT k c2)]) (ds := ds) (es := ds ++ [.str (wordT k c2)]) (by rw [List.getElem?_set_ne k5]; exact qj) (by rw [List.getElem?_set_ne k5]; exact a1) (g p _ a2) (dpAll_app a3 (.cons (.str _) .nil))
                have e : (σ2.set i (some (V.ref a))).set i none = σ2.set i none := List.set_set ..
                show Dn.nx ((σ2.set i (some (V.ref a))).set i none) _
                rw [e]
                exact ho _ _ _ R4
              · exact ho.elim
            | _ => exact ho.elim
    · cases h
  | .expr ms e, X, L, W, x, C, tk, h => by
    unfold chkS at h
    split at h
    · simp only [Bool.and_eq_true] at h
      exact s_expr (ps_expr (sndE e C.c tk h.2).1.pe (sw_false h.1))
    · cases h
  | .tryR b c d, X, L, W, x, C, tk, h => by
    unfold chkS at h
    split at h
    · simp only [Bool.and_eq_true, decide_eq_true_eq, Bool.not_eq_true'] at h
      obtain ⟨⟨⟨⟨⟨h0, h1⟩, h2⟩, h3⟩, h4⟩, h6⟩ := h
      subst h1
      have hc := List.contains_iff_mem.mp h2
      obtain ⟨hv, hd, hn⟩ := const_pe (X := X) h6
      refine PS.imp (L2N.ps_try_many (tb := fun W' => rdS X.K ca W' L.me fun env => evSs (evc T n) env b) (Wout := W) C.hs C.hf tk (fun W' pn xe tk' po => sndSs b (C.tr po) tk' h4) (.cons (c := ca _) (ts := fun _ _ _ => tRet (tC (kv d))) (names_of C hc h3) (fun a oe cls dd pn hz hf => ?_) .nil)) fun Dn σ H ⟨S, He, Ge, G, env, me0, R0, ho⟩ => ?_
      · exact pss_one (ps_ret (const_pe (X := X.suite a ((a, oe) :: pn)) h6).1)
      · simp only [evS] at ho
        rw [h0] at me0
        refine ⟨S, He, Ge, G, env, by rw [h0]; exact me0, R0, ?_⟩
        cases S with
        | some z => cases me0
        | none =>
          show OutS X.K ca _ none He Ge Dn (evSs (evc T n) env b)
          cases eb : evSs (evc T n) env b with
          | next e1 => rw [eb] at ho; exact ho
          | ret x => rw [eb] at ho; exact ho
          | brk e1 => rw [eb] at ho; exact ho
          | cont e1 => rw [eb] at ho; exact ho
          | bad => rw [eb] at ho; exact ho
          | exc c2 e1 =>
            rw [eb] at ho
            dsimp only at ho
            intro σ2 H2 G2 R2
            refine ⟨_, C.exm c2 _ hc, fun hb => ?_, fun hb => ?_⟩
            · rw [if_pos hb] at ho
              intro a _
              exact ho _ _ _ R2.x (hd G2)
            · rw [if_neg (by rw [hb]; exact Bool.false_ne_true)] at ho
              exact ho _ _ _ R2
    · cases h
  | .selfL i, X, L, W, x, C, tk, h => by
    unfold chkS at h
    cases h
  | .appL i e, X, L, W, x, C, tk, h => by
    unfold chkS at h
    split at h
    · simp only [Bool.and_eq_true, decide_eq_true_eq] at h
      obtain ⟨⟨⟨⟨h1, h2⟩, h3⟩, h4⟩, h6⟩ := h
      subst h1
      have hv := h4
      unfold visB at hv
      rw [Bool.and_eq_true] at hv
      have dd := dbg_of hv.2
      obtain ⟨a1, a2⟩ := sndE e C.c tk h6
      exact s_appL (pe_var (by rw [C.c.hN]; exact h3) (C.c.vis h4) dd.1 dd.2) h2 a2 a1.pe
    · cases h
  | .retL i e, X, L, W, x, C, tk, h => by
    unfold chkS at h
    split at h
    · rw [Bool.and_eq_true] at h
      exact s_retL (ps_ret (sndE e C.c tk h.2).1.pe)
    · cases h
  | .retLM i m, X, L, W, x, C, tk, h => by
    unfold chkS at h
    split at h
    · rw [Bool.and_eq_true] at h
      exact s_retLM (ps_ret (sndM m C.c tk h.2).1.pe)
    · cases h
  | .brk, X, L, W, x, C, tk, h => by
    unfold chkS at h
    split at h
    · exact PS.imp ps_break fun Dn σ H ⟨S, He, Ge, G, env, me0, R0, ho⟩ => by
        simp only [evS] at ho
        exact ho _ _ _ R0
    · cases h
  | .cont, X, L, W, x, C, tk, h => by
    unfold chkS at h
    split at h
    · exact PS.imp ps_continue fun Dn σ H ⟨S, He, Ge, G, env, me0, R0, ho⟩ => by
        simp only [evS] at ho
        exact ho _ _ _ R0
    · cases h
  | .pass, X, L, W, x, C, tk, h => by
    unfold chkS at h
    split at h
    · exact PS.imp ps_pass fun Dn σ H ⟨S, He, Ge, G, env, me0, R0, ho⟩ => by
        simp only [evS] at ho
        exact ho _ _ _ R0
    · cases h
theorem sndSs : ∀ (s : Ss) {X : Cx} {L : Lx} {W : WX} {x : List Stmt}, CxS T g ex ca n L X → L2N.Takes X W → chkSs g ex s L x = true → PSs X x (rdS X.K ca W L.me fun env => evSs (evc T n) env s)
  | .nil, X, L, W, x, C, tk, h => by
    unfold chkSs at h
    cases x with
    | nil =>
      exact PSs.imp pss_nil fun Dn σ H ⟨S, He, Ge, G, env, me0, R0, ho⟩ => by
        simp only [evSs] at ho
        exact ho _ _ _ R0
    | cons _ _ => cases h
  | .cons s ss, X, L, W, x, C, tk, h => by
    unfold chkSs at h
    cases x with
    | nil => cases h
    | cons x xs =>
      dsimp only at h
      rw [Bool.and_eq_true] at h
      refine PSs.imp (pss_cons (sndS s C tk h.1) (sndSs ss C tk h.2)) fun Dn σ H ⟨S, He, Ge, G, env, me0, R0, ho⟩ => ?_
      simp only [evSs] at ho
      refine ⟨S, He, Ge, G, env, me0, R0, ?_⟩
      show OutS X.K ca W S He Ge _ (evS (evc T n) env s)
      cases es : evS (evc T n) env s with
      | next e1 => rw [es] at ho; exact fun σ2 H2 G2 R2 => ⟨S, He, Ge, G2, e1, me0, R2, ho⟩
      | ret x => rw [es] at ho; exact ho
      | brk e1 => rw [es] at ho; exact ho
      | cont e1 => rw [es] at ho; exact ho
      | exc c2 e1 => rw [es] at ho; exact ho
      | bad => rw [es] at ho; exact ho
end
/-- a method's body -/
def rdSM (K : PySem.W.Frag) (ca : Str → Value) (W : WX) (r : List Sl → Out) : TS := fun D σ H => (∀ σ H, D.rt .non H → D.nx σ H) ∧ rdS K ca W true r D σ H
theorem sndSsM : ∀ (s : Ss) {X : Cx} {L : Lx} {W : WX} {x : List Stmt}, L.me = true → CxS T g ex ca n L X → L2N.Takes X W → chkSsM g ex s L x = true → PSs X x (rdSM X.K ca W fun env => evSs (evc T n) env s)
  | .nil, X, L, W, x, hL, C, tk, h => by
    unfold chkSsM at h
    cases x with
    | nil =>
      exact PSs.imp pss_nil fun Dn σ H ⟨hD, S, He, Ge, G, env, me0, R0, ho⟩ => by
        simp only [evSs] at ho
        exact ho _ _ _ R0
    | cons _ _ => cases h
  | .cons s ss, X, L, W, x, hL, C, tk, h => by
    unfold chkSsM at h
    cases x with
    | nil =>
      dsimp only at h
      unfold isEnd at h
      split at h
      · rename_i heq
        cases heq
        exact PSs.imp pss_nil fun Dn σ H ⟨hD, S, He, Ge, G, env, me0, R0, ho⟩ => by
          have e1 : evSs (evc T n) env (.cons (.retM (.e (.k .none))) .nil) = retO .none env := by
            simp only [evSs, evS, evM, ev, liftM, onM]
            generalize retO .none env = o
            cases o <;> rfl
          dsimp only at ho
          rw [e1] at ho
          exact hD σ H (ret_met ho R0 .non)
      · cases h
    | cons x xs =>
      dsimp only at h
      rw [Bool.and_eq_true] at h
      have hs := sndS s C tk h.1
      rw [hL] at hs
      refine PSs.imp (pss_cons hs (sndSsM ss hL C tk h.2)) fun Dn σ H ⟨hD, S, He, Ge, G, env, me0, R0, ho⟩ => ?_
      simp only [evSs] at ho
      refine ⟨S, He, Ge, G, env, me0, R0, ?_⟩
      show OutS X.K ca W S He Ge _ (evS (evc T n) env s)
      cases es : evS (evc T n) env s with
      | next e1 => rw [es] at ho; exact fun σ2 H2 G2 R2 => ⟨hD, S, He, Ge, G2, e1, me0, R2, ho⟩
      | ret x => rw [es] at ho; exact ho
      | brk e1 => rw [es] at ho; exact ho
      | cont e1 => rw [es] at ho; exact ho
      | exc c2 e1 => rw [es] at ho; exact ho
      | bad => rw [es] at ho; exact ho
end
end Cw

set_option Elab.async false
set_option linter.all false
set_option maxRecDepth 100000
set_option maxHeartbeats 4000000
namespace Cw
open PySem PySem.Spec PyProof.Rows L2

theorem lookup_zip {β : Type} : ∀ {l : List Str} {us : List β}, l.Nodup → us.length = l.length → l.filterMap (fun n => ((l.zip us).lookup n).map fun v => (n, v)) = l.zip us
  | [], us, _, h => by cases us <;> first | rfl | cases h
  | a :: l, [], _, h => by cases h
  | a :: l, u :: us, nd, h => by
    rw [List.nodup_cons] at nd
    have h2 : us.length = l.length := by simpa using h
    have ih := lookup_zip (us := us) nd.2 h2
    rw [List.zip_cons_cons, List.filterMap_cons]
    have e1 : List.lookup a ((a, u) :: l.zip us) = some u := by simp [List.lookup]
    rw [e1]
    dsimp only [Option.map_some]
    congr 1
    have e : ∀ n ∈ l, ((List.lookup n ((a, u) :: l.zip us)).map fun v => (n, v)) = ((l.zip us).lookup n).map fun v => (n, v) := fun n hn => by
      have z : (n == a) = false := by
        cases q : (n == a) with
        | false => rfl
        | true => rw [eq_of_beq q] at hn; exact (nd.1 hn).elim
      simp [List.lookup, z]
    have cg : ∀ (m : List Str) (f g : Str → Option (Str × β)), (∀ n ∈ m, f n = g n) → m.filterMap f = m.filterMap g := by
      intro m f g
      induction m with
      | nil => intro _; rfl
      | cons b m ih2 =>
        intro hh
        rw [List.filterMap_cons, List.filterMap_cons, hh b List.mem_cons_self, ih2 fun n hn => hh n (List.mem_cons_of_mem _ hn)]
    exact (cg l _ _ e).trans ih
theorem lookup_some {β : Type} : ∀ {l : List Str} {us : List β} {n : Str}, us.length = l.length → n ∈ l → ((l.zip us).lookup n).isNone = false
  | [], us, n, h, hn => nomatch hn
  | a :: l, [], n, h, hn => by cases h
  | a :: l, u :: us, n, h, hn => by
    rw [List.zip_cons_cons]
    by_cases q : (n == a) = true
    · simp [List.lookup, q]
    · have z : (n == a) = false := by simpa using q
      have hn2 : n ∈ l := by
        rcases List.mem_cons.mp hn with e | e
        · rw [e] at z; simp at z
        · exact e
      have ih := lookup_some (us := us) (by simpa using h) hn2
      simp only [List.lookup, z]
      exact ih
theorem bind_plain {x qual : Str} {as : List Arg} {body : List Stmt} {scope : Scope} (nd : (as.map (·.arg)).Nodup) (kV doc pm : Value) (an : Option Addr) (cdv ct : Value) (us : List Value) (hl : us.length = (as.map (·.arg)).length) :
    bindArgs (PySem.W.fnOf x qual ⟨[], as, none, [], [], none, []⟩ body scope .none kV doc pm an cdv ct) ⟨us, []⟩ = pure ((as.map (·.arg)).zip us) := by
  have hm : ((as.map (·.arg)).take (as.map (·.arg)).length).filter (fun n => (((as.map (·.arg)).zip us).lookup n).isNone) = [] := by
    rw [List.take_length, List.filter_eq_nil_iff]
    intro n hn
    rw [lookup_some hl hn]; exact Bool.false_ne_true
  unfold bindArgs PySem.W.fnOf
  have e0 : seqItems? Value.none = pure none := rfl
  have e1 : ¬ (us.length > (as.map (·.arg)).length) := by omega
  rw [List.take_length] at hm
  simp only [List.map_nil, List.nil_append, List.append_nil, List.forIn_nil, pure_bind, e0, Option.getD_none, List.drop_nil, List.length_nil, Nat.sub_zero, List.take_length, List.zip_nil_right, hm, e1, decide_false, Bool.false_and, List.isEmpty_nil, Bool.not_true, Bool.false_eq_true, if_false]
  exact congrArg pure (lookup_zip nd hl)

/-! ### a def of the text keeps what the tongue says of it -/
theorem start_len {N : List Str} {vs : List V} (h : vs.length ≤ N.length) : (start N vs).length = N.length := by
  unfold L2.start
  rw [List.length_append, List.length_map, List.length_replicate]; omega
theorem start_rs {K : PySem.W.Frag} {G H : Hp} {N : List Str} {vs : List V} {ds : List D} (s : Same G H) (r : DpAll K G vs ds) (h : vs.length ≤ N.length) : RSG K none H G G (start N vs) H (startE N.length ds) := by
  have e := dpAll_len r
  have hl : (startE N.length ds).length = N.length := by
    unfold startE
    rw [List.length_append, List.length_map, List.length_replicate]; omega
  have key : ∀ (i : Nat) (z : Sl), (startE N.length ds)[i]? = some z → z = .no ∨ ∃ d, z = .fr d ∧ ds[i]? = some d := by
    intro i z q
    unfold startE at q
    by_cases hi : i < ds.length
    · rw [List.getElem?_append_left (by simpa using hi), List.getElem?_map] at q
      cases q2 : ds[i]? with
      | none => rw [q2] at q; cases q
      | some d => rw [q2] at q; cases q; exact .inr ⟨d, rfl, rfl⟩
    · rw [List.getElem?_append_right (by simpa using hi), List.getElem?_replicate] at q
      split at q
      · cases q; exact .inl rfl
      · cases q
  refine ⟨Ext.refl s, ⟨by rw [start_len h, hl], fun i d q => ?_⟩, fun i es q => ?_, fun i b k fs q => ?_, fun p dx k q => (by cases q), fun i es q => by rcases key i _ q with z | ⟨d2, z, q2⟩ <;> cases z⟩
  · rcases key i _ q with z | ⟨d2, z, q2⟩
    · cases z
    · cases z
      obtain ⟨v, h1, h2⟩ := dpAll_get r q2
      refine ⟨v, ?_, h2⟩
      have hi : i < vs.length := by
        rcases Nat.lt_or_ge i vs.length with z | z
        · exact z
        · rw [List.getElem?_eq_none z] at h1; cases h1
      unfold L2.start
      rw [List.getElem?_append_left (by simpa using hi), List.getElem?_map, h1]; rfl
  · rcases key i _ q with z | ⟨d2, z, q2⟩
    · cases z
    · cases z
  · rcases key i _ q with z | ⟨d2, z, q2⟩
    · cases z
    · cases z
/-- at a method's start -/
theorem start_rsM {K : PySem.W.Frag} {G H : Hp} {N : List Str} {p dx : Addr} {k : Nat} {ws vs : List V} {fs ds : List D} (s : Same G H) (hp : H p = some (insO K k dx ws)) (rw0 : DpAll K G ws fs) (gp : G p = none) (r : DpAll K G vs ds) (h : vs.length + 1 ≤ N.length) :
    RSG K (some (.ins p dx k)) (del H p) G G (start N (.ref p :: vs)) H ((startE N.length (.tuple fs :: ds)).set 0 (.ob true k fs)) := by
  have e := dpAll_len r
  have hl : (startE N.length (.tuple fs :: ds)).length = N.length := by
    unfold startE
    rw [List.length_append, List.length_map, List.length_replicate, List.length_cons]; omega
  have h0 : 0 < (startE N.length (.tuple fs :: ds)).length := by rw [hl]; omega
  have key : ∀ (i : Nat) (z : Sl), ((startE N.length (.tuple fs :: ds)).set 0 (.ob true k fs))[i]? = some z → (i = 0 ∧ z = .ob true k fs) ∨ (z = .no) ∨ ∃ d j, i = j + 1 ∧ z = .fr d ∧ ds[j]? = some d := by
    intro i z q
    cases i with
    | zero =>
      rw [List.getElem?_set_self h0] at q
      cases q
      exact .inl ⟨rfl, rfl⟩
    | succ j =>
      rw [List.getElem?_set_ne (by omega)] at q
      unfold startE at q
      rw [List.map_cons, List.cons_append, List.getElem?_cons_succ] at q
      by_cases hi : j < ds.length
      · rw [List.getElem?_append_left (by simpa using hi), List.getElem?_map] at q
        cases q2 : ds[j]? with
        | none => rw [q2] at q; cases q
        | some d => rw [q2] at q; cases q; exact .inr (.inr ⟨d, j, rfl, rfl, q2⟩)
      · rw [List.getElem?_append_right (by simpa using hi), List.getElem?_replicate] at q
        split at q
        · cases q; exact .inr (.inl rfl)
        · cases q
  have st0 : (start N (.ref p :: vs))[0]? = some (some (.ref p)) := rfl
  refine ⟨⟨del_same, Same.refl _, s, fun _ _ _ n => n⟩, ⟨by rw [start_len (by simpa using h), List.length_set, hl], fun i d q => ?_⟩, fun i es q => ?_, fun i b k2 gs q => ?_, fun p2 dx2 k2 q => ?_, fun i es q => by rcases key i _ q with ⟨_, z⟩ | z | ⟨d2, j, z1, z, q2⟩ <;> cases z⟩
  · rcases key i _ q with ⟨_, z⟩ | z | ⟨d2, j, z1, z2, q2⟩
    · cases z
    · cases z
    · cases z2
      subst z1
      obtain ⟨v, h1, h2⟩ := dpAll_get r q2
      refine ⟨v, ?_, h2⟩
      have hi : j < vs.length := by
        rcases Nat.lt_or_ge j vs.length with z | z
        · exact z
        · rw [List.getElem?_eq_none z] at h1; cases h1
      unfold L2.start
      rw [List.map_cons, List.cons_append, List.getElem?_cons_succ, List.getElem?_append_left (by simpa using hi), List.getElem?_map, h1]; rfl
  · rcases key i _ q with ⟨_, z⟩ | z | ⟨d2, j, z1, z2, q2⟩
    · cases z
    · cases z
    · cases z2
  · rcases key i _ q with ⟨z0, z⟩ | z | ⟨d2, j, z1, z2, q2⟩
    · cases z
      subst z0
      refine ⟨p, dx, ws, st0, hp, rw0, del_self, gp, .inl ⟨rfl, rfl⟩, fun j b2 k3 gs3 q3 n3 e3 _ => ?_⟩
      rcases key j _ e3 with ⟨y, _⟩ | y | ⟨_, _, _, y, _⟩
      · exact (n3 y).elim
      · cases y
      · cases y
    · cases z
    · cases z2
  · cases q
    exact ⟨gp, ws, hp⟩

/-- at the start of a def with a lent list -/
theorem start_rsL {K : PySem.W.Frag} {G H : Hp} {N : List Str} {p : Addr} {ws : List V} {es : List D} {v : V} {d : D} (s : Same G H) (hp : H p = some (.lst ws)) (rw0 : DpAll K G ws es) (gp : G p = none) (r : Dp K G v d) (h : 2 ≤ N.length) :
    RSG K (some (.lst p)) (del H p) G G (start N [v, .ref p]) H ((startE N.length [d, .list es]).set 1 (.ln es)) := by
  have hl : (startE N.length [d, .list es]).length = N.length := by
    unfold startE
    rw [List.length_append, List.length_map, List.length_replicate, List.length_cons, List.length_cons, List.length_nil]; omega
  have h0 : 1 < (startE N.length [d, .list es]).length := by rw [hl]; omega
  have key : ∀ (i : Nat) (z : Sl), ((startE N.length [d, .list es]).set 1 (.ln es))[i]? = some z → (i = 1 ∧ z = .ln es) ∨ z = .no ∨ (i = 0 ∧ z = .fr d) := by
    intro i z q
    by_cases hi : 1 = i
    · subst hi
      rw [List.getElem?_set_self h0] at q
      cases q
      exact .inl ⟨rfl, rfl⟩
    · rw [List.getElem?_set_ne hi] at q
      unfold startE at q
      cases i with
      | zero => cases q; exact .inr (.inr ⟨rfl, rfl⟩)
      | succ j => cases j with
        | zero => exact (hi rfl).elim
        | succ j =>
          rw [List.map_cons, List.map_cons, List.map_nil, List.cons_append, List.cons_append, List.getElem?_cons_succ, List.getElem?_cons_succ, List.nil_append, List.getElem?_replicate] at q
          split at q
          · cases q; exact .inr (.inl rfl)
          · cases q
  refine ⟨⟨del_same, Same.refl _, s, fun _ _ _ n => n⟩, ⟨by rw [start_len (by simpa using h), List.length_set, hl], fun i d2 q => ?_⟩, fun i es q => ?_, fun i b k2 gs q => ?_, fun p2 dx2 k2 q => (by cases q), fun i es2 q => ?_⟩
  · rcases key i _ q with ⟨_, z⟩ | z | ⟨z1, z⟩
    · cases z
    · cases z
    · cases z
      subst z1
      exact ⟨v, rfl, r⟩
  · rcases key i _ q with ⟨_, z⟩ | z | ⟨z1, z⟩ <;> cases z
  · rcases key i _ q with ⟨_, z⟩ | z | ⟨z1, z⟩ <;> cases z
  · rcases key i _ q with ⟨z0, z⟩ | z | ⟨z1, z⟩
    · cases z
      subst z0
      refine ⟨p, ws, rfl, hp, rw0, del_self, gp, rfl, fun j es3 n3 e3 => ?_, fun j es3 q3 e3 _ => ?_⟩
      · rcases key j _ e3 with ⟨y, _⟩ | y | ⟨_, y⟩
        · exact n3 y
        · cases y
        · cases y
      · rcases key j _ e3 with ⟨_, y⟩ | y | ⟨_, y⟩ <;> cases y
    · cases z
    · cases z
/-- the text's facts that every body leans on -/
structure Wd (T : Nat → Option Def) (g : Gm) (ex : List Str) (ca : Str → Value) (P : Program) (K : PySem.W.Frag) (mg : Str → Option Value) (w : World) : Prop where
  tree : P.given.tree = none
  blt : ∀ x ∈ blts, mg x = none
  cons : ∀ x j, (x, j) ∈ g.cons → ∃ u v, mg x = some u ∧ RelV v u ∧ ∀ H, Dp K H v (cst j)
  exm : ∀ c2, ∀ c ∈ ex, PySem.W.exmOne K (ca c2) (ca c) = some (isSub c2 c)
  rai : ∀ c ∈ ex, ∃ C, ca c = .ref C ∧ mg c = some (.ref C) ∧ PySem.W.excIn K C He.veBase "ValueError.__new__" = true ∧ PySem.W.keepIn K (.ref C) = true ∧ PySem.W.subIn K (.ref C) (.type "BaseException") = some true ∧ PySem.W.typeIn K (.ref C) = some (.type "type")
  fns : ∀ x i, (x, i) ∈ g.fns → ∃ f fd N as body scope d, mg x = some (.ref f) ∧ FunD K x x ⟨[], as, none, [], [], none, []⟩ body scope [] [] f fd ∧ FnScope N (as.map (·.arg)) scope ∧ T i = some d ∧ d.ps = as.length ∧ d.sl = N.length ∧ as.length ≤ N.length ∧ chkSs g ex d.body ⟨N, scope, fun _ => true, true, false⟩ body = true
  wrd : ∀ x k, (x, k) ∈ g.wrds → ∃ f fd as body scope, mg x = some (.ref f) ∧ FunD K x x ⟨[], as, none, [], [], none, []⟩ body scope [] [] f fd ∧ as.map (·.arg) = (["e"] : List Str) ∧ FnScope (["e", "flags"] : List Str) (["e"] : List Str) scope ∧ wordB scope (wtab k) (wtab k) body = true
  clo : g.wrds ≠ [] → mg "ValueError" = none ∧ ∃ C, mg (Str.ofString "CloseError") = some (.ref C) ∧ ∀ c, PySem.W.exmOne K (ca c) (.ref C) = some true
  wcl : ∀ x k, (x, k) ∈ g.wrds → ∀ c, ∃ D, ca c = .ref D ∧ ExcC K D ∧ PySem.W.kitOne K (.ref D) (.type "ValueError") = some true ∧ ∀ j ∈ wtab k, ∃ C, mg j = some (.ref C) ∧ PySem.W.kitOne K (.ref D) (.ref C) = some (isSub c j)
  clss : ∀ k ∈ g.clss, ClsOk K mg k
  mths : ∀ k m i, (k, m, i) ∈ g.mths → ∃ f fd q N as body scope d ss, Meth K (clsA K k) m f ∧ FunD K m q ⟨[], as, none, [], [], none, []⟩ body scope [] [] f fd ∧ FnScope N (as.map (·.arg)) scope ∧ T i = some d ∧ d.ps = as.length ∧ d.sl = N.length ∧ as.length ≤ N.length ∧ d.body = .cons (.self k) ss ∧ chkSsM g ex ss ⟨N, scope, fun _ => true, true, true⟩ body = true
  inis : ∀ k i, (k, i) ∈ g.inis → (k, ("__init__" : Str), i) ∈ g.mths ∧ ∃ f, Mk K (clsA K k) f
  lfs : ∀ x i, (x, i) ∈ g.lfs → ∃ f fd N as body scope d ss, mg x = some (.ref f) ∧ FunD K x x ⟨[], as, none, [], [], none, []⟩ body scope [] [] f fd ∧ FnScope N (as.map (·.arg)) scope ∧ T i = some d ∧ d.ps = as.length ∧ d.sl = N.length ∧ as.length ≤ N.length ∧ as.length = 2 ∧ d.body = .cons (.selfL 1) ss ∧ chkSs g ex ss ⟨N, scope, fun _ => true, true, true⟩ body = true
  dv : ∀ x j, (x, j) ∈ g.dvs → ∃ d es m, mg x = some (.ref d) ∧ KDict K w d es m ∧ ∀ z, ∃ r, PySem.W.nsIn K d z = some r ∧ r.isSome = ((dctV j).lookup z).isSome ∧ ∀ s, (dctV j).lookup z = some s → ∃ t, r = some (.str s t)
  dct : ∀ x j, (x, j) ∈ g.dcts → ∃ d es m, mg x = some (.ref d) ∧ KDict K w d es m ∧ ∀ z b, (z, b) ∈ dctT j → ∃ r, PySem.W.nsIn K d z = some r ∧ r.isSome = b

/-- a def that tells words keeps what the tongue says of it -/
theorem word_fn {T : Nat → Option Def} {g : Gm} {ex : List Str} {ca : Str → Value} {P : Program} {w : World} {K : PySem.W.Frag} {mg : Str → Option Value} {base : Heap} (Z : Wd T g ex ca P K mg w) {x : Str} {k : Nat} (h : (x, k) ∈ g.wrds) :
    ∃ f fd ps, mg x = some (.ref f) ∧ PySem.W.keepIn K (.ref f) = true ∧ Binds K fd ps [] ∧ FnW P w K mg base (L2N.CX P w) 30 f fd ps (spW ca k) := by
  obtain ⟨f, fd, as, body, scope, m1, F, ea, S, hb⟩ := Z.wrd x k h
  obtain ⟨ve, _⟩ := Z.clo (fun z => by rw [z] at h; cases h)
  refine ⟨f, fd, as.map (·.arg), m1, F.kp, F.bindsN fun kV doc pm an cdv ct us hl => bind_plain (by rw [ea]; decide) kV doc pm an cdv ct us hl, ?_⟩
  rw [ea]
  refine fnW_of (k := 29) F S (fun q vs H Q E ⟨c, e, _⟩ => by rw [e]; rfl) fun cdv A out s H vs Q E q hot hr ⟨c, ev, hz, hf, hq⟩ => ?_
  subst ev
  obtain ⟨D, d1, d2, d3, d4⟩ := Z.wcl x k h c
  rw [d1] at hz
  have W : WordCx (L2H.cxH (L2N.CX P w) P w K mg base (["e", "flags"] : List Str) x scope f cdv A out s H E q) (wtab k) scope c q.1 D q.2 :=
    ⟨rfl, rfl, fun _ => rfl, List.mem_singleton.mpr rfl, ⟨q, hot, List.mem_singleton.mpr rfl⟩, by
      have z := hr.un
      show (A.deeper (envOfC x scope s.heap.objs.size f cdv)).units + 65 < cLine
      omega, d2, hz.zc, hf, fun y hy => by
        rcases List.mem_cons.mp hy with rfl | hy
        · exact Z.blt _ (by decide)
        · rcases List.mem_cons.mp hy with rfl | hy
          · exact Z.blt _ (by decide)
          · rcases List.mem_cons.mp hy with rfl | hy
            · exact Z.blt _ (by decide)
            · have e : y = ("ValueError" : Str) := by simpa using hy
              rw [e]; exact ve, d4, d3⟩
  exact ⟨_, wordB_ok W hb, rfl, rfl, fun H' g => hq H' g⟩

theorem fn_one {T : Nat → Option Def} {g : Gm} {ex : List Str} {ca : Str → Value} {P : Program} {w : World} {K : PySem.W.Frag} {mg : Str → Option Value} {base : Heap} {n : Nat} {x : Str} {i : Nat} {f : Addr} {fd : FuncData} {N : List Str} {as : List Arg} {body : List Stmt} {scope : Scope} {d : Def} (Z : Wd T g ex ca P K mg w) (sr : base.NoSeer)
    (ih : ∀ (x : Str) (i : Nat), (x, i) ∈ g.fns → ∃ f fd ps, mg x = some (.ref f) ∧ PySem.W.keepIn K (.ref f) = true ∧ Binds K fd ps [] ∧ FnOk P w K mg base (L2N.CX P w) (2 * n + 45) f fd ps (spF T ca K n i))
    (ihm : ∀ k m i, (k, m, i) ∈ g.mths → ∃ f fd ps, Meth K (clsA K k) m f ∧ Binds K fd ps [] ∧ FnOk P w K mg base (L2N.CX P w) (2 * n + 45) f fd ps (spM T ca K n i k))
    (ihi : ∀ k i, (k, i) ∈ g.inis → ∃ f fd ps, Mk K (clsA K k) f ∧ Binds K fd ps [] ∧ FnOk P w K mg base (L2N.CX P w) (2 * n + 45) f fd ps (spM T ca K n i k))
    (ihl : ∀ x i, (x, i) ∈ g.lfs → ∃ f fd ps, mg x = some (.ref f) ∧ PySem.W.keepIn K (.ref f) = true ∧ Binds K fd ps [] ∧ FnOk P w K mg base (L2N.CX P w) (2 * n + 45) f fd ps (spL T K n i))
    (F : FunD K x x ⟨[], as, none, [], [], none, []⟩ body scope [] [] f fd) (S : FnScope N (as.map (·.arg)) scope) (e1 : T i = some d) (e2 : d.ps = as.length) (e3 : d.sl = N.length) (e4 : as.length ≤ N.length) (h2 : chkSs g ex d.body ⟨N, scope, fun _ => true, true, false⟩ body = true) :
    FnOk P w K mg base (L2N.CX P w) (2 * (n + 1) + 45) f fd (as.map (·.arg)) (spF T ca K (n + 1) i) := by
  have e5 : 2 * (n + 1) + 45 = (2 * n + 46) + 1 := by omega
  rw [e5]
  have ev1 : ∀ ds, evc T (n + 1) i ds = runD (evc T n) d ds := fun ds => by show (match T i with | some d => runD (evc T n) d ds | none => .bad) = _; rw [e1]
  refine F.ok S (fun vs H Q E q => ?_) fun cdv A outer s H vs Q E hr q => ?_
  · obtain ⟨ds, G, _, r, z⟩ := q
    rw [ev1] at z
    unfold runD at z
    split at z
    · rw [dpAll_len r, List.length_map, ← e2]; assumption
    · exact z.elim
  · obtain ⟨ds, G, sG, r, z⟩ := q
    rw [ev1] at z
    unfold runD at z
    split at z
    · rename_i hlen
      have hvl : vs.length ≤ N.length := by rw [dpAll_len r, hlen, e2]; exact e4
      have C : CxS T g ex ca n ⟨N, scope, fun _ => true, true, false⟩ (cxOf (L2N.CX P w) P w K mg base N x scope f cdv A outer s H E) :=
        ⟨⟨rfl, rfl, rfl, fun _ => ⟨rfl, rfl⟩, S.nd, rfl, hr, ⟨by
            have q := hr.dp
            show (A.deeper (envOfC x scope s.heap.objs.size f cdv)).depth + 100 < recursionLimit
            omega, sr, Z.tree, ⟨_, _, rfl, S.gen, S.co, rfl, rfl⟩⟩, Z.blt, Z.cons, ih, fun x j h => ⟨Z.dct x j h⟩, Z.clss, ihm, ihi, ihl, fun x j h => ⟨Z.dv x j h⟩⟩, rfl, rfl, passes_of rfl, S.kind, Z.exm, fun c hc => by
            obtain ⟨A, a1, a2, a3, a4, a5, a6⟩ := Z.rai c hc
            exact ⟨A, a1, a2, a3, a4, raises_own a5 a6⟩, fun x k h => word_fn Z h, fun h => (Z.clo h).2⟩
      refine ⟨_, sndSs d.body C (L2N.takes_of rfl rfl rfl rfl) h2, none, H, G, G, startE N.length ds, rfl, start_rs sG r hvl, ?_⟩
      rw [← e3]
      show OutS K ca _ none H G _ (evSs (evc T n) (startE d.sl ds) d.body)
      cases eb : evSs (evc T n) (startE d.sl ds) d.body with
      | next e1 => rw [eb] at z; exact fun σ2 H2 G2 R2 => z .non H2 G2 R2.x .non
      | ret x => rw [eb] at z; exact fun v H2 G2 x2 p2 => z v H2 G2 x2 p2
      | exc c2 e1 => rw [eb] at z; exact fun σ2 H2 G2 R2 => z H2 G2 R2.x
      | brk e1 => rw [eb] at z; exact z.elim
      | cont e1 => rw [eb] at z; exact z.elim
      | bad => rw [eb] at z; exact z.elim
    · exact z.elim
theorem metO_ok {r : R D} {x : D × List D} (h : metO r = .ok x) : r = .ok (.tuple [x.1, .tuple x.2]) := by
  unfold metO at h
  split at h
  · cases h; rfl
  · cases h
  · cases h
theorem metO_exc {r : R D} {c : Str} (h : metO r = .exc c) : r = .exc c := by
  unfold metO at h
  split at h
  · cases h
  · cases h; rfl
  · cases h
/-- a method keeps what the tongue says of it -/
theorem mth_one {T : Nat → Option Def} {g : Gm} {ex : List Str} {ca : Str → Value} {P : Program} {w : World} {K : PySem.W.Frag} {mg : Str → Option Value} {base : Heap} {n : Nat} {x q0 : Str} {i k : Nat} {f : Addr} {fd : FuncData} {N : List Str} {as : List Arg} {body : List Stmt} {scope : Scope} {d : Def} {ss : Ss} (Z : Wd T g ex ca P K mg w) (sr : base.NoSeer)
    (ih : ∀ (x : Str) (i : Nat), (x, i) ∈ g.fns → ∃ f fd ps, mg x = some (.ref f) ∧ PySem.W.keepIn K (.ref f) = true ∧ Binds K fd ps [] ∧ FnOk P w K mg base (L2N.CX P w) (2 * n + 45) f fd ps (spF T ca K n i))
    (ihm : ∀ k m i, (k, m, i) ∈ g.mths → ∃ f fd ps, Meth K (clsA K k) m f ∧ Binds K fd ps [] ∧ FnOk P w K mg base (L2N.CX P w) (2 * n + 45) f fd ps (spM T ca K n i k))
    (ihi : ∀ k i, (k, i) ∈ g.inis → ∃ f fd ps, Mk K (clsA K k) f ∧ Binds K fd ps [] ∧ FnOk P w K mg base (L2N.CX P w) (2 * n + 45) f fd ps (spM T ca K n i k))
    (ihl : ∀ x i, (x, i) ∈ g.lfs → ∃ f fd ps, mg x = some (.ref f) ∧ PySem.W.keepIn K (.ref f) = true ∧ Binds K fd ps [] ∧ FnOk P w K mg base (L2N.CX P w) (2 * n + 45) f fd ps (spL T K n i))
    (F : FunD K x q0 ⟨[], as, none, [], [], none, []⟩ body scope [] [] f fd) (S : FnScope N (as.map (·.arg)) scope) (e1 : T i = some d) (e2 : d.ps = as.length) (e3 : d.sl = N.length) (e4 : as.length ≤ N.length) (e0 : d.body = .cons (.self k) ss) (h2 : chkSsM g ex ss ⟨N, scope, fun _ => true, true, true⟩ body = true) :
    FnOk P w K mg base (L2N.CX P w) (2 * (n + 1) + 45) f fd (as.map (·.arg)) (spM T ca K (n + 1) i k) := by
  have e5 : 2 * (n + 1) + 45 = (2 * n + 46) + 1 := by omega
  rw [e5]
  have ev1 : ∀ ds, evc T (n + 1) i ds = runD (evc T n) d ds := fun ds => by show (match T i with | some d => runD (evc T n) d ds | none => .bad) = _; rw [e1]
  have hlen : ∀ {B : Str → Hp → Prop} {H G : Hp} {p dx : Addr} {Q : VK} {ds : List D}, RsB K B H G p dx k Q (metO (evc T (n + 1) i ds)) → ds.length = d.ps := fun {B H G p dx Q ds} z => by
    rw [ev1] at z
    unfold runD at z
    split at z
    · assumption
    · exact z.elim
  refine F.ok S (fun vs H Q E q => ?_) fun cdv A outer s H vs Q E hr q => ?_
  · obtain ⟨p, dx, ws, fs, us, ds, G, rfl, g1, g2, g3, g4, g5, z⟩ := q
    have y := hlen z
    rw [List.length_cons] at y
    rw [List.length_cons, dpAll_len g5, List.length_map, ← e2, y]
  · obtain ⟨p, dx, ws, fs, us, ds, G, rfl, g1, g2, g3, g4, g5, z⟩ := q
    have y := hlen z
    have hvl : us.length + 1 ≤ N.length := by
      rw [dpAll_len g5]
      rw [List.length_cons] at y
      omega
    have C : CxS T g ex ca n ⟨N, scope, fun _ => true, true, true⟩ (cxOf (L2N.CX P w) P w K mg base N q0 scope f cdv A outer s H E) :=
      ⟨⟨rfl, rfl, rfl, fun _ => ⟨rfl, rfl⟩, S.nd, rfl, hr, ⟨by
          have q := hr.dp
          show (A.deeper (envOfC q0 scope s.heap.objs.size f cdv)).depth + 100 < recursionLimit
          omega, sr, Z.tree, ⟨_, _, rfl, S.gen, S.co, rfl, rfl⟩⟩, Z.blt, Z.cons, ih, fun x j h => ⟨Z.dct x j h⟩, Z.clss, ihm, ihi, ihl, fun x j h => ⟨Z.dv x j h⟩⟩, rfl, rfl, passes_of rfl, S.kind, Z.exm, fun c hc => by
          obtain ⟨A, a1, a2, a3, a4, a5, a6⟩ := Z.rai c hc
          exact ⟨A, a1, a2, a3, a4, raises_own a5 a6⟩, fun x k h => word_fn Z h, fun h => (Z.clo h).2⟩
    refine ⟨_, sndSsM ss rfl C (L2N.takes_of rfl rfl rfl rfl) h2, fun _ _ h => h, some (.ins p dx k), del H p, G, G, (startE N.length (.tuple fs :: ds)).set 0 (.ob true k fs), rfl, start_rsM g4 g1 g2 g3 g5 hvl, ?_⟩
    rw [ev1] at z
    unfold runD at z
    rw [if_pos y, e0] at z
    have st0 : (startE d.sl (.tuple fs :: ds))[0]? = some (.fr (.tuple fs)) := rfl
    have es : evSs (evc T n) (startE d.sl (.tuple fs :: ds)) (.cons (.self k) ss) = evSs (evc T n) ((startE d.sl (.tuple fs :: ds)).set 0 (.ob true k fs)) ss := by
      simp only [evSs, evS]
      rw [st0]
    rw [es] at z
    rw [← e3]
    show OutS K ca _ (some (.ins p dx k)) (del H p) G _ (evSs (evc T n) ((startE d.sl (.tuple fs :: ds)).set 0 (.ob true k fs)) ss)
    cases eb : evSs (evc T n) ((startE d.sl (.tuple fs :: ds)).set 0 (.ob true k fs)) ss with
    | next e1 => rw [eb] at z; exact z.elim
    | brk e1 => rw [eb] at z; exact z.elim
    | cont e1 => rw [eb] at z; exact z.elim
    | bad => rw [eb] at z; exact z.elim
    | ret x =>
      rw [eb] at z
      dsimp only at z
      cases em : metO (.ok x) with
      | bad => rw [em] at z; exact z.elim
      | exc c => cases metO_exc em
      | ok r =>
        rw [em] at z
        have ex := metO_ok em
        cases ex
        refine ⟨r.1, r.2, rfl, fun v H2 G2 ws2 x2 a1 a2 a3 a4 => z v H2 G2 ws2 ⟨fun b o w => ?_, x2.b, fun b o w => ?_, x2.d⟩ a1 a2 a3 a4⟩
        · rw [del_ne (del_some w).1]; exact x2.a b o w
        · rw [del_ne (ne_of_none w a3)]; exact x2.c b o w
    | exc c2 e1 =>
      rw [eb] at z
      intro σ2 H2 G2 R2
      obtain ⟨s1, ws2, s2⟩ := R2.s p dx k rfl
      refine z H2 G2 ws2 ⟨fun b o w => ?_, R2.x.b, fun b o w => ?_, R2.x.d⟩ s2
      · rw [del_ne (del_some w).1]; exact R2.x.a b o w
      · rw [del_ne (ne_of_none w s1)]; exact R2.x.c b o w
/-- a def with a lent list keeps what the tongue says of it -/
theorem lst_one {T : Nat → Option Def} {g : Gm} {ex : List Str} {ca : Str → Value} {P : Program} {w : World} {K : PySem.W.Frag} {mg : Str → Option Value} {base : Heap} {n : Nat} {x : Str} {i : Nat} {f : Addr} {fd : FuncData} {N : List Str} {as : List Arg} {body : List Stmt} {scope : Scope} {d : Def} {ss : Ss} (Z : Wd T g ex ca P K mg w) (sr : base.NoSeer)
    (ih : ∀ (x : Str) (i : Nat), (x, i) ∈ g.fns → ∃ f fd ps, mg x = some (.ref f) ∧ PySem.W.keepIn K (.ref f) = true ∧ Binds K fd ps [] ∧ FnOk P w K mg base (L2N.CX P w) (2 * n + 45) f fd ps (spF T ca K n i))
    (ihm : ∀ k m i, (k, m, i) ∈ g.mths → ∃ f fd ps, Meth K (clsA K k) m f ∧ Binds K fd ps [] ∧ FnOk P w K mg base (L2N.CX P w) (2 * n + 45) f fd ps (spM T ca K n i k))
    (ihi : ∀ k i, (k, i) ∈ g.inis → ∃ f fd ps, Mk K (clsA K k) f ∧ Binds K fd ps [] ∧ FnOk P w K mg base (L2N.CX P w) (2 * n + 45) f fd ps (spM T ca K n i k))
    (ihl : ∀ x i, (x, i) ∈ g.lfs → ∃ f fd ps, mg x = some (.ref f) ∧ PySem.W.keepIn K (.ref f) = true ∧ Binds K fd ps [] ∧ FnOk P w K mg base (L2N.CX P w) (2 * n + 45) f fd ps (spL T K n i))
    (F : FunD K x x ⟨[], as, none, [], [], none, []⟩ body scope [] [] f fd) (S : FnScope N (as.map (·.arg)) scope) (e1 : T i = some d) (e2 : d.ps = as.length) (e3 : d.sl = N.length) (e4 : as.length ≤ N.length) (e6 : as.length = 2) (e0 : d.body = .cons (.selfL 1) ss) (h2 : chkSs g ex ss ⟨N, scope, fun _ => true, true, true⟩ body = true) :
    FnOk P w K mg base (L2N.CX P w) (2 * (n + 1) + 45) f fd (as.map (·.arg)) (spL T K (n + 1) i) := by
  have e5 : 2 * (n + 1) + 45 = (2 * n + 46) + 1 := by omega
  rw [e5]
  have ev1 : ∀ ds, evc T (n + 1) i ds = runD (evc T n) d ds := fun ds => by show (match T i with | some d => runD (evc T n) d ds | none => .bad) = _; rw [e1]
  refine F.ok S (fun vs H Q E q => ?_) fun cdv A outer s H vs Q E hr q => ?_
  · obtain ⟨v, p, ws, es, d0, G, rfl, _⟩ := q
    rw [List.length_map, e6]; rfl
  · obtain ⟨v, p, ws, es, d0, G, rfl, g1, g2, g3, g4, g5, z⟩ := q
    have C : CxS T g ex ca n ⟨N, scope, fun _ => true, true, true⟩ (cxOf (L2N.CX P w) P w K mg base N x scope f cdv A outer s H E) :=
      ⟨⟨rfl, rfl, rfl, fun _ => ⟨rfl, rfl⟩, S.nd, rfl, hr, ⟨by
          have q := hr.dp
          show (A.deeper (envOfC x scope s.heap.objs.size f cdv)).depth + 100 < recursionLimit
          omega, sr, Z.tree, ⟨_, _, rfl, S.gen, S.co, rfl, rfl⟩⟩, Z.blt, Z.cons, ih, fun x j h => ⟨Z.dct x j h⟩, Z.clss, ihm, ihi, ihl, fun x j h => ⟨Z.dv x j h⟩⟩, rfl, rfl, passes_of rfl, S.kind, Z.exm, fun c hc => by
          obtain ⟨A, a1, a2, a3, a4, a5, a6⟩ := Z.rai c hc
          exact ⟨A, a1, a2, a3, a4, raises_own a5 a6⟩, fun x k h => word_fn Z h, fun h => (Z.clo h).2⟩
    have y : ([d0, .list es] : List D).length = d.ps := by rw [e2, e6]; rfl
    refine ⟨_, sndSs ss C (L2N.takes_of rfl rfl rfl rfl) h2, some (.lst p), del H p, G, G, (startE N.length [d0, .list es]).set 1 (.ln es), rfl, start_rsL g4 g1 g2 g3 g5 (by omega), ?_⟩
    rw [ev1] at z
    unfold runD at z
    rw [if_pos y, e0] at z
    have st0 : (startE d.sl [d0, .list es])[1]? = some (.fr (.list es)) := rfl
    have es0 : evSs (evc T n) (startE d.sl [d0, .list es]) (.cons (.selfL 1) ss) = evSs (evc T n) ((startE d.sl [d0, .list es]).set 1 (.ln es)) ss := by
      simp only [evSs, evS]
      rw [st0]
    rw [es0] at z
    rw [← e3]
    show OutS K ca _ (some (.lst p)) (del H p) G _ (evSs (evc T n) ((startE d.sl [d0, .list es]).set 1 (.ln es)) ss)
    cases eb : evSs (evc T n) ((startE d.sl [d0, .list es]).set 1 (.ln es)) ss with
    | next e1 => rw [eb] at z; exact z.elim
    | brk e1 => rw [eb] at z; exact z.elim
    | cont e1 => rw [eb] at z; exact z.elim
    | bad => rw [eb] at z; exact z.elim
    | exc c2 e1 => rw [eb] at z; exact z.elim
    | ret x =>
      rw [eb] at z
      dsimp only at z
      cases em : metL (.ok x) with
      | bad => rw [em] at z; exact z.elim
      | exc c => exact (metL_exc em).elim
      | ok r =>
        rw [em] at z
        have ex := metL_ok em
        cases ex
        refine ⟨r.1, r.2, rfl, fun v H2 G2 ws2 x2 a1 a2 a3 a4 => z v H2 G2 ws2 ⟨fun b o w => ?_, x2.b, fun b o w => ?_, x2.d⟩ a1 a2 a3 a4⟩
        · rw [del_ne (del_some w).1]; exact x2.a b o w
        · rw [del_ne (ne_of_none w a3)]; exact x2.c b o w
/-- functions, methods, makers -/
structure All3 (T : Nat → Option Def) (g : Gm) (ca : Str → Value) (P : Program) (w : World) (K : PySem.W.Frag) (mg : Str → Option Value) (base : Heap) (n : Nat) : Prop where
  f : ∀ (x : Str) (i : Nat), (x, i) ∈ g.fns → ∃ f fd ps, mg x = some (.ref f) ∧ PySem.W.keepIn K (.ref f) = true ∧ Binds K fd ps [] ∧ FnOk P w K mg base (L2N.CX P w) (2 * n + 45) f fd ps (spF T ca K n i)
  m : ∀ k m i, (k, m, i) ∈ g.mths → ∃ f fd ps, Meth K (clsA K k) m f ∧ Binds K fd ps [] ∧ FnOk P w K mg base (L2N.CX P w) (2 * n + 45) f fd ps (spM T ca K n i k)
  l : ∀ x i, (x, i) ∈ g.lfs → ∃ f fd ps, mg x = some (.ref f) ∧ PySem.W.keepIn K (.ref f) = true ∧ Binds K fd ps [] ∧ FnOk P w K mg base (L2N.CX P w) (2 * n + 45) f fd ps (spL T K n i)
theorem All3.i {T : Nat → Option Def} {g : Gm} {ex : List Str} {ca : Str → Value} {P : Program} {w : World} {K : PySem.W.Frag} {mg : Str → Option Value} {base : Heap} {n : Nat} (Z : Wd T g ex ca P K mg w) (A : All3 T g ca P w K mg base n) :
    ∀ k i, (k, i) ∈ g.inis → ∃ f fd ps, Mk K (clsA K k) f ∧ Binds K fd ps [] ∧ FnOk P w K mg base (L2N.CX P w) (2 * n + 45) f fd ps (spM T ca K n i k) := fun k i h => by
  obtain ⟨h1, f, M⟩ := Z.inis k i h
  obtain ⟨f2, fd, ps, m1, m2, m3⟩ := A.m k _ i h1
  have e : f = f2 := by
    have a := M.init
    rw [m1.at_] at a
    injection a with a
    injection a with a
    injection a with a
    exact a.symm
  subst e
  exact ⟨f, fd, ps, M, m2, m3⟩
theorem fn_all {T : Nat → Option Def} {g : Gm} {ex : List Str} {ca : Str → Value} {P : Program} {w : World} {K : PySem.W.Frag} {mg : Str → Option Value} {base : Heap} (Z : Wd T g ex ca P K mg w) (sr : base.NoSeer) :
    ∀ (n : Nat), All3 T g ca P w K mg base n
  | 0 => ⟨fun x i h => by
    obtain ⟨f, fd, N, as, body, scope, d, h1, F, S, e1, e2, e3, e4, h2⟩ := Z.fns x i h
    refine ⟨f, fd, as.map (·.arg), h1, F.kp, F.bindsN fun kV doc pm an cdv ct us hl => bind_plain (by have q := S.nd; rw [← S.pre]; exact q.sublist (List.take_sublist _ _)) kV doc pm an cdv ct us hl, ⟨fun vs H Q E q => ?_, fun A outer s H args us vs Q E _ _ _ _ q => ?_⟩⟩
    · obtain ⟨ds, G, _, _, z⟩ := q; exact z.elim
    · obtain ⟨ds, G, _, _, z⟩ := q; exact z.elim, fun k m i h => by
    obtain ⟨f, fd, q0, N, as, body, scope, d, ss, h1, F, S, e1, e2, e3, e4, e0, h2⟩ := Z.mths k m i h
    refine ⟨f, fd, as.map (·.arg), h1, F.bindsN fun kV doc pm an cdv ct us hl => bind_plain (by have q := S.nd; rw [← S.pre]; exact q.sublist (List.take_sublist _ _)) kV doc pm an cdv ct us hl, ⟨fun vs H Q E q => ?_, fun A outer s H args us vs Q E _ _ _ _ q => ?_⟩⟩
    · obtain ⟨_, _, _, _, _, _, _, _, _, _, _, _, _, z⟩ := q; exact z.elim
    · obtain ⟨_, _, _, _, _, _, _, _, _, _, _, _, _, z⟩ := q; exact z.elim, fun x i h => by
    obtain ⟨f, fd, N, as, body, scope, d, ss, h1, F, S, e1, e2, e3, e4, e6, e0, h2⟩ := Z.lfs x i h
    refine ⟨f, fd, as.map (·.arg), h1, F.kp, F.bindsN fun kV doc pm an cdv ct us hl => bind_plain (by have q := S.nd; rw [← S.pre]; exact q.sublist (List.take_sublist _ _)) kV doc pm an cdv ct us hl, ⟨fun vs H Q E q => ?_, fun A outer s H args us vs Q E _ _ _ _ q => ?_⟩⟩
    · obtain ⟨_, _, _, _, _, _, _, _, _, _, _, _, z⟩ := q; exact z.elim
    · obtain ⟨_, _, _, _, _, _, _, _, _, _, _, _, z⟩ := q; exact z.elim⟩
  | n + 1 => by
    have ih := fn_all (w := w) Z sr n
    refine ⟨fun x i h => ?_, fun k m i h => ?_, fun x i h => ?_⟩
    · obtain ⟨f, fd, N, as, body, scope, d, h1, F, S, e1, e2, e3, e4, h2⟩ := Z.fns x i h
      exact ⟨f, fd, as.map (·.arg), h1, F.kp, F.bindsN fun kV doc pm an cdv ct us hl => bind_plain (by have q := S.nd; rw [← S.pre]; exact q.sublist (List.take_sublist _ _)) kV doc pm an cdv ct us hl, fn_one Z sr ih.f ih.m (ih.i Z) ih.l F S e1 e2 e3 e4 h2⟩
    · obtain ⟨f, fd, q0, N, as, body, scope, d, ss, h1, F, S, e1, e2, e3, e4, e0, h2⟩ := Z.mths k m i h
      exact ⟨f, fd, as.map (·.arg), h1, F.bindsN fun kV doc pm an cdv ct us hl => bind_plain (by have q := S.nd; rw [← S.pre]; exact q.sublist (List.take_sublist _ _)) kV doc pm an cdv ct us hl, mth_one Z sr ih.f ih.m (ih.i Z) ih.l F S e1 e2 e3 e4 e0 h2⟩
    · obtain ⟨f, fd, N, as, body, scope, d, ss, h1, F, S, e1, e2, e3, e4, e6, e0, h2⟩ := Z.lfs x i h
      exact ⟨f, fd, as.map (·.arg), h1, F.kp, F.bindsN fun kV doc pm an cdv ct us hl => bind_plain (by have q := S.nd; rw [← S.pre]; exact q.sublist (List.take_sublist _ _)) kV doc pm an cdv ct us hl, lst_one Z sr ih.f ih.m (ih.i Z) ih.l F S e1 e2 e3 e4 e6 e0 h2⟩
end Cw

set_option Elab.async false
set_option linter.all false
set_option maxRecDepth 100000
set_option maxHeartbeats 4000000
namespace Cw
open PySem PySem.Spec PyProof.Rows L2

/-! ### the end: the law's def is called with the script -/
section
variable {P : Program} {w : World} {K : PySem.W.Frag} {mg mb : Str → Option Value} {k : Nat} {fa a : Addr} {fd : FuncData} {x : Str} {sp : Sp} {s : Shared} {vs : List Value} {ns : List Int}
/-- what is tracked at first: the script, if it is no object of the text's own -/
def atFirst (K : PySem.W.Frag) (a : Addr) (o : Obj) (xs : List V) : Hp := fun b => if b = a then (match K.lookup a with | none => some (.frz o (.lst xs)) | some _ => none) else none
theorem atFirst_at {o : Obj} {xs : List V} {b : Addr} {u : HO} (e : atFirst K a o xs b = some u) : b = a ∧ K.lookup a = none ∧ u = .frz o (.lst xs) := by
  unfold atFirst at e
  by_cases z : b = a
  · rw [if_pos z] at e
    cases q : K.lookup a with
    | none => rw [q] at e; cases e; exact ⟨z, rfl, rfl⟩
    | some y => rw [q] at e; cases e
  · rw [if_neg z] at e; cases e
theorem law_run (KX : K.In s.heap) (h1 : s.heap.Ns mainGlobals mg) (h2 : s.heap.Ns builtinsNs mb) (h3 : ∀ z : Str, z ≠ "__name__" → mb z = bootBuiltins z) (h4 : s.heap.NoLimit) (h5 : s.heap.NoSeer) (h6 : s.gens = #[])
    (h7 : s.heap.get? a = some { cls := .type "list", data := .seq vs.toArray }) (h8 : IntsAre vs ns) (h9 : ns.length ≤ sizeLine) (hr : Room k callerA)
    (F : ∀ B : Heap, B.NoSeer → FnOk P w K mg B (L2N.CX P w) k fa fd [x] sp) (hb : ∀ (t : Shared) (u : Value), BindsTo t fd ⟨[u], []⟩ [(x, u)])
    (hsp : ∀ H : Hp, SqL K H a (ns.map V.int) → sp [.ref a] H (fun v _ => v = .bl true) fun _ _ _ => False) :
    codeAny (model P w) callerA (.call (.ref fa) ⟨[.ref a], []⟩) (fun r t => r = .ok (.ret (.bool true)) ∧ OldK s.heap t.heap ∧ t.os = s.os ∧ AllBare t.gens) s := by
  generalize ho : ({ cls := .type "list", data := .seq vs.toArray } : Obj) = o at h7
  generalize hH : atFirst K a o (ns.map V.int) = H
  have lenV := h8.length
  have inH : ∀ {b : Addr} {u : HO}, H b = some u → b = a ∧ K.lookup a = none ∧ u = .frz o (.lst (ns.map V.int)) := fun {b u} e => by
    rw [← hH] at e; exact atFirst_at e
  have lo : ∀ {P2 : Program} {w2 : World}, ObjOk P2 w2 H s.heap a (.lst (ns.map V.int)) := by
    intro P2 w2
    refine ⟨by rw [List.length_map]; exact h9, vs, 0, vals_ints h8, ?_⟩
    rw [h7, ← ho]
  have ok : HOk P w H s.heap := fun b u e => by
    obtain ⟨z, _, z2⟩ := inH e
    subst z z2
    exact ⟨h7, lo⟩
  have far : ∀ {b : Addr} {q : Obj}, s.heap.get? b = some q → (∀ i n, q.data ≠ .seq i n) → H b = none := fun {b q} e nq => by
    cases c : H b with
    | none => rfl
    | some u =>
      obtain ⟨z, _, _⟩ := inH c
      subst z
      rw [h7] at e
      cases e
      rw [← ho] at nq
      exact (nq _ _ rfl).elim
  have nsB : ∀ {b : Addr} {m : Str → Option Value}, s.heap.Ns b m → (hidT s.heap H).Ns b m := fun {b m} q => by
    obtain ⟨d, es, ep, e, dd, rest⟩ := q
    exact ⟨d, es, ep, hidT_get e (far e fun i n z => by rw [dd] at z; cases z), dd, rest⟩
  have inB : K.In (hidT s.heap H) := fun b q e => hidT_get (KX b q e) (by
    cases c : H b with
    | none => rfl
    | some u =>
      obtain ⟨z, z1, _⟩ := inH c
      subst z
      rw [z1] at e; cases e)
  have sr : (hidT s.heap H).NoSeer := by
    obtain ⟨⟨m1, a1, a2⟩, ⟨m2, b1, b2⟩, ⟨m3, c1, c2⟩, ⟨m4, bm, ob, d1, d2, d3, d4, d5⟩⟩ := h5
    refine ⟨⟨m1, nsB a1, a2⟩, ⟨m2, nsB b1, b2⟩, ⟨m3, nsB c1, c2⟩, ⟨m4, bm, ob, nsB d1, d2, ?_, d4, d5⟩⟩
    refine hidT_get d3 ?_
    cases c : H bm with
    | none => rfl
    | some u =>
      obtain ⟨z, _, _⟩ := inH c
      subst z
      rw [h7, ← ho] at d3
      cases d3
      simp at d4
  have lim : (hidT s.heap H).NoLimit := by
    obtain ⟨m1, a1, a2⟩ := h4
    exact ⟨m1, nsB a1, a2⟩
  have E0 : Env0 P w K mg (hidT s.heap H) callerA [] s H := ⟨rfl, ⟨inB, nsB h1, ⟨mb, nsB h2, h3⟩, lim⟩, fun b q e => of_hidT e, Nat.le_of_eq (hidT_size _ _), trivial, (fun b z => absurd (show b ∈ ([] : List Addr) from z) (by simp)), ok, .of_eq h6⟩
  have sq : SqL K H a (ns.map V.int) := by
    cases c : K.lookup a with
    | none => exact .inl (.inr ⟨o, by rw [← hH]; unfold atFirst; rw [if_pos rfl, c]⟩)
    | some q =>
      have e := KX a q c
      rw [h7] at e
      cases e
      rw [← ho] at c
      exact .inr ⟨_, vs.toArray, _, c, rfl, rfl, rfl, by rw [List.size_toArray, lenV]; exact h9, by simpa using vals_ints h8⟩
  refine codeAny_mono ((F _ sr).run callerA [] s H ⟨[.ref a], []⟩ [.ref a] [.ref a] _ _ hr E0 (hb s (.ref a)) (.cons rfl .nil) (hsp H sq)) fun r t q => ?_
  cases r with
  | error e =>
    obtain ⟨_, _, _, _, _, _, _, _, _, _, _, _, z⟩ := (show L2N.CX P w [] H s (fun _ _ _ => False) e t from q)
    exact z.elim
  | ok fl =>
    cases fl with
    | ret u =>
      obtain ⟨v, H', os, bare, un, ok', rr, z⟩ := q
      have z2 : v = .bl true := z
      subst z2
      have z3 : u = Value.bool true := rr
      subst z3
      refine ⟨rfl, OldK.of_keep fun b q e => ?_, os, bare⟩
      cases c : H b with
      | none => exact un.keep b q e c (fun y => absurd (show b ∈ ([] : List Addr) from y) (by simp)) (by simp)
      | some u =>
        obtain ⟨y, _, y2⟩ := inH c
        subst y y2
        have y3 := un.frzs b o _ c
        have y4 := (ok' b _ y3).1
        rw [h7] at e
        cases e
        exact y4
    | _ => exact q.elim
end

/-- over a head by facts -/
theorem walk_fin {l : PySem.W.OpenLaw} {n k : Nat} {q : Program} {loose : List Str} {XP : (Str → Option Value) → Heap → Prop} {YP : World → Heap → Prop} {d : DefRec} {x : Str}
    (hn : l.most = some n) (hn2 : n ≤ sizeLine) (hdf : d.params.defaults = []) (hr : Room k callerA) (him : importsNone q = true)
    (F : ∀ (w : World) (mg : Str → Option Value) (f : Addr) (h : Heap), YP w h → h.Ns mainGlobals mg → mg d.name = some (.ref f) →
      ∃ (K : PySem.W.Frag) (fd : FuncData) (sp : Sp), K.In h ∧ (∀ (s : Shared) (u : Value), BindsTo s fd ⟨[u], []⟩ [(x, u)]) ∧
        (∀ (H : Hp) (a : Addr) (ns : List Int), ns.length ≤ n → SqL K H a (ns.map V.int) → sp [.ref a] H (fun v _ => v = .bl true) fun _ _ _ => False) ∧
        ∀ B : Heap, B.NoSeer → FnOk l.prog w K mg B (L2N.CX l.prog w) k f fd [x] sp) :
    PySem.W.WalkO q loose XP YP l.row.toRowW d [] (fun f us => PySem.call f us) :=
  Att.attach_call hn hdf fun w s0 s mg mb f o pm cd doc a us ns G Y ho hd hcd hmg hobj hints hlen hg => by
    obtain ⟨K, fd, sp, KX, hb, hsp, hF⟩ := F w mg f _ Y G.T.g hmg
    exact law_run KX G.T.g G.T.b G.T.builtins G.T.nolimit (G.T.seer him) hg hobj hints (Nat.le_trans hlen hn2) hr hF hb fun H sq => hsp H a ns hlen sq

/-! ### the facts of a text, by a look at what the top has left -/
/-- one def: its name, its number, its slots -/
structure Ent where
  name : Str
  num : Nat
  N : List Str
  st : Stmt
  ln : Bool := false
def Ent.defd (e : Ent) : He.DefD := ⟨(e.name, none), e.name, e.name, defArgs e.st, defBody e.st, defScope e.st, [], []⟩
def scopeB (N ps : List Str) (sc : Scope) : Bool :=
  (match sc.kind with | .function => true | _ => false) && !sc.isCoroutine && !sc.isGenerator && decide N.Nodup && decide (N.take ps.length = ps) && (ps.all fun y => decide (sc.names.lookup y = some .local) || decide (sc.names.lookup y = some .cell)) && (sc.names.all fun y => !decide (y.2 = .free))
theorem scopeB_ok {N ps : List Str} {sc : Scope} (h : scopeB N ps sc = true) : FnScope N ps sc := by
  unfold scopeB at h
  simp only [Bool.and_eq_true, decide_eq_true_eq, Bool.not_eq_true', List.all_eq_true, Bool.or_eq_true, decide_eq_false_iff_not] at h
  obtain ⟨⟨⟨⟨⟨⟨h1, h2⟩, h3⟩, h4⟩, h5⟩, h6⟩, h7⟩ := h
  refine ⟨?_, h2, h3, h4, h5, h6, h7⟩
  split at h1
  · assumption
  · cases h1
def plainArgs : Arguments → Option (List Arg)
  | ⟨[], as, none, [], [], none, []⟩ => some as
  | _ => none
def Ent.look (T : Nat → Option Def) (g : Gm) (ex : List Str) (e : Ent) : Bool := match plainArgs (defArgs e.st), T e.num with
  | some as, some d => scopeB e.N (as.map (·.arg)) (defScope e.st) && decide (d.ps = as.length) && decide (d.sl = e.N.length) && decide (as.length ≤ e.N.length) && (if e.ln = true then decide (as.length = 2) && (match d.body with
    | .cons (.selfL k) ss => decide (k = 1) && chkSs g ex ss ⟨e.N, defScope e.st, fun _ => true, true, true⟩ (defBody e.st)
    | _ => false) else chkSs g ex d.body ⟨e.N, defScope e.st, fun _ => true, true, false⟩ (defBody e.st))
  | _, _ => false
theorem Ent.fact {T : Nat → Option Def} {g : Gm} {ex : List Str} {e : Ent} {K : PySem.W.Frag} {mg : Str → Option Value} {f : Addr} {fd : FuncData} (h : e.look T g ex = true) (hln : e.ln = false) (hm : mg e.name = some (.ref f)) (F : FunD K e.name e.name (defArgs e.st) (defBody e.st) (defScope e.st) [] [] f fd) :
    ∃ f fd N as body scope d, mg e.name = some (.ref f) ∧ FunD K e.name e.name ⟨[], as, none, [], [], none, []⟩ body scope [] [] f fd ∧ FnScope N (as.map (·.arg)) scope ∧ T e.num = some d ∧ d.ps = as.length ∧ d.sl = N.length ∧ as.length ≤ N.length ∧ chkSs g ex d.body ⟨N, scope, fun _ => true, true, false⟩ body = true := by
  unfold Ent.look at h
  cases q : plainArgs (defArgs e.st) with
  | none => rw [q] at h; cases h
  | some as =>
    rw [q] at h
    cases q2 : T e.num with
    | none => rw [q2] at h; cases h
    | some d =>
      rw [q2] at h
      simp only [Bool.and_eq_true, decide_eq_true_eq] at h
      obtain ⟨⟨⟨⟨h1, h2⟩, h3⟩, h4⟩, h5⟩ := h
      rw [hln, if_neg Bool.false_ne_true] at h5
      have ea : defArgs e.st = ⟨[], as, none, [], [], none, []⟩ := by
        unfold plainArgs at q
        split at q
        · rename_i heq; cases q; exact heq
        · cases q
      rw [ea] at F
      exact ⟨f, fd, e.N, as, _, _, d, hm, F, scopeB_ok h1, rfl, h2, h3, h4, h5⟩

theorem Ent.factL {T : Nat → Option Def} {g : Gm} {ex : List Str} {e : Ent} {K : PySem.W.Frag} {mg : Str → Option Value} {f : Addr} {fd : FuncData} (h : e.look T g ex = true) (hln : e.ln = true) (hm : mg e.name = some (.ref f)) (F : FunD K e.name e.name (defArgs e.st) (defBody e.st) (defScope e.st) [] [] f fd) :
    ∃ f fd N as body scope d ss, mg e.name = some (.ref f) ∧ FunD K e.name e.name ⟨[], as, none, [], [], none, []⟩ body scope [] [] f fd ∧ FnScope N (as.map (·.arg)) scope ∧ T e.num = some d ∧ d.ps = as.length ∧ d.sl = N.length ∧ as.length ≤ N.length ∧ as.length = 2 ∧ d.body = .cons (.selfL 1) ss ∧ chkSs g ex ss ⟨N, scope, fun _ => true, true, true⟩ body = true := by
  unfold Ent.look at h
  cases q : plainArgs (defArgs e.st) with
  | none => rw [q] at h; cases h
  | some as =>
    rw [q] at h
    cases q2 : T e.num with
    | none => rw [q2] at h; cases h
    | some d =>
      rw [q2] at h
      simp only [Bool.and_eq_true, decide_eq_true_eq] at h
      obtain ⟨⟨⟨⟨h1, h2⟩, h3⟩, h4⟩, h5⟩ := h
      rw [hln, if_pos rfl, Bool.and_eq_true, decide_eq_true_eq] at h5
      obtain ⟨h6, h5⟩ := h5
      have ea : defArgs e.st = ⟨[], as, none, [], [], none, []⟩ := by
        unfold plainArgs at q
        split at q
        · rename_i heq; cases q; exact heq
        · cases q
      rw [ea] at F
      split at h5
      · rename_i k ss eb
        rw [Bool.and_eq_true, decide_eq_true_eq] at h5
        obtain ⟨h5, h7⟩ := h5
        subst h5
        exact ⟨f, fd, e.N, as, _, _, d, ss, hm, F, scopeB_ok h1, rfl, h2, h3, h4, h6, eb, h7⟩
      · cases h5

/-- the datum a module's constant holds, looked up in K: flat items, tuples of such, and so on -/
def relD (K : PySem.W.Frag) : Nat → Value → D → Bool
  | 0, u, d => (match u, d with
    | .none, .none => true
    | .bool b, .bool c => decide (b = c)
    | .int b _, .int c => decide (b = c)
    | .str b _, .str c => decide (b = c)
    | _, _ => false)
  | k + 1, u, d => (match u, d with
    | .ref a, .tuple ds => (match K.lookup a with
      | some ⟨.type c, _, .seq its _, _⟩ => decide (c = "tuple") && decide (its.size ≤ sizeLine) && decide (its.size = ds.length) && (its.toList.zip ds).all fun p => relD K k p.1 p.2
      | _ => false)
    | u, d => relD K k u d)
theorem relD_ok {K : PySem.W.Frag} : ∀ {n : Nat} {u : Value} {d : D}, relD K n u d = true → ∃ v, RelV v u ∧ ∀ H, Dp K H v d
  | 0, u, d, h => by
    unfold relD at h
    split at h
    · exact ⟨.non, rfl, fun _ => .non⟩
    · rename_i b c; have e : b = c := of_decide_eq_true h; subst e; exact ⟨.bl b, rfl, fun _ => .bl _⟩
    · rename_i b t c; have e : b = c := of_decide_eq_true h; subst e; exact ⟨.int b, ⟨_, rfl⟩, fun _ => .int _⟩
    · rename_i b t c; have e : b = c := of_decide_eq_true h; subst e; exact ⟨.str b, ⟨_, rfl⟩, fun _ => .str _⟩
    · cases h
  | k + 1, u, d, h => by
    unfold relD at h
    split at h
    · split at h
      · rename_i a ds _ c dd its nn sl q
        simp only [Bool.and_eq_true, decide_eq_true_eq] at h
        obtain ⟨⟨⟨h1, h2⟩, h3⟩, h4⟩ := h
        subst h1
        have key : ∀ (us : List Value) (es : List D), us.length = es.length → ((us.zip es).all fun p => relD K k p.1 p.2) = true → ∃ vs, Vals vs us ∧ ∀ H, DpAll K H vs es := by
          intro us
          induction us with
          | nil => intro es hl _; cases es with
            | nil => exact ⟨[], .nil, fun _ => .nil⟩
            | cons _ _ => cases hl
          | cons u us ih => intro es hl ha; cases es with
            | nil => cases hl
            | cons e es =>
              rw [List.zip_cons_cons, List.all_cons, Bool.and_eq_true] at ha
              obtain ⟨v, v1, v2⟩ := relD_ok ha.1
              obtain ⟨vs, w1, w2⟩ := ih es (by simpa using hl) ha.2
              exact ⟨v :: vs, .cons v1 w1, fun H => .cons (v2 H) (w2 H)⟩
        obtain ⟨vs, w1, w2⟩ := key its.toList ds (by simpa using h3) h4
        exact ⟨.ref a, rfl, fun H => .tup (.inr ⟨_, its, nn, q, rfl, rfl, h2, w1⟩) (w2 H)⟩
      · cases h
    · exact relD_ok h
def conB (K : PySem.W.Frag) (x : Str) (d : D) : Bool := match PySem.W.nsIn K mainGlobals x with
  | some (some u) => relD K 3 u d
  | _ => false
theorem conB_ok {K : PySem.W.Frag} {h : Heap} {mg : Str → Option Value} {x : Str} {d : D} (X : K.In h) (G : h.Ns mainGlobals mg) (c : conB K x d = true) : ∃ u v, mg x = some u ∧ RelV v u ∧ ∀ H, Dp K H v d := by
  unfold conB at c
  cases q : PySem.W.nsIn K mainGlobals x with
  | none => rw [q] at c; cases c
  | some z =>
    rw [q] at c
    cases z with
    | none => cases c
    | some u =>
      obtain ⟨v, v1, v2⟩ := relD_ok c
      exact ⟨u, v, PySem.W.mg_of X G q, v1, v2⟩

/-! ### a whole law -/
/-- what an own class of exceptions must say, so that isinstance asks its instances rightly -/
def excB (K : PySem.W.Frag) (D : Addr) : Bool :=
  He.eqO (PySem.W.findIn K (.ref D) "__getattribute__") (some (some (.builtin "BaseException.__getattribute__"))) && He.eqO (PySem.W.findIn K (.ref D) "__getattr__") (some none) && decide (PySem.W.subIn K (.ref D) (.type "BaseException") = some true) && PySem.W.hasDictIn K D &&
  He.eqO (PySem.W.findIn K (.ref D) "__class__") (some (some (.builtin "object.__class__"))) && He.eqO (PySem.W.specialIn K (.builtin "object.__class__") "__get__") (some (some (.builtin "getset_descriptor.__get__"))) && decide (PySem.W.takesIn K (.builtin "object.__class__") = some true) && decide (PySem.W.mroIn K D (.type "object") = some true)
theorem excB_ok {K : PySem.W.Frag} {D : Addr} (h : excB K D = true) : ExcC K D := by
  unfold excB at h
  simp only [Bool.and_eq_true, decide_eq_true_eq] at h
  obtain ⟨⟨⟨⟨⟨⟨⟨h1, h2⟩, h3⟩, h4⟩, h5⟩, h6⟩, h7⟩, h8⟩ := h
  exact ⟨He.eqO_ok h1, He.eqO_ok h2, h3, h4, He.eqO_ok h5, He.eqO_ok h6, h7, h8⟩
/-- one method: its class, its name, its number, its slots -/
structure Mth where
  k : Nat
  name : Str
  qual : Str
  num : Nat
  N : List Str
  st : Stmt
def Mth.defd (m : Mth) : He.DefD := ⟨(clsN m.k, some m.name), m.name, m.qual, defArgs m.st, defBody m.st, defScope m.st, [], []⟩
def Mth.look (T : Nat → Option Def) (g : Gm) (ex : List Str) (m : Mth) : Bool := match plainArgs (defArgs m.st), T m.num with
  | some as, some d => scopeB m.N (as.map (·.arg)) (defScope m.st) && decide (d.ps = as.length) && decide (d.sl = m.N.length) && decide (as.length ≤ m.N.length) && (match d.body with
    | .cons (.self k) ss => decide (k = m.k) && chkSsM g ex ss ⟨m.N, defScope m.st, fun _ => true, true, true⟩ (defBody m.st)
    | _ => false)
  | _, _ => false
theorem Mth.fact {T : Nat → Option Def} {g : Gm} {ex : List Str} {m : Mth} {K : PySem.W.Frag} {f : Addr} {fd : FuncData} (h : m.look T g ex = true) (hm : Meth K (clsA K m.k) m.name f) (F : FunD K m.name m.qual (defArgs m.st) (defBody m.st) (defScope m.st) [] [] f fd) :
    ∃ f fd q N as body scope d ss, Meth K (clsA K m.k) m.name f ∧ FunD K m.name q ⟨[], as, none, [], [], none, []⟩ body scope [] [] f fd ∧ FnScope N (as.map (·.arg)) scope ∧ T m.num = some d ∧ d.ps = as.length ∧ d.sl = N.length ∧ as.length ≤ N.length ∧ d.body = .cons (.self m.k) ss ∧ chkSsM g ex ss ⟨N, scope, fun _ => true, true, true⟩ body = true := by
  unfold Mth.look at h
  cases q : plainArgs (defArgs m.st) with
  | none => rw [q] at h; cases h
  | some as =>
    rw [q] at h
    cases q2 : T m.num with
    | none => rw [q2] at h; cases h
    | some d =>
      rw [q2] at h
      simp only [Bool.and_eq_true, decide_eq_true_eq] at h
      obtain ⟨⟨⟨⟨h1, h2⟩, h3⟩, h4⟩, h5⟩ := h
      have ea : defArgs m.st = ⟨[], as, none, [], [], none, []⟩ := by
        unfold plainArgs at q
        split at q
        · rename_i heq; cases q; exact heq
        · cases q
      rw [ea] at F
      split at h5
      · rename_i k ss eb
        rw [Bool.and_eq_true, decide_eq_true_eq] at h5
        obtain ⟨h5, h6⟩ := h5
        subst h5
        exact ⟨f, fd, m.qual, m.N, as, _, _, d, ss, hm, F, scopeB_ok h1, rfl, h2, h3, h4, eb, h6⟩
      · cases h5
structure Txt where
  ents : List Ent
  cons : List (Str × Nat)
  ex : List Str
  wrds : List Ent
  dcts : List (Str × Nat) := []
  clss : List Nat := []
  mths : List Mth := []
  dvs : List (Str × Nat) := []
def Txt.gm (t : Txt) : Gm := ⟨(t.ents.filter fun e => !e.ln).map fun e => (e.name, e.num), t.cons, t.wrds.map fun e => (e.name, e.num), t.dcts, t.clss, t.mths.map fun m => (m.k, m.name, m.num), (t.mths.filter fun m => decide (m.name = ("__init__" : Str)) && t.clss.contains m.k).map fun m => (m.k, m.num), (t.ents.filter fun e => e.ln).map fun e => (e.name, e.num), t.dvs⟩
def dctK : Nat → List Str
  | 0 => ["sum", "less", "times", "over"]
  | _ => []
def Txt.ts (t : Txt) : List He.Tab := (t.dcts.map fun p => (fun K => He.ga K p.1, dctK p.2)) ++ t.dvs.map fun p => (fun K => He.ga K p.1, (dctV p.2).map (·.1))
def strKV : Value → Option Str
  | .str z _ => some z
  | _ => none
def dvB (K : PySem.W.Frag) (p : Str × Nat) : Bool := (He.Fa.glo p.1).ok K && (match K.lookup (He.ga K p.1) with
  | some ⟨_, _, .dict es _, _⟩ => decide (es.toList.map (fun e => (strKV e.key, strKV e.val)) = (dctV p.2).map fun q => (some q.1, some q.2))
  | _ => false)
def dctB (K : PySem.W.Frag) (p : Str × Nat) : Bool := (He.Fa.glo p.1).ok K && (dctT p.2).all fun q => (match PySem.W.nsIn K (He.ga K p.1) q.1 with
  | some r => decide (r.isSome = q.2)
  | none => false)
theorem dv_find {z : Str} : ∀ {l : List DictEntry} {t : List (Str × Str)}, l.map (fun e => (strKV e.key, strKV e.val)) = t.map (fun q => (some q.1, some q.2)) →
    ∃ r, (match l.find? (·.key.isStr z) with
      | some e => some (some e.val)
      | none => if l.any (·.refKey) then none else some none) = some r ∧ r.isSome = (t.lookup z).isSome ∧ ∀ s, t.lookup z = some s → ∃ tk, r = some (.str s tk)
  | [], [], _ => ⟨none, rfl, rfl, fun s h => by cases h⟩
  | [], _ :: _, h => by cases h
  | _ :: _, [], h => by cases h
  | e :: l, q :: t, h => by
    rw [List.map_cons, List.map_cons, List.cons.injEq, Prod.mk.injEq] at h
    obtain ⟨⟨h1, h2⟩, h3⟩ := h
    obtain ⟨r, r1, r2, r3⟩ := dv_find (z := z) h3
    have hk : ∃ tk, e.key = .str q.1 tk := by
      unfold strKV at h1
      split at h1
      · rename_i a b he; cases h1; exact ⟨_, he⟩
      · cases h1
    have hv : ∃ tk, e.val = .str q.2 tk := by
      unfold strKV at h2
      split at h2
      · rename_i a b he; cases h2; exact ⟨_, he⟩
      · cases h2
    obtain ⟨tk, hk⟩ := hk
    obtain ⟨tv, hv⟩ := hv
    have hr : e.refKey = false := by
      unfold DictEntry.refKey
      rw [hk]
    by_cases hz : q.1 = z
    · have e1 : e.key.isStr z = true := by rw [hk, hz]; simp [Value.isStr]
      refine ⟨some e.val, ?_, ?_, fun s hs => ?_⟩
      · rw [List.find?_cons, e1]
      · have : (z == q.1) = true := by rw [hz]; simp
        rw [List.lookup_cons, this]; rfl
      · have : (z == q.1) = true := by rw [hz]; simp
        rw [List.lookup_cons, this] at hs
        cases hs
        exact ⟨tv, by rw [hv]⟩
    · have e1 : e.key.isStr z = false := by rw [hk]; simp [Value.isStr]; first | exact hz | exact fun w => hz w
      have e2 : (z == q.1) = false := by
        rw [beq_eq_false_iff_ne]; exact fun w => hz w.symm
      refine ⟨r, ?_, ?_, fun s hs => ?_⟩
      · rw [List.find?_cons, e1, List.any_cons, hr, Bool.false_or]
        exact r1
      · rw [List.lookup_cons, e2]; exact r2
      · rw [List.lookup_cons, e2] at hs
        exact r3 s hs
def closeE : Str := "CloseError"
/-- the look at the defs that tell words -/
def Ent.lookW (ex : List Str) (e : Ent) : Bool := match plainArgs (defArgs e.st) with
  | some as => decide (as.map (·.arg) = (["e"] : List Str)) && scopeB (["e", "flags"] : List Str) (["e"] : List Str) (defScope e.st) && wordB (defScope e.st) (wtab e.num) (wtab e.num) (defBody e.st) && (wtab e.num).all fun c => ex.contains c
  | none => false
def Txt.faW (t : Txt) : List He.Fa := (t.wrds.map fun e => .glo e.name) ++ (if t.wrds.isEmpty then [] else (.free "ValueError") :: ((closeE :: t.ex).map fun c => .exm c closeE true))
def Txt.faC (t : Txt) : List He.Fa := (t.clss.flatMap fun k => [He.Fa.glo (clsN k), .cls (clsN k), .mkr (clsN k)] ++ (clsF k).map fun f => .noat (clsN k) f) ++ t.mths.map fun m => .meth (clsN m.k) m.name
def Txt.fa (t : Txt) : List He.Fa := t.faW ++ (((t.ents.map fun e => .glo e.name) ++ (blts.map fun x => .free x) ++ ((closeE :: t.ex).map fun x => .glo x) ++ (t.ex.map fun x => .exc x) ++ (t.ex.flatMap fun c => (closeE :: t.ex).map fun c2 => .exm c2 c (isSub c2 c))) ++ t.faC)
def Txt.fn (t : Txt) : List He.DefD := (t.wrds.map Ent.defd ++ t.ents.map Ent.defd) ++ t.mths.map Mth.defd
def Txt.xbW (t : Txt) (K : PySem.W.Frag) : Bool := t.wrds.all fun e => (closeE :: t.ex).all fun c => excB K (He.ga K c) && decide (PySem.W.kitOne K (.ref (He.ga K c)) (.type "ValueError") = some true) && (wtab e.num).all fun j => decide (PySem.W.kitOne K (.ref (He.ga K c)) (.ref (He.ga K j)) = some (isSub c j))
def Txt.xb (t : Txt) (K : PySem.W.Frag) : Bool := (t.cons.all fun p => conB K p.1 (cst p.2)) && (t.xbW K && ((t.dcts.all fun p => dctB K p) && t.dvs.all fun p => dvB K p))
def Txt.ca (t : Txt) (K : PySem.W.Frag) : Str → Value := fun c => .ref (He.ga K (if t.ex.contains c then c else closeE))
def Txt.lawArg (t : Txt) (x : Str) : Bool := t.ents.all fun e => !decide (e.name = "law") || (match plainArgs (defArgs e.st) with | some [pa] => decide (pa.arg = x) | _ => false)
theorem lawArg_ok {t : Txt} {x : Str} (h : t.lawArg x = true) {e : Ent} (he : e ∈ t.ents) (hn : e.name = "law") : ∃ pa, plainArgs (defArgs e.st) = some [pa] ∧ pa.arg = x := by
  have z := List.all_eq_true.mp h e he
  rw [decide_eq_true hn, Bool.not_true, Bool.false_or] at z
  split at z
  · rename_i pa q
    exact ⟨pa, q, of_decide_eq_true z⟩
  · cases z
theorem isSub_other {c d : Str} (h : c ≠ d) (h2 : closeE ≠ d) : isSub c d = isSub closeE d := by
  unfold isSub
  rw [decide_eq_false h, decide_eq_false h2]
theorem txt_wd {t : Txt} {T : Nat → Option Def} {P : Program} {K : PySem.W.Frag} {h : Heap} {mg : Str → Option Value} {w : World} (X : K.In h) (G : h.Ns mainGlobals mg) (tree : P.given.tree = none) (lk : (t.ents.all fun e => e.look T t.gm t.ex) = true) (lkW : (t.wrds.all fun e => e.lookW t.ex) = true) (lkM : (t.mths.all fun m => m.look T t.gm t.ex) = true) (ct : He.SaysT t.fa t.fn t.ts w K) (xb : t.xb K = true) (ne : closeE ∉ t.ex) : Wd T t.gm t.ex (t.ca K) P K mg w := by
  have c : He.SaysD t.fa t.fn K := ct.d
  have factA : ∀ f ∈ t.fa, f.ok K = true := fun f hf => c.facts hf
  have fact : ∀ f ∈ (t.ents.map fun e => He.Fa.glo e.name) ++ (blts.map fun x => .free x) ++ ((closeE :: t.ex).map fun x => .glo x) ++ (t.ex.map fun x => .exc x) ++ (t.ex.flatMap fun c => (closeE :: t.ex).map fun c2 => .exm c2 c (isSub c2 c)), f.ok K = true := fun f hf => factA f (List.mem_append_right _ (List.mem_append_left _ hf))
  unfold Txt.xb at xb
  rw [Bool.and_eq_true] at xb
  obtain ⟨xb, xw⟩ := xb
  rw [Bool.and_eq_true] at xw
  obtain ⟨xw, xd⟩ := xw
  rw [Bool.and_eq_true] at xd
  obtain ⟨xd, xv⟩ := xd
  have caW : ∀ c1, ∃ c3 ∈ closeE :: t.ex, t.ca K c1 = .ref (He.ga K c3) ∧ ((c1 ∈ t.ex ∧ c3 = c1) ∨ (c1 ∉ t.ex ∧ c3 = closeE)) := fun c1 => by
    by_cases h2 : c1 ∈ t.ex
    · exact ⟨c1, List.mem_cons_of_mem _ h2, by unfold Txt.ca; rw [List.contains_iff_mem.mpr h2, if_pos rfl], .inl ⟨h2, rfl⟩⟩
    · refine ⟨closeE, List.mem_cons_self, ?_, .inr ⟨h2, rfl⟩⟩
      unfold Txt.ca
      have z : t.ex.contains c1 = false := by
        cases q : t.ex.contains c1 with
        | false => rfl
        | true => exact (h2 (List.contains_iff_mem.mp q)).elim
      rw [z, if_neg Bool.false_ne_true]
  refine ⟨tree, fun x hx => ?_, fun x j hx => ?_, fun c2 c1 hc => ?_, fun c1 hc => ?_, fun x i hx => ?_, fun x k hx => ?_, fun hw => ?_, fun x k hx c1 => ?_, fun k hk => ?_, fun k m i hx => ?_, fun k i hx => ?_, fun x i hx => ?_, fun x j hx => ?_, fun x j hx => ?_⟩
  · refine He.free_ok X G (fact _ ?_)
    simp only [List.mem_append, List.mem_map]
    exact .inl (.inl (.inl (.inr ⟨x, hx, rfl⟩)))
  · exact conB_ok X G (List.all_eq_true.mp xb (x, j) hx)
  · have key : ∀ c3 ∈ closeE :: t.ex, PySem.W.exmOne K (.ref (He.ga K c3)) (.ref (He.ga K c1)) = some (isSub c3 c1) := fun c3 h3 => by
      refine He.exm_ok (fact _ ?_)
      simp only [List.mem_append, List.mem_flatMap, List.mem_map]
      exact .inr ⟨c1, hc, c3, h3, rfl⟩
    have e1 : t.ca K c1 = .ref (He.ga K c1) := by unfold Txt.ca; rw [List.contains_iff_mem.mpr hc, if_pos rfl]
    rw [e1]
    by_cases h2 : c2 ∈ t.ex
    · have e2 : t.ca K c2 = .ref (He.ga K c2) := by unfold Txt.ca; rw [List.contains_iff_mem.mpr h2, if_pos rfl]
      rw [e2]
      exact key c2 (List.mem_cons_of_mem _ h2)
    · have e2 : t.ca K c2 = .ref (He.ga K closeE) := by
        unfold Txt.ca
        have z : t.ex.contains c2 = false := by
          cases q : t.ex.contains c2 with
          | false => rfl
          | true => exact (h2 (List.contains_iff_mem.mp q)).elim
        rw [z, if_neg Bool.false_ne_true]
      rw [e2, isSub_other (fun z => h2 (by rw [z]; exact hc)) (fun z => ne (by rw [z]; exact hc))]
      exact key closeE List.mem_cons_self
  · have e1 : t.ca K c1 = .ref (He.ga K c1) := by unfold Txt.ca; rw [List.contains_iff_mem.mpr hc, if_pos rfl]
    have f1 : (He.Fa.glo c1).ok K = true := fact _ (by
      simp only [List.mem_append, List.mem_map]
      exact .inl (.inl (.inr ⟨c1, List.mem_cons_of_mem _ hc, rfl⟩)))
    have f2 : (He.Fa.exc c1).ok K = true := fact _ (by
      simp only [List.mem_append, List.mem_map]
      exact .inl (.inr ⟨c1, hc, rfl⟩))
    obtain ⟨a1, a2, a3, a4⟩ := He.exc_ok f2
    exact ⟨_, e1, He.glo_ok X G f1, a1, a2, a3, a4⟩
  · obtain ⟨e, he, q⟩ := List.mem_map.mp hx
    obtain ⟨he, hln⟩ := List.mem_filter.mp he
    rw [Bool.not_eq_true'] at hln
    cases q
    have f1 : (He.Fa.glo e.name).ok K = true := fact _ (by
      simp only [List.mem_append, List.mem_map]
      exact .inl (.inl (.inl (.inl ⟨e, he, rfl⟩))))
    obtain ⟨fd, F⟩ := c.defs (d := e.defd) (List.mem_append_left _ (List.mem_append_right _ (List.mem_map.mpr ⟨e, he, rfl⟩)))
    exact Ent.fact (List.all_eq_true.mp lk e he) hln (He.glo_ok X G f1) F
  · obtain ⟨e, he, q⟩ := List.mem_map.mp hx
    cases q
    have f1 : (He.Fa.glo e.name).ok K = true := factA _ (List.mem_append_left _ (List.mem_append_left _ (List.mem_map.mpr ⟨e, he, rfl⟩)))
    obtain ⟨fd, F⟩ := c.defs (d := e.defd) (List.mem_append_left _ (List.mem_append_left _ (List.mem_map.mpr ⟨e, he, rfl⟩)))
    have z := List.all_eq_true.mp lkW e he
    unfold Ent.lookW at z
    cases q : plainArgs (defArgs e.st) with
    | none => rw [q] at z; cases z
    | some as =>
      rw [q] at z
      simp only [Bool.and_eq_true, decide_eq_true_eq] at z
      obtain ⟨⟨⟨z1, z2⟩, z3⟩, z4⟩ := z
      have ea : defArgs e.st = ⟨[], as, none, [], [], none, []⟩ := by
        unfold plainArgs at q
        split at q
        · rename_i heq; cases q; exact heq
        · cases q
      have F2 : FunD K e.name e.name ⟨[], as, none, [], [], none, []⟩ (defBody e.st) (defScope e.st) [] [] (He.fAd K (e.name, none)) fd := by
        rw [← ea]; exact F
      exact ⟨_, fd, as, _, _, He.glo_ok X G f1, F2, z1, scopeB_ok z2, z3⟩
  · have hne : t.wrds.isEmpty = false := by
      cases q : t.wrds with
      | nil => exact (hw (by show t.wrds.map _ = []; rw [q]; rfl)).elim
      | cons _ _ => rfl
    have inW : ∀ f ∈ (He.Fa.free "ValueError") :: ((closeE :: t.ex).map fun c => He.Fa.exm c closeE true), f.ok K = true := fun f hf => factA f (List.mem_append_left _ (by
      unfold Txt.faW
      rw [hne]
      exact List.mem_append_right _ hf))
    refine ⟨He.free_ok X G (inW _ List.mem_cons_self), He.ga K closeE, ?_, fun c1 => ?_⟩
    · exact He.glo_ok X G (fact _ (by
        simp only [List.mem_append, List.mem_map]
        exact .inl (.inl (.inr ⟨closeE, List.mem_cons_self, rfl⟩))))
    · obtain ⟨c3, h3, e3, _⟩ := caW c1
      rw [e3]
      exact He.exm_ok (inW _ (List.mem_cons_of_mem _ (List.mem_map.mpr ⟨c3, h3, rfl⟩)))
  · obtain ⟨e, he, q⟩ := List.mem_map.mp hx
    cases q
    have z := List.all_eq_true.mp lkW e he
    unfold Ent.lookW at z
    cases q : plainArgs (defArgs e.st) with
    | none => rw [q] at z; cases z
    | some as =>
      rw [q] at z
      simp only [Bool.and_eq_true, decide_eq_true_eq] at z
      obtain ⟨_, z4⟩ := z
      obtain ⟨c3, h3, e3, hc3⟩ := caW c1
      have y := List.all_eq_true.mp (List.all_eq_true.mp xw e he) c3 h3
      simp only [Bool.and_eq_true, decide_eq_true_eq] at y
      obtain ⟨⟨y1, y2⟩, y3⟩ := y
      refine ⟨_, e3, excB_ok y1, y2, fun j hj => ?_⟩
      have jx : j ∈ t.ex := List.contains_iff_mem.mp (List.all_eq_true.mp z4 j hj)
      have y4 := of_decide_eq_true (List.all_eq_true.mp y3 j hj)
      refine ⟨He.ga K j, ?_, ?_⟩
      · exact He.glo_ok X G (fact _ (by
          simp only [List.mem_append, List.mem_map]
          exact .inl (.inl (.inr ⟨j, List.mem_cons_of_mem _ jx, rfl⟩))))
      · rw [y4]
        rcases hc3 with ⟨_, e⟩ | ⟨n1, e⟩
        · rw [e]
        · rw [e, isSub_other (c := c1) (fun w => n1 (by rw [w]; exact jx)) (fun w => ne (by rw [w]; exact jx))]
  · have fC : ∀ f ∈ [He.Fa.glo (clsN k), .cls (clsN k), .mkr (clsN k)] ++ (clsF k).map fun f => He.Fa.noat (clsN k) f, f.ok K = true := fun f hf => factA f (List.mem_append_right _ (List.mem_append_right _ (List.mem_append_left _ (List.mem_flatMap.mpr ⟨k, hk, hf⟩))))
    exact ⟨He.glo_ok X G (fC _ (by simp)), He.cls_ok (fC _ (by simp)), fun f hf => He.noat_ok (fC _ (List.mem_append_right _ (List.mem_map.mpr ⟨f, hf, rfl⟩)))⟩
  · obtain ⟨e, he, q⟩ := List.mem_map.mp hx
    cases q
    have f1 : (He.Fa.meth (clsN e.k) e.name).ok K = true := factA _ (List.mem_append_right _ (List.mem_append_right _ (List.mem_append_right _ (List.mem_map.mpr ⟨e, he, rfl⟩))))
    obtain ⟨fd, F⟩ := c.defs (d := e.defd) (List.mem_append_right _ (List.mem_map.mpr ⟨e, he, rfl⟩))
    exact Mth.fact (List.all_eq_true.mp lkM e he) (He.meth_ok f1) F
  · obtain ⟨e, he, q⟩ := List.mem_map.mp hx
    obtain ⟨he, hn⟩ := List.mem_filter.mp he
    rw [Bool.and_eq_true, decide_eq_true_eq] at hn
    obtain ⟨hn, hk⟩ := hn
    cases q
    have f1 : (He.Fa.mkr (clsN e.k)).ok K = true := factA _ (List.mem_append_right _ (List.mem_append_right _ (List.mem_append_left _ (List.mem_flatMap.mpr ⟨e.k, List.contains_iff_mem.mp hk, by simp⟩))))
    exact ⟨List.mem_map.mpr ⟨e, he, by rw [hn]⟩, _, He.mkr_ok f1⟩
  · obtain ⟨e, he, q⟩ := List.mem_map.mp hx
    obtain ⟨he, hln⟩ := List.mem_filter.mp he
    cases q
    have f1 : (He.Fa.glo e.name).ok K = true := fact _ (by
      simp only [List.mem_append, List.mem_map]
      exact .inl (.inl (.inl (.inl ⟨e, he, rfl⟩))))
    obtain ⟨fd, F⟩ := c.defs (d := e.defd) (List.mem_append_left _ (List.mem_append_right _ (List.mem_map.mpr ⟨e, he, rfl⟩)))
    exact Ent.factL (List.all_eq_true.mp lk e he) hln (He.glo_ok X G f1) F
  · have y := List.all_eq_true.mp xv (x, j) hx
    unfold dvB at y
    rw [Bool.and_eq_true] at y
    have hx' : (x, j) ∈ t.dvs := hx
    obtain ⟨i, hi, ei⟩ := List.mem_iff_getElem.mp hx'
    obtain ⟨es, m, kd⟩ := ct.tab (t.dcts.length + i) (t := (fun K => He.ga K x, (dctV j).map (·.1))) (by
      unfold Txt.ts
      rw [List.getElem?_append_right (by simp), List.length_map, Nat.add_sub_cancel_left, List.getElem?_map, List.getElem?_eq_getElem hi, ei]
      rfl)
    refine ⟨He.ga K x, es, m, He.glo_ok X G y.1, kd, fun z => ?_⟩
    have y2 := y.2
    rw [kd.at_] at y2
    have y3 := of_decide_eq_true y2
    unfold PySem.W.nsIn
    rw [kd.at_]
    exact dv_find y3
  · have y := List.all_eq_true.mp xd (x, j) hx
    unfold dctB at y
    rw [Bool.and_eq_true] at y
    have hx' : (x, j) ∈ t.dcts := hx
    obtain ⟨i, hi, ei⟩ := List.mem_iff_getElem.mp hx'
    obtain ⟨es, m, kd⟩ := ct.tab i (t := (fun K => He.ga K x, dctK j)) (by
      unfold Txt.ts
      rw [List.getElem?_append_left (by simpa using hi), List.getElem?_map, List.getElem?_eq_getElem hi, ei]
      rfl)
    refine ⟨He.ga K x, es, m, He.glo_ok X G y.1, kd, fun z b hz => ?_⟩
    have u := List.all_eq_true.mp y.2 (z, b) hz
    dsimp only at u
    cases q : PySem.W.nsIn K (He.ga K x) z with
    | none => rw [q] at u; cases u
    | some r => rw [q] at u; exact ⟨r, rfl, of_decide_eq_true u⟩
/-- the promise of the law's def, from what the tongue reckons -/
theorem txt_law {t : Txt} {T : Nat → Option Def} {P : Program} {w : World} {K : PySem.W.Frag} {h : Heap} {mg : Str → Option Value} {f : Addr} {i n m : Nat} {x : Str} (X : K.In h) (G : h.Ns mainGlobals mg) (hf : mg "law" = some (.ref f)) (tree : P.given.tree = none) (lk : (t.ents.all fun e => e.look T t.gm t.ex) = true) (lkW : (t.wrds.all fun e => e.lookW t.ex) = true) (lkM : (t.mths.all fun m => m.look T t.gm t.ex) = true) (ct : He.SaysT t.fa t.fn t.ts w K) (xb : t.xb K = true) (ne : closeE ∉ t.ex)
    (hi : (("law" : Str), i) ∈ t.gm.fns) (ha : t.lawArg x = true)
    (hv : ∀ ns : List Int, ns.length ≤ m → evc T (n + 1) i [.list (ns.map PyData.int)] = .ok (.bool true)) :
    ∃ (K : PySem.W.Frag) (fd : FuncData) (sp : Sp), K.In h ∧ (∀ (s : Shared) (u : Value), BindsTo s fd ⟨[u], []⟩ [(x, u)]) ∧
        (∀ (H : Hp) (a : Addr) (ns : List Int), ns.length ≤ m → SqL K H a (ns.map V.int) → sp [.ref a] H (fun v _ => v = .bl true) fun _ _ _ => False) ∧
        ∀ B : Heap, B.NoSeer → FnOk P w K mg B (L2N.CX P w) (2 * (n + 1) + 45) f fd [x] sp := by
  have c : He.SaysD t.fa t.fn K := ct.d
  have Z := txt_wd (T := T) (P := P) X G tree lk lkW lkM ct xb ne
  obtain ⟨e, he, q⟩ := List.mem_map.mp hi
  obtain ⟨he, hln⟩ := List.mem_filter.mp he
  rw [Bool.not_eq_true'] at hln
  have qn : e.name = "law" := congrArg Prod.fst q
  obtain ⟨pa, hp, hx⟩ := lawArg_ok ha he qn
  obtain ⟨fd, F⟩ := c.defs (d := e.defd) (List.mem_append_left _ (List.mem_append_right _ (List.mem_map.mpr ⟨e, he, rfl⟩)))
  have ea : defArgs e.st = ⟨[], [pa], none, [], [], none, []⟩ := by
    unfold plainArgs at hp
    split at hp
    · rename_i heq; cases hp; exact heq
    · cases hp
  have F2 : FunD K e.name e.name ⟨[], [pa], none, [], [], none, []⟩ (defBody e.st) (defScope e.st) [] [] (He.fAd K (e.name, none)) fd := by
    rw [← ea]; exact F
  have hb := FunD.bindsA (ps := [pa.arg]) F2 fun kV doc pm an cdv ct us hl => bind_plain (as := [pa]) (by simp) kV doc pm an cdv ct us hl
  have f1 : (He.Fa.glo e.name).ok K = true := c.facts (by
    simp only [Txt.fa, List.mem_append, List.mem_map]
    exact .inr (.inl (.inl (.inl (.inl (.inl ⟨e, he, rfl⟩))))))
  have m1 := He.glo_ok X G f1
  rw [qn] at m1
  have m2 := hf.symm.trans m1
  have ef : f = He.ga K e.name := by rw [qn]; cases m2; rfl
  refine ⟨K, fd, spF T (t.ca K) K (n + 1) i, X, fun s u => ?_, fun H a ns hl sq => ?_, fun B sr => ?_⟩
  · have z := hb s [u] rfl
    rw [hx] at z
    exact z
  · refine ⟨[.list (ns.map PyData.int)], H, Same.refl _, .cons (.lst sq ?_) .nil, ?_⟩
    · clear hl sq
      induction ns with
      | nil => exact .nil
      | cons a l ih => exact .cons (.int a) ih
    · rw [hv ns hl]
      intro v H' G' _ p
      cases p
      rfl
  · have lk2 := List.all_eq_true.mp lk e he
    unfold Ent.look at lk2
    rw [hp] at lk2
    have qi : e.num = i := congrArg Prod.snd q
    cases q2 : T e.num with
    | none => rw [q2] at lk2; cases lk2
    | some d =>
      rw [q2] at lk2
      simp only [Bool.and_eq_true, decide_eq_true_eq] at lk2
      obtain ⟨⟨⟨⟨h1, h2⟩, h3⟩, h4⟩, h5⟩ := lk2
      rw [hln, if_neg Bool.false_ne_true] at h5
      have A := fn_all (w := w) Z sr n
      have z := fn_one (w := w) Z sr A.f A.m (A.i Z) A.l F2 (scopeB_ok h1) q2 h2 h3 h4 h5
      rw [qi] at z
      rw [ef]
      rw [← hx]
      exact z
/-- a world with one of its ways told -/
def setFT (b : Bool) (w : World) : World := { w with params := { w.params with followText := fun row => if row == "special-get-raises" then b else w.params.followText row } }
theorem setFT_eq (w : World) : setFT (w.params.followText "special-get-raises") w = w := by
  obtain ⟨d, p⟩ := w
  unfold setFT
  congr 1
  cases p
  simp only [PySem.Params.mk.injEq, true_and, and_true]
  funext row
  split
  · rename_i h
    rw [beq_iff_eq.mp h]
  · rfl
end Cw

set_option Elab.async false
set_option linter.all false
set_option maxRecDepth 100000
set_option maxHeartbeats 4000000
namespace Cw
open PySem PySem.Spec PyProof.Rows L2
/-! ### what is looked at behind the top: what the globals name, two steps deep; of some classes four -/
def refsL (g : Addr → Option Obj) (as : List Addr) : List Addr := as.flatMap fun a => match g a with
  | some o => He.refsD o
  | none => []
def asC (cs : List Str) (g : Addr → Option Obj) : List Addr :=
  let A := He.asD g 2
  let K := He.frT g A
  let c2 := refsL g (refsL g (cs.map fun x => He.ga K x))
  A ++ c2 ++ refsL g c2
def obsY (as : (Addr → Option Obj) → List Addr) (fa : List He.Fa) (fn : List He.DefD) (ts : List He.Tab) (ex : PySem.W.Frag → Bool) (g : Addr → Option Obj) : He.AlX := (fun K => (He.obsT fa fn ts K, ex K)) (He.frT g (as g))
def hookY (as : (Addr → Option Obj) → List Addr) (fa : List He.Fa) (fn : List He.DefD) (ts : List He.Tab) (ex : PySem.W.Frag → Bool) : PySem.W.Hook where
  α := He.AlX
  obs := fun s => obsY as fa fn ts ex s.heap.get?
  val := fun w => He.valX fn ts w
  says := fun w h => ∃ K : PySem.W.Frag, K.In h ∧ He.SaysX fa fn ts [] ex w h K
  of := fun w s e => ⟨_, He.frT_in, congrArg (fun z : He.AlX => z.1) e, congrArg (fun z : He.AlX => z.2) e, fun p hp => (nomatch hp), fun p hp => (nomatch hp), fun p hp => (nomatch hp)⟩
  keeps := fun _ _ _ ⟨K, hK, c⟩ k => ⟨K, PySem.W.Frag.In.keeps hK k, ⟨c.t, c.more, fun p hp => (nomatch hp), fun p hp => (nomatch hp), fun p hp => (nomatch hp)⟩⟩
theorem obsY_eq {as : (Addr → Option Obj) → List Addr} {fa : List He.Fa} {fn : List He.DefD} {ts : List He.Tab} {ex : PySem.W.Frag → Bool} {g : Addr → Option Obj} {s : Shared} (h : ∀ a, g a = s.heap.get? a) : obsY as fa fn ts ex g = (hookY as fa fn ts ex).obs s := by
  have e : g = s.heap.get? := funext h
  rw [e] <;> rfl
end Cw

set_option Elab.async false
set_option linter.all false
set_option maxRecDepth 100000
set_option maxHeartbeats 0
namespace K20
open PySem Cw
def top (i : Nat) : Stmt := PySem.Challenge.pw_closewright_k20_whole_covers.main.body.getD i (.Pass ⟨0, 0, 0, 0⟩)
def clsBody (s : Stmt) (j : Nat) : Stmt := match s with
  | .ClassDef _ _ _ b .. => b.getD j (.Pass ⟨0, 0, 0, 0⟩)
  | _ => .Pass ⟨0, 0, 0, 0⟩
def ents : List Ent := [⟨"common", 10, ["one", "other"], top 6, false⟩,
  ⟨"fraction", 11, ["top", "under", "part"], top 7, false⟩,
  ⟨"is_whole", 12, ["thing"], top 8, false⟩,
  ⟨"is_fraction", 13, ["thing"], top 9, false⟩,
  ⟨"plus", 17, ["one", "other"], top 10, false⟩,
  ⟨"opposite", 14, ["one"], top 11, false⟩,
  ⟨"minus", 18, ["one", "other"], top 12, false⟩,
  ⟨"times", 19, ["one", "other"], top 13, false⟩,
  ⟨"over", 20, ["one", "other"], top 14, false⟩,
  ⟨"power", 21, ["one", "many", "top", "under", "k"], top 15, false⟩,
  ⟨"order_of", 22, ["one", "other", "first", "second"], top 16, false⟩,
  ⟨"least_of", 23, ["some", "found", "one"], top 17, false⟩,
  ⟨"greatest_of", 24, ["some", "found", "one"], top 18, false⟩,
  ⟨"around", 25, ["some"], top 20, false⟩,
  ⟨"has", 26, ["one", "number"], top 21, false⟩,
  ⟨"sum_of", 27, ["one", "other"], top 22, false⟩,
  ⟨"less_of", 28, ["one", "other"], top 23, false⟩,
  ⟨"product_of", 29, ["one", "other"], top 24, false⟩,
  ⟨"power_of", 30, ["one", "many", "some"], top 25, false⟩,
  ⟨"quotient_of", 31, ["one", "other"], top 26, false⟩,
  ⟨"joined", 50, ["word", "one", "other"], top 28, false⟩,
  ⟨"cover", 51, ["term", "box", "word", "one", "other"], top 29, false⟩,
  ⟨"_law_cell", 1000, ["script", "k"], top 31, false⟩,
  ⟨"_law_drawn", 1001, ["cell", "k", "more"], top 32, false⟩,
  ⟨"_law_made", 1002, ["top", "under", "one", "other"], top 33, false⟩,
  ⟨"_law_fraction", 1003, ["more", "top"], top 34, false⟩,
  ⟨"_law_less", 1010, ["one", "other"], top 35, false⟩,
  ⟨"_law_stretch", 1011, ["more", "one", "other"], top 36, false⟩,
  ⟨"_law_between", 1012, ["side", "more", "part", "low", "high"], top 37, false⟩,
  ⟨"_law_has", 1013, ["side", "number"], top 38, false⟩,
  ⟨"_law_weight", 1018, ["term"], top 39, false⟩,
  ⟨"_law_grown", 1019, ["script", "k", "deep", "many", "more", "way", "word", "number"], top 40, false⟩,
  ⟨"_law_term", 1020, ["script", "k", "many", "deep", "term"], top 41, false⟩,
  ⟨"_law_worth", 1021, ["term", "point", "word", "one", "other", "way", "found", "k"], top 42, false⟩,
  ⟨"_law_side", 1036, ["more", "low", "wide"], top 43, false⟩,
  ⟨"_law_once", 1120, ["term", "seen"], top 44, true⟩,
  ⟨"_law_corners", 1037, ["box", "found", "side", "point"], top 45, false⟩,
  ⟨"_law_right", 1121, ["term", "box", "found", "more", "j", "worths", "point", "one", "end", "i", "side"], top 46, false⟩,
  ⟨"law", 1122, ["script", "k", "more", "many", "term", "box", "found", "point", "alone", "due", "inner", "side", "told", "ends", "j", "number"], top 47, false⟩]
def mths : List Mth := []
def txt : Txt := ⟨ents, [("NOUGHT", 0), ("ONE", 1)], ["NoFraction"], [], [], [], mths, []⟩
def names : List Str := (["__name__", "CloseError", "NoFraction", "NOUGHT", "ONE", "common", "fraction", "is_whole", "is_fraction", "plus", "opposite", "minus", "times", "over", "power", "order_of", "least_of", "greatest_of", "around", "has", "sum_of", "less_of", "product_of", "power_of", "quotient_of", "joined", "cover", "_law_cell", "_law_drawn", "_law_made"] : List Str) ++ (["_law_fraction", "_law_less", "_law_stretch", "_law_between", "_law_has", "_law_weight", "_law_grown", "_law_term", "_law_worth", "_law_side", "_law_once", "_law_corners", "_law_right"] : List Str)
section
open PySem.Spec PyProof.Rows L2
abbrev RR : PySem.W.OpenRow := PySem.W.OpenLaw.row PySem.Challenge.rw_closewright_k20_whole_covers
abbrev hk : PySem.W.Hook := Cw.hookY (Cw.asC (txt.clss.map clsN)) txt.fa txt.fn txt.ts txt.xb
def ob (s : PySem.W.SharedT) : He.AlX := Cw.obsY (Cw.asC (txt.clss.map clsN)) txt.fa txt.fn txt.ts txt.xb (HandSHeadRun.getT s)
theorem ob_eq (s : PySem.W.SharedT) : ob s = hk.obs s.abs := Cw.obsY_eq (HandSHeadRun.getT_eq s)
theorem run (w : World) : HandSHeadRun.RunEq RR (PySem.W.view RR.prog [47]) hk ob 6000 names w := by
  intro os
  kernel_rfl
end
end K20
set_option Elab.async false
set_option linter.all false
set_option maxRecDepth 100000
set_option maxHeartbeats 4000000
namespace Cw
open PySem

/-! ### reckoning: a def by its number -/
class Fn (T : Nat → Option Def) (i : Nat) (d : outParam Def) : Prop where
  eq : T i = some d
theorem evc_fn {T : Nat → Option Def} {n i : Nat} {d : Def} {ds : List D} [h : Fn T i d] : evc T (n + 1) i ds = runD (evc T n) d ds := by
  show (match T i with | some d => runD (evc T n) d ds | none => .bad) = _
  rw [h.eq]

/-! ### whiles -/
theorem whlN_mono {c : List Sl → R Bool} {b : List Sl → Out} : ∀ {n : Nat} {env : List Sl} {o : Out}, whlN c b n env = some o → ∀ k, whlN c b (n + k) env = some o
  | 0, _, _, h, _ => by cases h
  | n + 1, env, o, h, k => by
    have e : n + 1 + k = (n + k) + 1 := by omega
    rw [e]
    unfold whlN at h ⊢
    cases q : c env with
    | ok v => cases v with
      | true =>
        rw [q] at h
        dsimp only at h ⊢
        cases q2 : b env with
        | next e => rw [q2] at h; exact whlN_mono h k
        | cont e => rw [q2] at h; exact whlN_mono h k
        | _ => rw [q2] at h; exact h
      | false => rw [q] at h; exact h
    | _ => rw [q] at h; exact h
theorem whl_of {c : List Sl → R Bool} {b : List Sl → Out} {n : Nat} {env : List Sl} {o : Out} (h : whlN c b n env = some o) : whl c b env = o := by
  unfold whl
  have q : ∃ n o, whlN c b n env = some o := ⟨n, o, h⟩
  rw [dif_pos q]
  have z := Classical.choose_spec (Classical.choose_spec q)
  have z1 := whlN_mono z n
  have z2 := whlN_mono h (Classical.choose q)
  rw [Nat.add_comm] at z2
  exact Option.some.inj (z1.symm.trans z2)
theorem whl_stop {c : List Sl → R Bool} {b : List Sl → Out} {env : List Sl} (h : c env = .ok false) : whl c b env = .next env :=
  whl_of (n := 1) (by unfold whlN; rw [h])
theorem whl_next {c : List Sl → R Bool} {b : List Sl → Out} {env e : List Sl} (h : c env = .ok true) (h2 : b env = .next e) : whl c b env = whl c b e := by
  by_cases q : ∃ n o, whlN c b n e = some o
  · obtain ⟨n, o, q⟩ := q
    rw [whl_of q]
    refine whl_of (n := n + 1) ?_
    unfold whlN
    rw [h]
    dsimp only
    rw [h2]
    exact q
  · have q2 : ¬ ∃ n o, whlN c b n env = some o := fun ⟨n, o, z⟩ => by
      cases n with
      | zero => cases z
      | succ n =>
        unfold whlN at z
        rw [h] at z
        dsimp only at z
        rw [h2] at z
        exact q ⟨n, o, z⟩
    unfold whl
    rw [dif_neg q, dif_neg q2]
theorem whl_ret {c : List Sl → R Bool} {b : List Sl → Out} {env : List Sl} {d : D} (h : c env = .ok true) (h2 : b env = .ret d) : whl c b env = .ret d :=
  whl_of (n := 1) (by unfold whlN; rw [h]; dsimp only; rw [h2])

@[simp] theorem bind_ok {A B : Type} (a : A) (f : A → R B) : (R.ok a).bind f = f a := rfl
@[simp] theorem bind_bad {A B : Type} (f : A → R B) : (R.bad : R A).bind f = .bad := rfl
@[simp] theorem bind_exc {A B : Type} (c : Str) (f : A → R B) : (R.exc c : R A).bind f = .exc c := rfl
@[simp] theorem onR_ok {A : Type} (env : List Sl) (a : A) (f : A → Out) : onR env (.ok a) f = f a := rfl
@[simp] theorem onR_exc {A : Type} (env : List Sl) (c : Str) (f : A → Out) : onR env (.exc c) f = .exc c env := rfl
@[simp] theorem onR_bad {A : Type} (env : List Sl) (f : A → Out) : onR env .bad f = .bad := rfl
@[simp] theorem toB_bool (b : Bool) : toB (.ok (.bool b)) = .ok b := rfl
@[simp] theorem toB_exc (c : Str) : toB (.exc c) = .exc c := rfl
/-! comparisons of plain things -/
@[simp] theorem sh_int (i : Int) : SeqAt.shaped (.int i) = true := rfl
@[simp] theorem sh_bool (i : Bool) : SeqAt.shaped (.bool i) = true := rfl
@[simp] theorem sh_none : SeqAt.shaped (.none) = true := rfl
@[simp] theorem eq_int (a b : Int) : cmR .eq (.int a) (.int b) = .ok (.bool (a == b)) := rfl
@[simp] theorem ne_int (a b : Int) : cmR .ne (.int a) (.int b) = .ok (.bool (!(a == b))) := rfl
@[simp] theorem lt_int' (a b : Int) : cmR .lt (.int a) (.int b) = .ok (.bool (decide (a < b))) := rfl
@[simp] theorem le_int' (a b : Int) : cmR .le (.int a) (.int b) = .ok (.bool (decide (a ≤ b))) := rfl
@[simp] theorem gt_int' (a b : Int) : cmR .gt (.int a) (.int b) = .ok (.bool (decide (b < a))) := rfl
@[simp] theorem ge_int' (a b : Int) : cmR .ge (.int a) (.int b) = .ok (.bool (decide (b ≤ a))) := rfl
@[simp] theorem add_int' (a b : Int) : opR .add (.int a) (.int b) = .ok (.int (a + b)) := rfl
@[simp] theorem sub_int' (a b : Int) : opR .sub (.int a) (.int b) = .ok (.int (a - b)) := rfl
theorem mul_int' {a b : Int} (h : MulOk a b) : opR .mul (.int a) (.int b) = .ok (.int (a * b)) := by
  show (if MulOk a b then _ else _) = _
  rw [if_pos h]
theorem fdiv_int' {a b : Int} (h : b ≠ 0) : opR .fdiv (.int a) (.int b) = .ok (.int (a.fdiv b)) := by
  show (if b = 0 then _ else _) = _
  rw [if_neg h]
theorem mod_int'' {a b : Int} (h : b ≠ 0) : opR .mod (.int a) (.int b) = .ok (.int (a.fmod b)) := by
  show (if b = 0 then _ else _) = _
  rw [if_neg h]
theorem fdiv_pos {a b : Int} (h : 0 < b) : opR .fdiv (.int a) (.int b) = .ok (.int (a / b)) := by
  rw [fdiv_int' (by omega), Int.fdiv_eq_ediv_of_nonneg a (by omega)]
theorem mod_pos {a b : Int} (h : 0 < b) : opR .mod (.int a) (.int b) = .ok (.int (a % b)) := by
  rw [mod_int'' (by omega), Int.fmod_eq_emod_of_nonneg a (by omega)]
theorem pow_int' {a b : Int} (h : 0 ≤ b ∧ b ≤ 1000000 ∧ a.natAbs < 2 ^ 64) : opR .pow (.int a) (.int b) = .ok (.int (a ^ b.toNat)) := by
  show (if _ then _ else _) = _
  rw [if_pos h]
theorem shl_int' {a b : Int} (h : 0 ≤ b ∧ b ≤ 1000000 ∧ a.natAbs < 2 ^ 64) : opR .shl (.int a) (.int b) = .ok (.int (a * 2 ^ b.toNat)) := by
  show (if _ then _ else _) = _
  rw [if_pos h]

/-! ### reckoning step by step -/
def notR (r : R D) : R D := r.bind fun x => match x with
  | .bool b => .ok (.bool (!b))
  | _ => .bad
def negR (r : R D) : R D := r.bind fun x => match x with
  | .int i => .ok (.int (-i))
  | _ => .bad
def andR (r s : R D) : R D := r.bind fun x => match x with
  | .bool true => s
  | .bool false => .ok (.bool false)
  | _ => .bad
def orR (r s : R D) : R D := r.bind fun x => match x with
  | .bool true => .ok (.bool true)
  | .bool false => s
  | _ => .bad
def ifeR (r s t : R D) : R D := r.bind fun x => match x with
  | .bool true => s
  | .bool false => t
  | _ => .bad
def rng1R (r : R D) : R (List D) := r.bind fun x => match x with
  | .int j => rngR 0 j
  | _ => .bad
def rng2R (r s : R D) : R (List D) := r.bind fun x => s.bind fun y => match x, y with
  | .int i, .int j => rngR i j
  | _, _ => .bad
theorem rng1_ok {j : Int} : rng1R (.ok (.int j)) = rngR 0 j := by simp only [rng1R, bind_ok]
theorem rng2_ok {i j : Int} : rng2R (.ok (.int i)) (.ok (.int j)) = rngR i j := by simp only [rng2R, bind_ok]
theorem not_ok {b : Bool} : notR (.ok (.bool b)) = .ok (.bool (!b)) := rfl
theorem neg_ok {b : Int} : negR (.ok (.int b)) = .ok (.int (-b)) := rfl
theorem and_t {s : R D} : andR (.ok (.bool true)) s = s := rfl
theorem and_f {s : R D} : andR (.ok (.bool false)) s = .ok (.bool false) := rfl
theorem and_ok {a b : Bool} : andR (.ok (.bool a)) (.ok (.bool b)) = .ok (.bool (a && b)) := by cases a <;> rfl
theorem and_x {c : Str} {s : R D} : andR (.exc c) s = .exc c := rfl
theorem or_t {s : R D} : orR (.ok (.bool true)) s = .ok (.bool true) := rfl
theorem or_f {s : R D} : orR (.ok (.bool false)) s = s := rfl
theorem or_ok {a b : Bool} : orR (.ok (.bool a)) (.ok (.bool b)) = .ok (.bool (a || b)) := by cases a <;> rfl
theorem or_x {c : Str} {s : R D} : orR (.exc c) s = .exc c := rfl
theorem ife_b {b : Bool} {s t : R D} : ifeR (.ok (.bool b)) s t = if b = true then s else t := by cases b <;> rfl
theorem is_none : cmR .is .none .none = .ok (.bool true) := rfl
noncomputable def whlS (F : Nat → List D → R D) (ms : List Nat) (c : E) (b : Ss) (env : List Sl) : Out := whl (fun e => toB (ev F (see e ms) c)) (fun e => evSs F e b) env
noncomputable def forS (F : Nat → List D → R D) (tg : Tg) (b : Ss) (ds : List D) (env : List Sl) : Out := forGo (fun d e => match setT e tg d with
    | .ok e2 => evSs F e2 b
    | _ => .bad) ds env
def lcS (F : Nat → List D → R D) (own : List Nat) (elt : E) (tg : Tg) (c : Eo) (env : List Sl) (ds : List D) : R (List D) := lcGo (fun d => (setT (wipeE env own) tg d).bind fun e2 => (evC F e2 c).bind fun b => if b = true then (ev F e2 elt).bind fun x => .ok (some x) else .ok none) ds
def outR : Out → R D
  | .next _ => .ok .none
  | .ret x => .ok x
  | .exc c _ => .exc c
  | _ => .bad
theorem outR_ret {d : D} : outR (.ret d) = .ok d := rfl
theorem outR_next {e : List Sl} : outR (.next e) = .ok .none := rfl
theorem outR_exc {e : List Sl} {c : Str} : outR (.exc c e) = .exc c := rfl
def thenS (F : Nat → List D → R D) (o : Out) (ss : Ss) (k : Out → Out) : Out := k o
noncomputable def goSs (F : Nat → List D → R D) (ss : Ss) : Out → Out
  | .next e => evSs F e ss
  | o => o
theorem goSs_next {F : Nat → List D → R D} {ss : Ss} {e : List Sl} : goSs F ss (.next e) = evSs F e ss := rfl
theorem goSs_ret {F : Nat → List D → R D} {ss : Ss} {d : D} : goSs F ss (.ret d) = .ret d := rfl
theorem goSs_exc {F : Nat → List D → R D} {ss : Ss} {c : Str} {e : List Sl} : goSs F ss (.exc c e) = .exc c e := rfl
theorem goSs_brk {F : Nat → List D → R D} {ss : Ss} {e : List Sl} : goSs F ss (.brk e) = .brk e := rfl
theorem goSs_cont {F : Nat → List D → R D} {ss : Ss} {e : List Sl} : goSs F ss (.cont e) = .cont e := rfl
theorem run_eq {F : Nat → List D → R D} {d : Def} {ds : List D} (h : ds.length = d.ps) : runD F d ds = outR (evSs F (startE d.sl ds) d.body) := by
  unfold runD
  rw [if_pos h]
  unfold outR
  split <;> simp_all
theorem evc_run {T : Nat → Option Def} {n i : Nat} {d : Def} {ds : List D} [h : Fn T i d] (hl : ds.length = d.ps) : evc T (n + 1) i ds = outR (evSs (evc T n) (startE d.sl ds) d.body) := by
  rw [evc_fn, run_eq hl]
section
variable {F : Nat → List D → R D} {env : List Sl}
theorem ss_nil : evSs F env .nil = .next env := by simp only [evSs]
theorem ss_cons {s : S} {ss : Ss} : evSs F env (.cons s ss) = goSs F ss (evS F env s) := by
  simp only [evSs]
  cases evS F env s <;> rfl
theorem s_asg' {i : Nat} {ms : List Nat} {e : E} : evS F env (.asg i ms e) = onR env (ev F (see env ms) e) fun d => .next ((if flatD d = true then env else see env ms).set i (.fr d)) := by simp only [evS] <;> rfl
theorem s_asgL' {i : Nat} {ms : List Nat} {e : E} : evS F env (.asgL i ms e) = onR env (ev F (see env ms) e) fun d => match d with
    | .list ds => .next ((see env ms).set i (.ow ds))
    | _ => .bad := by simp only [evS] <;> rfl
theorem s_asgT' {l ms : List Nat} {e : E} : evS F env (.asgT l ms e) = onR env (ev F (see env ms) e) fun d => match setT (see env ms) (.many l) d with
    | .ok e2 => .next e2
    | _ => .bad := by simp only [evS] <;> rfl
theorem s_par' {i j : Nat} {ms : List Nat} {a b : E} : evS F env (.par i j ms a b) = onR env (ev F (see env ms) a) fun x => onR env (ev F (see env ms) b) fun y => .next (((see env ms).set i (.fr x)).set j (.fr y)) := by simp only [evS] <;> rfl
theorem s_ret' {ms : List Nat} {e : E} : evS F env (.ret ms e) = onR env (ev F (see env ms) e) fun d => .ret d := by simp only [evS] <;> rfl
theorem s_iff' {ms : List Nat} {c : E} {a b : Ss} : evS F env (.iff ms c a b) = onR env (toB (ev F (see env ms) c)) fun x => if x = true then evSs F env a else evSs F env b := by simp only [evS] <;> rfl
theorem s_whl' {ms : List Nat} {c : E} {b : Ss} : evS F env (.whl ms c b) = whlS F ms c b env := by simp only [evS, whlS]
theorem s_for' {ms : List Nat} {tg : Tg} {it : It} {b : Ss} : evS F env (.for_ ms tg it b) = onR env (evI F (see env ms) it) fun ds => forS F tg b ds (see env ms) := by simp only [evS, forS] <;> rfl
theorem s_rais' {c : Str} : evS F env (.rais c) = .exc c env := by simp only [evS] <;> rfl
theorem s_expr' {ms : List Nat} {e : E} : evS F env (.expr ms e) = onR env (ev F (see env ms) e) fun _ => .next env := by simp only [evS] <;> rfl
theorem s_brk' : evS F env .brk = .brk env := by simp only [evS] <;> rfl
theorem s_cont' : evS F env .cont = .cont env := by simp only [evS] <;> rfl
theorem s_pass' : evS F env .pass = .next env := by simp only [evS] <;> rfl
theorem s_try0 {b : Ss} {c : Str} {i : Nat} {d : D} : evS F env (.tryN b c i d) = match evSs F env b with
    | .exc c2 e => if isSub c2 c = true then .next (e.set i (.fr d)) else .exc c2 e
    | o => o := by
  simp only [evS] <;> (cases evSs F env b <;> rfl)
def tryWO (k : Nat) : Out → Out
  | .exc c _ => .ret (.str (wordT k c))
  | o => o
theorem s_tryW' {b : Ss} {i k : Nat} : evS F env (.tryW b i k) = tryWO k (evSs F env b) := by
  simp only [evS] <;> (cases evSs F env b <;> rfl)
theorem tryW_ret {k : Nat} {d : D} : tryWO k (.ret d) = .ret d := rfl
theorem tryW_next {k : Nat} {e : List Sl} : tryWO k (.next e) = .next e := rfl
theorem tryW_exc {k : Nat} {c : Str} {e : List Sl} : tryWO k (.exc c e) = .ret (.str (wordT k c)) := rfl
def tryAO (i k j : Nat) : Out → Out
  | .exc c e => (match e[j]? with
    | some (.ow ds) => if ds.length < sizeLine then .next ((e.set i .no).set j (.ow (ds ++ [.str (wordT k c)]))) else .bad
    | _ => .bad)
  | o => o
theorem s_tryA' {b : Ss} {i k j : Nat} : evS F env (.tryA b i k j) = tryAO i k j (evSs F env b) := by
  simp only [evS] <;> (cases evSs F env b <;> rfl)
theorem tryA_next {i k j : Nat} {e : List Sl} : tryAO i k j (.next e) = .next e := rfl
theorem tryA_exc {i k j : Nat} {c : Str} {e : List Sl} {ds : List D} (h : e[j]? = some (.ow ds)) (h2 : ds.length < sizeLine) : tryAO i k j (.exc c e) = .next ((e.set i .no).set j (.ow (ds ++ [.str (wordT k c)]))) := by
  show (match e[j]? with
    | some (.ow ds) => if ds.length < sizeLine then Out.next ((e.set i .no).set j (.ow (ds ++ [PyData.str (wordT k c)]))) else .bad
    | _ => .bad) = _
  rw [h]
  exact if_pos h2
def tryNO (c : Str) (i : Nat) (d : D) : Out → Out
  | .exc c2 e => if isSub c2 c = true then .next (e.set i (.fr d)) else .exc c2 e
  | o => o
theorem s_try' {b : Ss} {c : Str} {i : Nat} {d : D} : evS F env (.tryN b c i d) = tryNO c i d (evSs F env b) := by
  rw [s_try0]
  cases evSs F env b <;> rfl
theorem tryN_ret {c : Str} {i : Nat} {d x : D} : tryNO c i d (.ret x) = .ret x := rfl
theorem tryN_next {c : Str} {i : Nat} {d : D} {e : List Sl} : tryNO c i d (.next e) = .next e := rfl
theorem tryN_exc {c c2 : Str} {i : Nat} {d : D} {e : List Sl} : tryNO c i d (.exc c2 e) = if isSub c2 c = true then .next (e.set i (.fr d)) else .exc c2 e := rfl
theorem e_k {d : D} : ev F env (.k d) = .ok d := by simp only [ev] <;> rfl
theorem e_v {i : Nat} : ev F env (.v i) = getV env i := by simp only [ev] <;> rfl
theorem e_g {j : Nat} : ev F env (.g j) = .ok (cst j) := by simp only [ev] <;> rfl
theorem e_tup' {es : Es} : ev F env (.tup es) = (evs F env es).bind fun ds => .ok (.tuple ds) := by simp only [ev] <;> rfl
theorem e_lst' {es : Es} : ev F env (.lst es) = (evs F env es).bind fun ds => .ok (.list ds) := by simp only [ev] <;> rfl
theorem e_bin' {o : Op} {a b : E} : ev F env (.bin o a b) = (ev F env a).bind fun x => (ev F env b).bind fun y => opR o x y := by simp only [ev] <;> rfl
theorem e_neg' {a : E} : ev F env (.neg a) = negR (ev F env a) := by simp only [ev] <;> rfl
theorem e_not' {a : E} : ev F env (.not a) = notR (ev F env a) := by simp only [ev] <;> rfl
theorem e_and' {es : Es} : ev F env (.and es) = evAnd F env es := by simp only [ev] <;> rfl
theorem e_or' {es : Es} : ev F env (.or es) = evOr F env es := by simp only [ev] <;> rfl
theorem e_cmp' {o : Cm} {a b : E} : ev F env (.cmp o a b) = (ev F env a).bind fun x => (ev F env b).bind fun y => cmR o x y := by simp only [ev] <;> rfl
theorem e_cmp2' {o p : Cm} {a b c : E} : ev F env (.cmp2 o p a b c) = (ev F env a).bind fun x => (ev F env b).bind fun y => andR (cmR o x y) ((ev F env c).bind fun w => cmR p y w) := by simp only [ev] <;> rfl
theorem e_ife' {c a b : E} : ev F env (.ife c a b) = ifeR (ev F env c) (ev F env a) (ev F env b) := by simp only [ev] <;> rfl
theorem e_ix' {a i : E} : ev F env (.ix a i) = (ev F env a).bind fun x => (ev F env i).bind fun y => ixR x y := by simp only [ev] <;> rfl
theorem e_sl' {a : E} {lo hi : Eo} : ev F env (.sl a lo hi) = (ev F env a).bind fun x => (evO F env lo).bind fun l => (evO F env hi).bind fun u => slR x l u := by simp only [ev] <;> rfl
theorem e_call' {f : Nat} {es : Es} : ev F env (.call f es) = (evs F env es).bind fun ds => F f ds := by simp only [ev] <;> rfl
theorem e_bf' {f : Bf} {es : Es} : ev F env (.bf f es) = (evs F env es).bind fun ds => bfR f ds := by simp only [ev] <;> rfl
theorem e_isi' {a : E} {t : Ty} : ev F env (.isi a t) = (ev F env a).bind fun x => isiR t x := by simp only [ev] <;> rfl
theorem e_lc' {own : List Nat} {elt : E} {tg : Tg} {it : It} {c : Eo} : ev F env (.lc own elt tg it c) = (evI F env it).bind fun ds => (lcS F own elt tg c env ds).bind fun l => .ok (.list l) := by simp only [ev, lcS]
theorem es_nil : evs F env .nil = .ok [] := by simp only [evs] <;> rfl
theorem es_cons {e : E} {es : Es} : evs F env (.cons e es) = (ev F env e).bind fun x => (evs F env es).bind fun xs => .ok (x :: xs) := by simp only [evs] <;> rfl
theorem and_one {e : E} : evAnd F env (.cons e .nil) = ev F env e := by simp only [evAnd] <;> rfl
theorem and_cons {e e2 : E} {es : Es} : evAnd F env (.cons e (.cons e2 es)) = andR (ev F env e) (evAnd F env (.cons e2 es)) := by simp only [evAnd] <;> rfl
theorem or_one {e : E} : evOr F env (.cons e .nil) = ev F env e := by simp only [evOr] <;> rfl
theorem or_cons {e e2 : E} {es : Es} : evOr F env (.cons e (.cons e2 es)) = orR (ev F env e) (evOr F env (.cons e2 es)) := by simp only [evOr] <;> rfl
theorem eo_no : evO F env .no = .ok none := by simp only [evO] <;> rfl
theorem eo_yes {e : E} : evO F env (.yes e) = (ev F env e).bind fun x => match x with
    | .int i => .ok (some i)
    | _ => .bad := by simp only [evO] <;> rfl
theorem ec_no : evC F env .no = .ok true := by simp only [evC] <;> rfl
theorem ec_yes {e : E} : evC F env (.yes e) = (ev F env e).bind fun x => match x with
    | .bool b => .ok b
    | _ => .bad := by simp only [evC] <;> rfl
theorem ei_seq {e : E} : evI F env (.seq e) = (ev F env e).bind seqR := by simp only [evI] <;> rfl
theorem ei_rng1 {e : E} : evI F env (.rng1 e) = rng1R (ev F env e) := by simp only [evI] <;> rfl
theorem ei_rng2 {a b : E} : evI F env (.rng2 a b) = rng2R (ev F env a) (ev F env b) := by simp only [evI] <;> rfl
theorem ei_zip {a b : E} : evI F env (.zip a b) = (ev F env a).bind fun x => (ev F env b).bind fun y => zipR x y := by simp only [evI] <;> rfl
theorem ei_enum {e : E} : evI F env (.enum e) = (ev F env e).bind enumR := by simp only [evI] <;> rfl
theorem gv0 {d : D} : getV (.fr d :: env) 0 = .ok d := rfl
theorem gvS {x : Sl} {i : Nat} : getV (x :: env) (i + 1) = getV env i := rfl
theorem see0 : see env [] = env := rfl
end
theorem for_nil {F : Nat → List D → R D} {tg : Tg} {b : Ss} {env : List Sl} : forS F tg b [] env = .next env := rfl
theorem for_cons {F : Nat → List D → R D} {tg : Tg} {b : Ss} {d : D} {ds : List D} {env : List Sl} : forS F tg b (d :: ds) env = match (match setT env tg d with
    | .ok e2 => evSs F e2 b
    | _ => .bad) with
    | .next e => forS F tg b ds e
    | .cont e => forS F tg b ds e
    | .brk e => .next e
    | .ret x => .ret x
    | .exc c e => .exc c e
    | .bad => .bad := by
  unfold forS
  rw [forGo]
  try rfl
theorem for_step {F : Nat → List D → R D} {tg : Tg} {b : Ss} {d : D} {ds : List D} {env e2 e : List Sl} (h : setT env tg d = .ok e2) (h2 : evSs F e2 b = .next e) : forS F tg b (d :: ds) env = forS F tg b ds e := by
  rw [for_cons, h]
  dsimp only
  rw [h2]
theorem lc_nil {F : Nat → List D → R D} {own : List Nat} {elt : E} {tg : Tg} {c : Eo} {env : List Sl} : lcS F own elt tg c env [] = .ok [] := rfl
theorem fl_int {i : Int} : flatD (.int i) = true := rfl
theorem fl_bool {i : Bool} : flatD (.bool i) = true := rfl
theorem fl_str {i : Str} : flatD (.str i) = true := rfl
theorem fl_none : flatD .none = true := rfl
theorem fl_tup {l : List D} : flatD (.tuple l) = false := rfl
theorem fl_lst {l : List D} : flatD (.list l) = false := rfl
theorem bf_abs {i : Int} : bfR .abs [.int i] = .ok (.int (i.natAbs : Int)) := by
  show R.ok (PyData.int (if i < 0 then -i else i)) = _
  have e : (if i < 0 then -i else i) = (i.natAbs : Int) := by split <;> omega
  rw [e]
theorem bf_max {i j : Int} : bfR .max [.int i, .int j] = .ok (.int (max i j)) := by
  show R.ok (PyData.int (if j > i then j else i)) = _
  have e : (if j > i then j else i) = max i j := by rw [Int.max_def]; split <;> split <;> omega
  rw [e]
theorem bf_min {i j : Int} : bfR .min [.int i, .int j] = .ok (.int (min i j)) := by
  show R.ok (PyData.int (if j < i then j else i)) = _
  have e : (if j < i then j else i) = min i j := by rw [Int.min_def]; split <;> split <;> omega
  rw [e]
theorem bf_len {l : List D} : bfR .len [.list l] = .ok (.int l.length) := rfl
theorem bf_lenT {l : List D} : bfR .len [.tuple l] = .ok (.int l.length) := rfl
theorem bf_intB {b : Bool} : bfR .int [.bool b] = .ok (.int (if b then 1 else 0)) := rfl
theorem bf_int {b : Int} : bfR .int [.int b] = .ok (.int b) := rfl
theorem ix_nat {l : List D} {k : Nat} : ixR (.list l) (.int (k : Int)) = ofO (l[k]?) := by
  show ofO (L2.atI l (k : Int)) = _
  cases h : l[k]? with
  | some d => rw [L2.atI_nat h]
  | none =>
    unfold L2.atI L2.ixN
    have hk : l.length ≤ k := List.getElem?_eq_none_iff.mp h
    rw [if_pos (by omega), if_neg (by omega)]
    rfl
theorem ixT_nat {l : List D} {k : Nat} : ixR (.tuple l) (.int (k : Int)) = ofO (l[k]?) := ix_nat (l := l)
theorem ixT0 {a : D} {l : List D} : ixR (.tuple (a :: l)) (.int 0) = .ok a := ixT_nat (k := 0)
theorem ixT1 {a b : D} {l : List D} : ixR (.tuple (a :: b :: l)) (.int 1) = .ok b := ixT_nat (k := 1)
theorem ixT2 {a b c : D} {l : List D} : ixR (.tuple (a :: b :: c :: l)) (.int 2) = .ok c := ixT_nat (k := 2)
theorem ix_bool {l : List D} {n : Int} (h0 : 0 ≤ n) : ixR (.list l) (.int n) = ofO (l[n.toNat]?) := by
  have e : n = (n.toNat : Int) := by omega
  rw [e, ix_nat]
  rfl
theorem pw_10_11 : opR .pow (.int 10) (.int 11) = .ok (.int 100000000000) := rfl
theorem pw_10_12 : opR .pow (.int 10) (.int 12) = .ok (.int 1000000000000) := rfl
theorem pw_10_13 : opR .pow (.int 10) (.int 13) = .ok (.int 10000000000000) := rfl
theorem pw_10_30 : opR .pow (.int 10) (.int 30) = .ok (.int 1000000000000000000000000000000) := rfl
theorem pw_10_40 : opR .pow (.int 10) (.int 40) = .ok (.int 10000000000000000000000000000000000000000) := rfl
theorem pw_10_6 : opR .pow (.int 10) (.int 6) = .ok (.int 1000000) := rfl
theorem pw_10_9 : opR .pow (.int 10) (.int 9) = .ok (.int 1000000000) := rfl
theorem pw_2_8 : opR .pow (.int 2) (.int 8) = .ok (.int 256) := rfl
theorem pw_2_10 : opR .pow (.int 2) (.int 10) = .ok (.int 1024) := rfl
theorem pw_2_12 : opR .pow (.int 2) (.int 12) = .ok (.int 4096) := rfl
theorem pw_2_13 : opR .pow (.int 2) (.int 13) = .ok (.int 8192) := rfl
theorem pw_2_14 : opR .pow (.int 2) (.int 14) = .ok (.int 16384) := rfl
theorem pw_2_15 : opR .pow (.int 2) (.int 15) = .ok (.int 32768) := rfl
theorem pw_2_16 : opR .pow (.int 2) (.int 16) = .ok (.int 65536) := rfl
theorem pw_2_17 : opR .pow (.int 2) (.int 17) = .ok (.int 131072) := rfl
theorem pw_2_18 : opR .pow (.int 2) (.int 18) = .ok (.int 262144) := rfl
theorem pw_2_20 : opR .pow (.int 2) (.int 20) = .ok (.int 1048576) := rfl
theorem pw_2_24 : opR .pow (.int 2) (.int 24) = .ok (.int 16777216) := rfl
theorem pw_2_25 : opR .pow (.int 2) (.int 25) = .ok (.int 33554432) := rfl
theorem pw_2_27 : opR .pow (.int 2) (.int 27) = .ok (.int 134217728) := rfl
theorem pw_2_28 : opR .pow (.int 2) (.int 28) = .ok (.int 268435456) := rfl
theorem pw_2_30 : opR .pow (.int 2) (.int 30) = .ok (.int 1073741824) := rfl
theorem pw_2_32 : opR .pow (.int 2) (.int 32) = .ok (.int 4294967296) := rfl
theorem pw_2_34 : opR .pow (.int 2) (.int 34) = .ok (.int 17179869184) := rfl
theorem pw_2_36 : opR .pow (.int 2) (.int 36) = .ok (.int 68719476736) := rfl
theorem pw_2_38 : opR .pow (.int 2) (.int 38) = .ok (.int 274877906944) := rfl
theorem pw_2_40 : opR .pow (.int 2) (.int 40) = .ok (.int 1099511627776) := rfl
theorem pw_2_41 : opR .pow (.int 2) (.int 41) = .ok (.int 2199023255552) := rfl
theorem pw_2_42 : opR .pow (.int 2) (.int 42) = .ok (.int 4398046511104) := rfl
theorem pw_2_44 : opR .pow (.int 2) (.int 44) = .ok (.int 17592186044416) := rfl
theorem pw_2_50 : opR .pow (.int 2) (.int 50) = .ok (.int 1125899906842624) := rfl
theorem pw_2_54 : opR .pow (.int 2) (.int 54) = .ok (.int 18014398509481984) := rfl
theorem pw_2_56 : opR .pow (.int 2) (.int 56) = .ok (.int 72057594037927936) := rfl
theorem pw_2_60 : opR .pow (.int 2) (.int 60) = .ok (.int 1152921504606846976) := rfl

/-! ### walks with an invariant -/
theorem for_inv {F : Nat → List D → R D} {tg : Tg} {b : Ss} (I : Nat → List Sl → Prop) : ∀ (ds : List D) (k0 : Nat) {env : List Sl} (_ : I k0 env)
    (_ : ∀ k d e, ds[k]? = some d → I (k0 + k) e → ∃ e2 e3, setT e tg d = .ok e2 ∧ (evSs F e2 b = .next e3 ∨ evSs F e2 b = .cont e3) ∧ I (k0 + k + 1) e3),
    ∃ e, forS F tg b ds env = .next e ∧ I (k0 + ds.length) e
  | [], k0, env, h0, _ => ⟨env, rfl, h0⟩
  | d :: ds, k0, env, h0, h => by
    obtain ⟨e2, e3, s1, s2, s3⟩ := h 0 d env rfl h0
    have z := for_inv (F := F) (tg := tg) (b := b) I ds (k0 + 1) (env := e3) s3 (fun k x e hk hi => by
      have := h (k + 1) x e (by simpa using hk) (by rw [show k0 + (k + 1) = k0 + 1 + k from by omega]; exact hi)
      rw [show k0 + (k + 1) + 1 = k0 + 1 + k + 1 from by omega] at this
      exact this)
    obtain ⟨e, z1, z2⟩ := z
    refine ⟨e, ?_, by rw [List.length_cons, show k0 + (ds.length + 1) = k0 + 1 + ds.length from by omega]; exact z2⟩
    rw [for_cons, s1]
    dsimp only
    rcases s2 with s2 | s2 <;> rw [s2] <;> exact z1
theorem rng_ok {a b : Int} (h : -(2 ^ 62) ≤ a ∧ a < 2 ^ 62 ∧ -(2 ^ 62) ≤ b ∧ b < 2 ^ 62 ∧ b - a ≤ 1000000) : rngR a b = .ok (rngL a (b - a).toNat) := by
  unfold rngR
  rw [if_pos h]
theorem rngL_get {a : Int} {n k : Nat} {d : D} (h : (rngL a n)[k]? = some d) : k < n ∧ d = .int (a + k) := by
  unfold rngL at h
  rw [List.getElem?_map] at h
  by_cases q : k < n
  · rw [List.getElem?_range q] at h
    exact ⟨q, (Option.some.inj h).symm⟩
  · rw [List.getElem?_eq_none (by simpa using q)] at h
    cases h
theorem rngL_len {a : Int} {n : Nat} : (rngL a n).length = n := by unfold rngL; simp
theorem rng_nat {n : Nat} (h : n ≤ 1000000) : rngR 0 (n : Int) = .ok (rngL 0 n) := by
  rw [rng_ok ⟨by omega, by omega, by omega, by omega, by omega⟩]
  congr 2
/-- an item of a list that is written out -/
theorem ix_all {l : List D} {i : Int} (h0 : 0 ≤ i) (h1 : i < l.length) {P : D → Prop} (h : ∀ d, d ∈ l → P d) : ∃ d, ixR (.list l) (.int i) = .ok d ∧ P d := by
  have e : i = (i.toNat : Int) := by omega
  have q : i.toNat < l.length := by omega
  refine ⟨l[i.toNat], ?_, h _ (List.getElem_mem q)⟩
  have z : ixR (.list l) (.int (i.toNat : Int)) = .ok l[i.toNat] := by
    rw [ix_nat, List.getElem?_eq_getElem q]
    rfl
  rw [← e] at z
  exact z
theorem lay_ints : ∀ ns : List Int, PyData.canLayAll0 (ns.map PyData.int) = true
  | [] => rfl
  | _ :: r => by simp [PyData.canLayAll0, PyData.canLay0, lay_ints r]
theorem dep_ints : ∀ ns : List Int, PyData.depthAll (ns.map PyData.int) = 0
  | [] => rfl
  | _ :: r => by simp [PyData.depthAll, PyData.depth, dep_ints r]
theorem sh_ints (ns : List Int) : SeqAt.shaped (.list (ns.map PyData.int)) = true := by
  simp [SeqAt.shaped, PyData.canLay0, PyData.depth, lay_ints, dep_ints]
theorem eq_sh {a b : D} (ha : SeqAt.shaped a = true) (hb : SeqAt.shaped b = true) : cmR .eq a b = .ok (.bool (PyData.eqv a b)) := by
  show (if _ then _ else _) = _
  rw [if_pos ⟨ha, hb⟩]
theorem ne_sh {a b : D} (ha : SeqAt.shaped a = true) (hb : SeqAt.shaped b = true) : cmR .ne a b = .ok (.bool (!PyData.eqv a b)) := by
  show (if _ then _ else _) = _
  rw [if_pos ⟨ha, hb⟩]
theorem for_go {F : Nat → List D → R D} {tg : Tg} {b ss : Ss} {ds : List D} {env : List Sl} {X : Out} (I : Nat → List Sl → Prop) (h0 : I 0 env)
    (h : ∀ k d e, ds[k]? = some d → I k e → ∃ e2 e3, setT e tg d = .ok e2 ∧ (evSs F e2 b = .next e3 ∨ evSs F e2 b = .cont e3) ∧ I (k + 1) e3)
    (hf : ∀ e, I ds.length e → evSs F e ss = X) : goSs F ss (forS F tg b ds env) = X := by
  obtain ⟨e, z1, z2⟩ := for_inv (F := F) (tg := tg) (b := b) I ds 0 h0 (fun k d e hd hi => by
    rw [Nat.zero_add] at hi ⊢
    exact h k d e hd hi)
  rw [Nat.zero_add] at z2
  rw [z1, goSs_next]
  exact hf e z2
/-- what goes on, with something kept -/
def Nx (P : List Sl → Prop) (o : Out) : Prop := ∃ e, (o = .next e ∨ o = .cont e) ∧ P e
theorem Nx.next {P : List Sl → Prop} {e : List Sl} (h : P e) : Nx P (.next e) := ⟨e, .inl rfl, h⟩
theorem Nx.cont {P : List Sl → Prop} {e : List Sl} (h : P e) : Nx P (.cont e) := ⟨e, .inr rfl, h⟩
theorem for_post {F : Nat → List D → R D} {tg : Tg} {b ss : Ss} {ds : List D} {env : List Sl} {Q : Out → Prop} (I : Nat → List Sl → Prop) (h0 : I 0 env)
    (h : ∀ k d e, ds[k]? = some d → I k e → ∃ e2, setT e tg d = .ok e2 ∧ Nx (I (k + 1)) (evSs F e2 b))
    (hf : ∀ e, I ds.length e → Q (evSs F e ss)) : Q (goSs F ss (forS F tg b ds env)) := by
  obtain ⟨e, z1, z2⟩ := for_inv (F := F) (tg := tg) (b := b) I ds 0 h0 (fun k d e hd hi => by
    rw [Nat.zero_add] at hi ⊢
    obtain ⟨e2, s1, e3, s2, s3⟩ := h k d e hd hi
    exact ⟨e2, e3, s1, s2, s3⟩)
  rw [Nat.zero_add] at z2
  rw [z1, goSs_next]
  exact hf e z2
/-- goes on, for certain to the next row -/
def Nt (P : List Sl → Prop) (o : Out) : Prop := ∃ e, o = .next e ∧ P e
theorem Nt.mk {P : List Sl → Prop} {e : List Sl} (h : P e) : Nt P (.next e) := ⟨e, rfl, h⟩
theorem go_join {F : Nat → List D → R D} {Q : Out → Prop} {o : Out} {ss : Ss} (J : List Sl → Prop) (h : Nt J o) (hf : ∀ e, J e → Q (evSs F e ss)) : Q (goSs F ss o) := by
  obtain ⟨e, rfl, h⟩ := h
  exact hf e h
/-! ### comprehensions -/
def consR (a : R (Option D)) (r : R (List D)) : R (List D) := match a with
  | .ok o => (match r with
    | .ok r => .ok (match o with | some x => x :: r | none => r)
    | _ => .bad)
  | _ => .bad
theorem consR_s {x : D} {r : List D} : consR (.ok (some x)) (.ok r) = .ok (x :: r) := rfl
theorem consR_n {r : List D} : consR (.ok none) (.ok r) = .ok r := rfl
theorem lc_cons {F : Nat → List D → R D} {own : List Nat} {elt : E} {tg : Tg} {c : Eo} {env : List Sl} {d : D} {ds : List D} : lcS F own elt tg c env (d :: ds) = consR ((setT (wipeE env own) tg d).bind fun e2 => (evC F e2 c).bind fun b => if b = true then (ev F e2 elt).bind fun x => .ok (some x) else .ok none) (lcS F own elt tg c env ds) := by
  unfold lcS
  rw [lcGo]
  try rfl
/-- a comprehension without a test, item by item -/
theorem lc_map {F : Nat → List D → R D} {own : List Nat} {elt : E} {tg : Tg} {env : List Sl} (f : D → D) : ∀ {ds : List D}, (∀ d ∈ ds, ∃ e2, setT (wipeE env own) tg d = .ok e2 ∧ ev F e2 elt = .ok (f d)) → lcS F own elt tg .no env ds = .ok (ds.map f)
  | [], _ => lc_nil
  | d :: ds, h => by
    obtain ⟨e2, h1, h2⟩ := h d List.mem_cons_self
    rw [lc_cons, h1, lc_map f fun d hd => h d (List.mem_cons_of_mem _ hd)]
    simp only [bind_ok, ec_no, if_true, h2, consR_s, List.map_cons]
theorem bf_all {l : List D} : bfR .all [.list l] = (ofO (blsOf l)).bind fun bs => .ok (.bool (bs.all id)) := rfl
theorem bf_any {l : List D} : bfR .any [.list l] = (ofO (blsOf l)).bind fun bs => .ok (.bool (bs.any id)) := rfl
theorem bf_sum {l : List D} : bfR .sum [.list l] = (ofO (intsOf l)).bind fun bs => .ok (.int bs.sum) := rfl
theorem bf_tup {l : List D} : bfR .tuple [.list l] = .ok (.tuple l) := rfl
theorem ofO_some {A : Type} {a : A} : ofO (some a) = .ok a := rfl
theorem bls_nil : blsOf [] = some [] := rfl
theorem bls_cons {b : Bool} {l : List D} : blsOf (.bool b :: l) = (blsOf l).map fun r => b :: r := rfl
theorem ints_nil : intsOf [] = some [] := rfl
theorem ints_cons {b : Int} {l : List D} : intsOf (.int b :: l) = (intsOf l).map fun r => b :: r := rfl
theorem seq_lst {l : List D} : seqR (.list l) = .ok l := rfl
theorem seq_tup {l : List D} : seqR (.tuple l) = .ok l := rfl
theorem ixL0 {a : D} {l : List D} : ixR (.list (a :: l)) (.int 0) = .ok a := ix_nat (k := 0)
theorem ixL1 {a b : D} {l : List D} : ixR (.list (a :: b :: l)) (.int 1) = .ok b := ix_nat (k := 1)
theorem ixL2 {a b c : D} {l : List D} : ixR (.list (a :: b :: c :: l)) (.int 2) = .ok c := ix_nat (k := 2)
theorem ixL3 {a b c d : D} {l : List D} : ixR (.list (a :: b :: c :: d :: l)) (.int 3) = .ok d := ix_nat (k := 3)
theorem isi_bi {i : Int} : isiR .bool (.int i) = .ok (.bool false) := rfl
theorem isi_bb {i : Bool} : isiR .bool (.bool i) = .ok (.bool true) := rfl
theorem isi_ii {i : Int} : isiR .int (.int i) = .ok (.bool true) := rfl
theorem isi_ib {i : Bool} : isiR .int (.bool i) = .ok (.bool true) := rfl
theorem isi_tt {l : List D} : isiR .tuple (.tuple l) = .ok (.bool true) := rfl
/-! ### lists of one's own -/
def see1 (env : List Sl) (i : Nat) : List Sl := match env[i]? with
  | some (.ow ds) => env.set i (.fr (.list ds))
  | _ => env
theorem see_cons {env : List Sl} {i : Nat} {l : List Nat} : see env (i :: l) = see (see1 env i) l := by
  rw [see]
  try rfl
theorem see1_ow {env : List Sl} {ds : List D} : see1 (.ow ds :: env) 0 = .fr (.list ds) :: env := rfl
theorem see1_fr {env : List Sl} {d : D} : see1 (.fr d :: env) 0 = .fr d :: env := rfl
theorem see1_no {env : List Sl} : see1 (.no :: env) 0 = .no :: env := rfl
theorem see1_S {env : List Sl} {x : Sl} {i : Nat} : see1 (x :: env) (i + 1) = x :: see1 env i := by
  unfold see1
  rw [List.getElem?_cons_succ]
  cases env[i]? with
  | none => rfl
  | some y => cases y <;> rfl
def owOf (env : List Sl) (i : Nat) : Option (List D) := match env[i]? with
  | some (.ow ds) => some ds
  | _ => none
theorem ow_0 {env : List Sl} {ds : List D} : owOf (.ow ds :: env) 0 = some ds := rfl
theorem ow_S {env : List Sl} {x : Sl} {i : Nat} : owOf (x :: env) (i + 1) = owOf env i := rfl
def appO (o : Option (List D)) (env env2 : List Sl) (i : Nat) (r : R D) : Out := match o with
  | some ds => onR env r fun d => if ds.length < sizeLine then .next (env2.set i (.ow (ds ++ [d]))) else .bad
  | none => .bad
theorem s_app' {F : Nat → List D → R D} {env : List Sl} {i : Nat} {ms : List Nat} {e : E} : evS F env (.app i ms e) = appO (owOf env i) env (see env ms) i (ev F (see env ms) e) := by
  simp only [evS] <;> (unfold owOf appO; (cases env[i]? with
  | none => rfl
  | some y => cases y <;> rfl))
theorem app_some {env env2 : List Sl} {ds : List D} {i : Nat} {d : D} : appO (some ds) env env2 i (.ok d) = if ds.length < sizeLine then .next (env2.set i (.ow (ds ++ [d]))) else .bad := rfl
theorem app_exc {env env2 : List Sl} {ds : List D} {i : Nat} {c : Str} : appO (some ds) env env2 i (.exc c) = .exc c env := rfl
def asgLO (i : Nat) (env : List Sl) : D → Out
  | .list ds => .next (env.set i (.ow ds))
  | _ => .bad
theorem s_asgL2 {F : Nat → List D → R D} {env : List Sl} {i : Nat} {ms : List Nat} {e : E} : evS F env (.asgL i ms e) = onR env (ev F (see env ms) e) (asgLO i (see env ms)) := by
  rw [s_asgL']
  congr 1 <;> (funext d; cases d <;> rfl)
theorem asgL_ok {i : Nat} {env : List Sl} {ds : List D} : asgLO i env (.list ds) = .next (env.set i (.ow ds)) := rfl
/-! ### turned about, the greatest, words of a dict, an item put in another's place -/
theorem e_rev' {F : Nat → List D → R D} {env : List Sl} {a : E} : ev F env (.rev a) = (ev F env a).bind revR := by simp only [ev] <;> rfl
theorem e_lens' {F : Nat → List D → R D} {env : List Sl} {a : E} : ev F env (.lens a) = (ev F env a).bind lensR := by simp only [ev] <;> rfl
theorem e_lcx' {F : Nat → List D → R D} {env : List Sl} {own : List Nat} {elt : E} {tg : Tg} {it : It} : ev F env (.lcx own elt tg it) = (evI F env it).bind fun ds => (lcGoX (fun d => (setT (wipeE env own) tg d).bind fun e2 => ev F e2 elt) ds).bind fun l => .ok (.list l) := by simp only [ev] <;> rfl
theorem e_orv' {F : Nat → List D → R D} {env : List Sl} {a b : E} : ev F env (.orv a b) = (ev F env a).bind fun x => match truD x with | some true => .ok x | some false => ev F env b | none => .bad := by simp only [ev] <;> rfl
theorem e_cnt' {F : Nat → List D → R D} {env : List Sl} {i : Nat} {b : E} : ev F env (.cnt i b) = (getV env i).bind fun x => (lstR x).bind fun l => (ev F env b).bind fun y => cntR l y := by simp only [ev] <;> rfl
theorem e_mx0' {F : Nat → List D → R D} {env : List Sl} {a : E} : ev F env (.mx0 a) = (ev F env a).bind mx0R := by simp only [ev] <;> rfl
theorem e_ins' {F : Nat → List D → R D} {env : List Sl} {a : E} {j : Nat} : ev F env (.ins a j) = (ev F env a).bind (insR j) := by simp only [ev] <;> rfl
theorem rev_lst {l : List D} : revR (.list l) = .ok (.list l.reverse) := rfl
theorem mx0_lst {l : List D} : mx0R (.list l) = (ofO (intsOf l)).bind fun ns => .ok (.int (mxL ns)) := rfl
def setCO (o : Option (List D)) (env : List Sl) (i a b : Nat) : Out := match o with
  | some ds => (match ds[b]? with
    | some d => if a < ds.length then .next (env.set i (.ow (ds.set a d))) else .bad
    | none => .bad)
  | none => .bad
theorem s_setC' {F : Nat → List D → R D} {env : List Sl} {i a b : Nat} : evS F env (.setC i a b) = setCO (owOf env i) env i a b := by
  simp only [evS] <;> (unfold owOf setCO; (cases env[i]? with
  | none => rfl
  | some y => cases y <;> rfl))
theorem setC_some {env : List Sl} {ds : List D} {i a b : Nat} {d : D} (h : ds[b]? = some d) (ha : a < ds.length) : setCO (some ds) env i a b = .next (env.set i (.ow (ds.set a d))) := by
  unfold setCO
  dsimp only
  rw [h]
  dsimp only
  rw [if_pos ha]
end Cw

set_option Elab.async false
set_option linter.all false
set_option maxRecDepth 100000
set_option maxHeartbeats 4000000
namespace Cw
open PySem

local macro_rules | `(tactic| walk_at "cw") => `(tactic| simp -implicitDefEqProofs only [ss_nil, ss_cons, goSs_next, goSs_ret, goSs_exc, goSs_brk, goSs_cont, s_asg', s_asgL2, asgL_ok, see_cons, see1_ow, see1_fr, see1_no, see1_S, ow_0, ow_S, s_app', app_some, app_exc, s_asgT', s_par', s_ret', s_iff', s_whl', s_for', s_rais', s_expr', s_brk', s_cont', s_pass', s_try', s_tryW', tryW_ret, tryW_next, tryW_exc, tryN_ret, tryN_next, tryN_exc,
  e_k, e_v, e_g, e_tup', e_lst', e_bin', e_neg', e_not', e_and', e_or', e_cmp', e_cmp2', e_ife', e_ix', e_sl', e_call', e_bf', e_isi', e_lc', es_nil, es_cons, and_one, and_cons, or_one, or_cons, eo_no, eo_yes, ec_no, ec_yes, ei_seq, ei_rng1, ei_rng2, ei_zip, ei_enum,
  gv0, gvS, see0, fl_int, fl_bool, fl_str, fl_none, fl_tup, fl_lst, bind_ok, bind_bad, bind_exc, onR_ok, onR_exc, onR_bad, toB_bool, toB_exc, eq_int, ne_int, lt_int', le_int', gt_int', ge_int', add_int', sub_int', bf_abs, bf_max, bf_min, bf_len, bf_lenT, bf_int, bf_intB,
  startE, List.map_cons, List.map_nil, List.length_cons, List.length_map, List.length_nil, List.cons_append, List.nil_append, List.set_cons_zero, List.set_cons_succ, List.replicate, Nat.sub_self, Nat.reduceSub, Nat.reduceAdd, if_true, if_false, Bool.false_eq_true, reduceIte, ixT0, ixT1, ixT2, outR_ret, outR_next, outR_exc, setT, setMany, wipeE, rng1_ok, rng2_ok, not_ok, neg_ok, and_t, and_f, and_ok, and_x, or_t, or_f, or_ok, or_x, ife_b, Bool.not_true, Bool.not_false, Bool.true_and, Bool.and_true, Bool.false_and, Bool.and_false, Bool.true_or, Bool.or_true, Bool.false_or, Bool.or_false, decide_true, decide_false, beq_self_eq_true, Int.reduceBEq, Int.reduceLT, Int.reduceLE, Int.reduceAdd, Int.reduceSub, Int.reduceNeg, Int.cast_ofNat_Int, ite_self, lc_nil, lc_cons, consR_s, consR_n, bf_all, bf_any, bf_sum, bf_tup, ofO_some, bls_nil, bls_cons, ints_nil, ints_cons, Option.map_some, seq_lst, seq_tup, ixL0, ixL1, ixL2, ixL3, isi_bi, isi_bb, isi_ii, isi_ib, isi_tt, List.all_cons, List.all_nil, id, pw_10_11, pw_10_12, pw_10_13, pw_10_30, pw_10_40, pw_10_6, pw_10_9, pw_2_8, pw_2_10, pw_2_12, pw_2_13, pw_2_14, pw_2_15, pw_2_16, pw_2_17, pw_2_18, pw_2_20, pw_2_24, pw_2_25, pw_2_27, pw_2_28, pw_2_30, pw_2_32, pw_2_34, pw_2_36, pw_2_38, pw_2_40, pw_2_41, pw_2_42, pw_2_44, pw_2_50, pw_2_54, pw_2_56, pw_2_60])
local macro_rules | `(tactic| walk_at "cw*") => `(tactic| simp -implicitDefEqProofs only [*, ss_nil, ss_cons, goSs_next, goSs_ret, goSs_exc, goSs_brk, goSs_cont, s_asg', s_asgL2, asgL_ok, see_cons, see1_ow, see1_fr, see1_no, see1_S, ow_0, ow_S, s_app', app_some, app_exc, s_asgT', s_par', s_ret', s_iff', s_whl', s_for', s_rais', s_expr', s_brk', s_cont', s_pass', s_try', s_tryW', tryW_ret, tryW_next, tryW_exc, tryN_ret, tryN_next, tryN_exc,
  e_k, e_v, e_g, e_tup', e_lst', e_bin', e_neg', e_not', e_and', e_or', e_cmp', e_cmp2', e_ife', e_ix', e_sl', e_call', e_bf', e_isi', e_lc', es_nil, es_cons, and_one, and_cons, or_one, or_cons, eo_no, eo_yes, ec_no, ec_yes, ei_seq, ei_rng1, ei_rng2, ei_zip, ei_enum,
  gv0, gvS, see0, fl_int, fl_bool, fl_str, fl_none, fl_tup, fl_lst, bind_ok, bind_bad, bind_exc, onR_ok, onR_exc, onR_bad, toB_bool, toB_exc, eq_int, ne_int, lt_int', le_int', gt_int', ge_int', add_int', sub_int', bf_abs, bf_max, bf_min, bf_len, bf_lenT, bf_int, bf_intB,
  startE, List.map_cons, List.map_nil, List.length_cons, List.length_map, List.length_nil, List.cons_append, List.nil_append, List.set_cons_zero, List.set_cons_succ, List.replicate, Nat.sub_self, Nat.reduceSub, Nat.reduceAdd, if_true, if_false, Bool.false_eq_true, reduceIte, ixT0, ixT1, ixT2, outR_ret, outR_next, outR_exc, setT, setMany, wipeE, rng1_ok, rng2_ok, not_ok, neg_ok, and_t, and_f, and_ok, and_x, or_t, or_f, or_ok, or_x, ife_b, Bool.not_true, Bool.not_false, Bool.true_and, Bool.and_true, Bool.false_and, Bool.and_false, Bool.true_or, Bool.or_true, Bool.false_or, Bool.or_false, decide_true, decide_false, beq_self_eq_true, Int.reduceBEq, Int.reduceLT, Int.reduceLE, Int.reduceAdd, Int.reduceSub, Int.reduceNeg, Int.cast_ofNat_Int, ite_self, lc_nil, lc_cons, consR_s, consR_n, bf_all, bf_any, bf_sum, bf_tup, ofO_some, bls_nil, bls_cons, ints_nil, ints_cons, Option.map_some, seq_lst, seq_tup, ixL0, ixL1, ixL2, ixL3, isi_bi, isi_bb, isi_ii, isi_ib, isi_tt, List.all_cons, List.all_nil, id, pw_10_11, pw_10_12, pw_10_13, pw_10_30, pw_10_40, pw_10_6, pw_10_9, pw_2_8, pw_2_10, pw_2_12, pw_2_13, pw_2_14, pw_2_15, pw_2_16, pw_2_17, pw_2_18, pw_2_20, pw_2_24, pw_2_25, pw_2_27, pw_2_28, pw_2_30, pw_2_32, pw_2_34, pw_2_36, pw_2_38, pw_2_40, pw_2_41, pw_2_42, pw_2_44, pw_2_50, pw_2_54, pw_2_56, pw_2_60])
def d_common : Def := ⟨2, 2, (.cons (.par 0 1 [] (.bf .abs (.cons (.v 0) .nil)) (.bf .abs (.cons (.v 1) .nil))) (.cons (.whl [] (.cmp .ne (.v 1) (.k (.int 0))) (.cons (.par 0 1 [] (.v 1) (.bin .mod (.v 0) (.v 1))) .nil)) (.cons (.ret [] (.v 0)) .nil)))⟩
def d_fraction : Def := ⟨2, 3, (.cons (.iff [] (.cmp .eq (.v 1) (.k (.int 0))) (.cons (.rais "NoFraction") .nil) .nil) (.cons (.asg 2 [] (.call 10 (.cons (.v 0) (.cons (.v 1) .nil)))) (.cons (.iff [] (.cmp .lt (.v 1) (.k (.int 0))) (.cons (.asg 2 [] (.bin .sub (.k (.int 0)) (.v 2))) .nil) .nil) (.cons (.ret [] (.tup (.cons (.bin .fdiv (.v 0) (.v 2)) (.cons (.bin .fdiv (.v 1) (.v 2)) .nil)))) .nil))))⟩
def d_is_whole : Def := ⟨1, 1, (.cons (.ret [] (.and (.cons (.isi (.v 0) .int) (.cons (.not (.isi (.v 0) .bool)) .nil)))) .nil)⟩
def d_is_fraction : Def := ⟨1, 1, (.cons (.iff [] (.or (.cons (.not (.isi (.v 0) .tuple)) (.cons (.cmp .ne (.bf .len (.cons (.v 0) .nil)) (.k (.int 2))) (.cons (.not (.call 12 (.cons (.ix (.v 0) (.k (.int 0))) .nil))) (.cons (.not (.call 12 (.cons (.ix (.v 0) (.k (.int 1))) .nil))) .nil))))) (.cons (.ret [] (.k (.bool false))) .nil) .nil) (.cons (.ret [] (.and (.cons (.cmp .gt (.ix (.v 0) (.k (.int 1))) (.k (.int 0))) (.cons (.cmp .eq (.call 10 (.cons (.ix (.v 0) (.k (.int 0))) (.cons (.ix (.v 0) (.k (.int 1))) .nil))) (.k (.int 1))) .nil)))) .nil))⟩
def d_opposite : Def := ⟨1, 1, (.cons (.ret [] (.tup (.cons (.bin .sub (.k (.int 0)) (.ix (.v 0) (.k (.int 0)))) (.cons (.ix (.v 0) (.k (.int 1))) .nil)))) .nil)⟩
def d_down_to : Def := ⟨2, 3, (.cons (.asg 2 [] (.bin .shl (.k (.int 1)) (.v 1))) (.cons (.ret [] (.call 11 (.cons (.bin .fdiv (.bin .mul (.ix (.v 0) (.k (.int 0))) (.v 2)) (.ix (.v 0) (.k (.int 1)))) (.cons (.v 2) .nil)))) .nil))⟩
def d_up_to : Def := ⟨2, 2, (.cons (.ret [] (.call 14 (.cons (.call 15 (.cons (.call 14 (.cons (.v 0) .nil)) (.cons (.v 1) .nil))) .nil))) .nil)⟩
def d_plus : Def := ⟨2, 2, (.cons (.ret [] (.call 11 (.cons (.bin .add (.bin .mul (.ix (.v 0) (.k (.int 0))) (.ix (.v 1) (.k (.int 1)))) (.bin .mul (.ix (.v 1) (.k (.int 0))) (.ix (.v 0) (.k (.int 1))))) (.cons (.bin .mul (.ix (.v 0) (.k (.int 1))) (.ix (.v 1) (.k (.int 1)))) .nil)))) .nil)⟩
def d_minus : Def := ⟨2, 2, (.cons (.ret [] (.call 17 (.cons (.v 0) (.cons (.call 14 (.cons (.v 1) .nil)) .nil)))) .nil)⟩
def d_times : Def := ⟨2, 2, (.cons (.ret [] (.call 11 (.cons (.bin .mul (.ix (.v 0) (.k (.int 0))) (.ix (.v 1) (.k (.int 0)))) (.cons (.bin .mul (.ix (.v 0) (.k (.int 1))) (.ix (.v 1) (.k (.int 1)))) .nil)))) .nil)⟩
def d_over : Def := ⟨2, 2, (.cons (.ret [] (.call 11 (.cons (.bin .mul (.ix (.v 0) (.k (.int 0))) (.ix (.v 1) (.k (.int 1)))) (.cons (.bin .mul (.ix (.v 0) (.k (.int 1))) (.ix (.v 1) (.k (.int 0)))) .nil)))) .nil)⟩
def d_power : Def := ⟨2, 5, (.cons (.asg 2 [] (.k (.int 1))) (.cons (.asg 3 [] (.k (.int 1))) (.cons (.for_ [] (.one 4) (.rng1 (.v 1)) (.cons (.asg 2 [] (.bin .mul (.v 2) (.ix (.v 0) (.k (.int 0))))) (.cons (.asg 3 [] (.bin .mul (.v 3) (.ix (.v 0) (.k (.int 1))))) .nil))) (.cons (.ret [] (.tup (.cons (.v 2) (.cons (.v 3) .nil)))) .nil))))⟩
def d_order_of : Def := ⟨2, 4, (.cons (.asg 2 [] (.bin .mul (.ix (.v 0) (.k (.int 0))) (.ix (.v 1) (.k (.int 1))))) (.cons (.asg 3 [] (.bin .mul (.ix (.v 1) (.k (.int 0))) (.ix (.v 0) (.k (.int 1))))) (.cons (.ret [] (.bin .sub (.bf .int (.cons (.cmp .gt (.v 2) (.v 3)) .nil)) (.bf .int (.cons (.cmp .lt (.v 2) (.v 3)) .nil)))) .nil)))⟩
def d_law_cell : Def := ⟨2, 2, (.cons (.iff [] (.cmp .eq (.v 0) (.lst .nil)) (.cons (.ret [] (.bin .mul (.v 1) (.k (.int 7919)))) .nil) .nil) (.cons (.ret [] (.bin .add (.ix (.v 0) (.bin .mod (.v 1) (.bf .len (.cons (.v 0) .nil)))) (.bin .mul (.bin .fdiv (.v 1) (.bf .len (.cons (.v 0) .nil))) (.k (.int 104729))))) .nil))⟩
def d_law_drawn : Def := ⟨2, 3, (.cons (.asg 2 [] (.bin .mod (.bin .add (.bin .mul (.v 0) (.k (.int 6364136223846793005))) (.bin .mul (.bin .add (.v 1) (.k (.int 1))) (.k (.int 1442695040888963407)))) (.k (.int 340282366920938463463374607431768211507)))) (.cons (.asg 2 [] (.bin .mod (.bin .mul (.v 2) (.v 2)) (.k (.int 340282366920938463463374607431768211297)))) (.cons (.asg 2 [] (.bin .mul (.bin .mul (.bin .add (.bin .mod (.v 2) (.k (.int 18446744073709551557))) (.k (.int 1))) (.bin .add (.bin .fdiv (.v 2) (.k (.int 18446744073709551557))) (.k (.int 1)))) (.v 2))) (.cons (.ret [] (.bin .mod (.v 2) (.k (.int 340282366920938463463374607431768211507)))) .nil))))⟩
def d_law_made : Def := ⟨2, 4, (.cons (.par 2 3 [] (.bf .abs (.cons (.v 0) .nil)) (.v 1)) (.cons (.whl [] (.cmp .gt (.v 3) (.k (.int 0))) (.cons (.par 2 3 [] (.v 3) (.bin .mod (.v 2) (.v 3))) .nil)) (.cons (.ret [] (.tup (.cons (.bin .fdiv (.v 0) (.v 2)) (.cons (.bin .fdiv (.v 1) (.v 2)) .nil)))) .nil)))⟩
def d_law_fraction : Def := ⟨1, 2, (.cons (.asg 1 [] (.ix (.lst (.cons (.bin .sub (.bin .mod (.v 0) (.k (.int 13))) (.k (.int 6))) (.cons (.bin .sub (.bin .mod (.v 0) (.k (.int 2001))) (.k (.int 1000))) (.cons (.k (.int 0)) (.cons (.bin .sub (.bin .mod (.v 0) (.bin .mul (.k (.int 2)) (.bin .pow (.k (.int 10)) (.k (.int 11))))) (.bin .pow (.k (.int 10)) (.k (.int 11)))) .nil))))) (.bin .mod (.bin .fdiv (.v 0) (.bin .pow (.k (.int 2)) (.k (.int 40)))) (.k (.int 4))))) (.cons (.ret [] (.call 1002 (.cons (.v 1) (.cons (.ix (.lst (.cons (.k (.int 1)) (.cons (.bin .add (.k (.int 1)) (.bin .mod (.bin .fdiv (.v 0) (.bin .pow (.k (.int 2)) (.k (.int 42)))) (.k (.int 9)))) (.cons (.bin .add (.k (.int 1)) (.bin .mod (.bin .fdiv (.v 0) (.bin .pow (.k (.int 2)) (.k (.int 42)))) (.k (.int 1000)))) .nil)))) (.bin .mod (.bin .fdiv (.v 0) (.bin .pow (.k (.int 2)) (.k (.int 56)))) (.k (.int 3)))) .nil)))) .nil))⟩
def b1 : List (Nat × Def) := [(10, d_common), (11, d_fraction), (12, d_is_whole), (13, d_is_fraction), (14, d_opposite), (15, d_down_to), (16, d_up_to), (17, d_plus), (18, d_minus), (19, d_times), (20, d_over), (21, d_power), (22, d_order_of), (1000, d_law_cell), (1001, d_law_drawn), (1002, d_law_made), (1003, d_law_fraction)]
theorem gcd_loop {F : Nat → List D → R D} : ∀ (y x : Nat), whlS F [] (.cmp .ne (.v 1) (.k (.int 0))) (.cons (.par 0 1 [] (.v 1) (.bin .mod (.v 0) (.v 1))) .nil) [.fr (.int x), .fr (.int y)] = .next [.fr (.int (Nat.gcd x y)), .fr (.int 0)] := by
  intro y
  induction y using Nat.strongRecOn with
  | ind y ih =>
    intro x
    unfold whlS
    by_cases h : y = 0
    · subst h
      rw [whl_stop (by rfl)]
      simp
    · have hm : opR .mod (.int (x : Int)) (.int (y : Int)) = .ok (.int ((x % y : Nat) : Int)) := by
        rw [mod_pos (by omega)]; rfl
      have hy : ((y : Int) == 0) = false := by simpa using h
      rw [whl_next (e := [.fr (.int y), .fr (.int ((x % y : Nat) : Int))]) (by walk_at "cw"; rw [hy]; rfl) (by walk_at "cw"; rw [hm]; rfl)]
      have z := ih (x % y) (Nat.mod_lt _ (by omega)) y
      unfold whlS at z
      rw [z, Nat.gcd_comm x y, Nat.gcd_rec y x, Nat.gcd_comm]

/-! ### tables -/
def tab (l : List (Nat × Def)) (i : Nat) : Option Def := (l.find? fun p => p.1 == i).map (·.2)
class Lay (l : List (Nat × Def)) (T : Nat → Option Def) : Prop where
  ext : ∀ i d, tab l i = some d → T i = some d
theorem tab_mem {l : List (Nat × Def)} {i : Nat} {d : Def} (h : tab l i = some d) : (i, d) ∈ l := by
  unfold tab at h
  cases q : l.find? (fun p => p.1 == i) with
  | none => rw [q] at h; cases h
  | some p =>
    rw [q] at h
    have h1 := List.find?_some q
    have h2 := List.mem_of_find?_eq_some q
    have e1 : p.1 = i := by simpa using h1
    have e2 : p.2 = d := Option.some.inj h
    rw [← e1, ← e2]
    exact h2
theorem tab_of {l : List (Nat × Def)} : ∀ (_ : (l.map (·.1)).Nodup) {i : Nat} {d : Def}, (i, d) ∈ l → tab l i = some d := by
  induction l with
  | nil => intro _ i d h; cases h
  | cons p l ih =>
    intro hn i d h
    rw [List.map_cons, List.nodup_cons] at hn
    rcases List.mem_cons.mp h with h | h
    · rw [← h]; unfold tab; simp
    · have hne : p.1 ≠ i := fun e => hn.1 (by rw [e]; exact List.mem_map.mpr ⟨(i, d), h, rfl⟩)
      have := ih hn.2 h
      unfold tab at this ⊢
      rw [List.find?_cons_of_neg (by simpa using hne)]
      exact this
theorem Lay.of {l all : List (Nat × Def)} (hn : (all.map (·.1)).Nodup) (hs : ∀ p, p ∈ l → p ∈ all) : Lay l (tab all) := ⟨fun _ _ h => tab_of hn (hs _ (tab_mem h))⟩
theorem evc_b (l : List (Nat × Def)) {T : Nat → Option Def} [he : Lay l T] {n i : Nat} {d : Def} {ds : List D} (h : tab l i = some d) (hl : ds.length = d.ps) : evc T (n + 1) i ds = outR (evSs (evc T n) (startE d.sl ds) d.body) :=
  haveI : Fn T i d := ⟨he.ext i d h⟩
  evc_run hl

/-! ### sizes -/
def Sz (n : Nat) (a : Int) : Prop := a.natAbs < 2 ^ n
theorem Sz.bits {n : Nat} {a : Int} (h : Sz n a) : Builtin.Int.intBits a ≤ n := by
  unfold Builtin.Int.intBits
  split
  · exact Nat.zero_le _
  · rename_i q
    have q : a.natAbs ≠ 0 := by simpa using q
    have := (Nat.log2_lt q).mpr h
    omega
theorem mul_ok {m n : Nat} {a b : Int} (ha : Sz m a) (hb : Sz n b) (h : m + n ≤ 134217728) : MulOk a b := by
  have h1 := ha.bits
  have h2 := hb.bits
  have e : bitsLine = 134217728 := by decide
  unfold MulOk IntMulOk
  intro z
  rw [Bool.and_eq_true] at z
  have z2 := z.2
  unfold Builtin.Int.intTooBig at z2
  have z3 := of_decide_eq_true z2
  rw [e] at z3
  omega
theorem mul_sz {m n : Nat} {a b : Int} (ha : Sz m a) (hb : Sz n b) (h : m + n ≤ 134217728) : opR .mul (.int a) (.int b) = .ok (.int (a * b)) := mul_int' (mul_ok ha hb h)
theorem mul_r {a b : Int} (h : b.natAbs < 2 ^ 64) : opR .mul (.int a) (.int b) = .ok (.int (a * b)) := mul_int' (IntMulOk.of_right (intBits_le_64 (by omega) (by omega)))
theorem mul_l {a b : Int} (h : a.natAbs < 2 ^ 64) : opR .mul (.int a) (.int b) = .ok (.int (a * b)) := mul_int' (IntMulOk.of_left (intBits_le_64 (by omega) (by omega)))
theorem Sz.mono {m n : Nat} {a : Int} (h : Sz m a) (hm : m ≤ n) : Sz n a := Nat.lt_of_lt_of_le h (Nat.pow_le_pow_right (by omega) hm)
theorem Sz.mul {m n : Nat} {a b : Int} (ha : Sz m a) (hb : Sz n b) : Sz (m + n) (a * b) := by
  unfold Sz
  rw [Int.natAbs_mul, Nat.pow_add]
  exact Nat.mul_lt_mul'' ha hb
theorem Sz.add {m n k : Nat} {a b : Int} (ha : Sz m a) (hb : Sz n b) (h1 : m < k) (h2 : n < k) : Sz k (a + b) := by
  unfold Sz
  have x : a.natAbs < 2 ^ (k - 1) := ha.mono (by omega)
  have y : b.natAbs < 2 ^ (k - 1) := hb.mono (by omega)
  have e : 2 ^ k = 2 ^ (k - 1) * 2 := by rw [← Nat.pow_succ]; congr 1; omega
  omega
theorem Sz.neg {n : Nat} {a : Int} (h : Sz n a) : Sz n (-a) := by unfold Sz at *; omega
theorem Sz.le {n : Nat} {a b : Int} (h : Sz n b) (hl : a.natAbs ≤ b.natAbs) : Sz n a := Nat.lt_of_le_of_lt hl h
structure Qz (n : Nat) (q : Rat) : Prop where
  num : Sz n q.num
  den : Sz n (q.den : Int)
theorem Qz.mono {m n : Nat} {q : Rat} (h : Qz m q) (hm : m ≤ n) : Qz n q := ⟨h.num.mono hm, h.den.mono hm⟩
theorem Qz.neg {n : Nat} {q : Rat} (h : Qz n q) : Qz n (-q) := ⟨by rw [Rat.neg_num]; exact h.num.neg, h.den⟩
theorem den_pos (q : Rat) : 0 < (q.den : Int) := by have := q.den_nz; omega
theorem Qz.divInt {n : Nat} {a b : Int} (ha : Sz n a) (hb : Sz n b) (h1 : 1 ≤ n) : Qz n (Rat.divInt a b) := by
  constructor
  · rw [Rat.num_divInt]
    refine ha.le ?_
    refine Nat.le_trans (Int.natAbs_ediv_le_natAbs _ _) ?_
    rw [Int.natAbs_mul]
    have : b.sign.natAbs ≤ 1 := by rw [Int.natAbs_sign]; split <;> omega
    exact Nat.le_trans (Nat.mul_le_mul_right _ this) (by omega)
  · rw [Rat.den_divInt]
    split
    · unfold Sz; exact Nat.one_lt_two_pow (by omega)
    · refine hb.le ?_
      show b.natAbs / _ ≤ _
      exact Nat.div_le_self _ _
theorem Sz.pos {n : Nat} {a : Int} (h : Sz n a) (h0 : a ≠ 0) : 1 ≤ n := by
  unfold Sz at h
  cases n with
  | zero => simp at h; omega
  | succ n => omega
theorem Qz.one_le {n : Nat} {q : Rat} (h : Qz n q) : 1 ≤ n := h.den.pos (by have := den_pos q; omega)
theorem add_div (p q : Rat) : p + q = Rat.divInt (p.num * q.den + q.num * p.den) (p.den * q.den) := by
  rw [Rat.add_def', ← Rat.divInt_ofNat]; simp
theorem mul_div (p q : Rat) : p * q = Rat.divInt (p.num * q.num) (p.den * q.den) := by
  rw [Rat.mul_def', ← Rat.divInt_ofNat]; simp
theorem div_div (p q : Rat) : p / q = Rat.divInt (p.num * q.den) (p.den * q.num) := by
  rw [Rat.div_def, Rat.inv_def]
  conv => lhs; rw [← Rat.num_divInt_den p]
  rw [Rat.divInt_mul_divInt]
theorem Qz.add {m n : Nat} {p q : Rat} (h : Qz m p) (g : Qz n q) : Qz (m + n + 1) (p + q) := by
  rw [add_div]
  exact Qz.divInt (Sz.add (h.num.mul g.den) (g.num.mul h.den) (by omega) (by omega)) ((h.den.mul g.den).mono (by omega)) (by omega)
theorem Qz.sub {m n : Nat} {p q : Rat} (h : Qz m p) (g : Qz n q) : Qz (m + n + 1) (p - q) := by
  rw [Rat.sub_eq_add_neg]; exact h.add g.neg
theorem Qz.mul {m n : Nat} {p q : Rat} (h : Qz m p) (g : Qz n q) : Qz (m + n) (p * q) := by
  rw [mul_div]
  exact Qz.divInt (h.num.mul g.num) (h.den.mul g.den) (by have := h.one_le; omega)
theorem Qz.div {m n : Nat} {p q : Rat} (h : Qz m p) (g : Qz n q) : Qz (m + n) (p / q) := by
  rw [div_div]
  exact Qz.divInt (h.num.mul g.den) (h.den.mul g.num) (by have := h.one_le; omega)
theorem Sz.pow {n : Nat} {a : Int} (h : Sz n a) : ∀ k, Sz (n * k + 1) (a ^ k)
  | 0 => by unfold Sz; simp
  | k + 1 => by
    rw [Int.pow_succ]
    exact ((Sz.pow h k).mul h).mono (by rw [Nat.mul_add]; omega)
theorem Qz.pow {n : Nat} {q : Rat} (h : Qz n q) (k : Nat) : Qz (n * k + 1) (q ^ k) := by
  constructor
  · rw [Rat.num_pow]; exact h.num.pow k
  · rw [Rat.den_pow, Int.natCast_pow]; exact h.den.pow k

/-! ### fractions -/
def fr (q : Rat) : D := .tuple [.int q.num, .int q.den]
theorem fl_fr {q : Rat} : flatD (fr q) = false := rfl
theorem ix_fr0 {q : Rat} : ixR (fr q) (.int 0) = .ok (.int q.num) := rfl
theorem ix_fr1 {q : Rat} : ixR (fr q) (.int 1) = .ok (.int q.den) := rfl
theorem sh_fr (q : Rat) : SeqAt.shaped (fr q) = true := rfl
theorem eqv_fr (p q : Rat) : PyData.eqv (fr p) (fr q) = decide (p = q) := by
  have e : PyData.eqv (fr p) (fr q) = ((p.num == q.num) && (((p.den : Int) == (q.den : Int)) && true)) := rfl
  rw [e, Bool.and_true]
  by_cases h : p = q
  · subst h; simp
  · rw [decide_eq_false h]
    cases h1 : (p.num == q.num) with
    | false => rfl
    | true =>
      cases h2 : ((p.den : Int) == (q.den : Int)) with
      | false => rfl
      | true =>
        exact (h (Rat.ext (by simpa using h1) (by have : (p.den : Int) = q.den := by simpa using h2
                                                  omega))).elim
theorem eq_fr (p q : Rat) : cmR .eq (fr p) (fr q) = .ok (.bool (decide (p = q))) := by rw [eq_sh (sh_fr p) (sh_fr q), eqv_fr]
theorem ne_fr (p q : Rat) : cmR .ne (fr p) (fr q) = .ok (.bool (!decide (p = q))) := by rw [ne_sh (sh_fr p) (sh_fr q), eqv_fr]
def ordR (p q : Rat) : Int := if p < q then -1 else if q < p then 1 else 0
section
variable {T : Nat → Option Def} [Lay b1 T]
theorem common_ok (n : Nat) (a b : Int) : evc T (n + 1) 10 [.int a, .int b] = .ok (.int (Int.gcd a b)) := by
  rw [evc_b b1 rfl rfl]
  unfold d_common
  walk_at "cw"
  rw [gcd_loop]
  walk_at "cw"
  try rfl
theorem fraction_no (n : Nat) (t : Int) : evc T (n + 2) 11 [.int t, .int 0] = .exc "NoFraction" := by
  rw [evc_b b1 rfl rfl]
  unfold d_fraction
  walk_at "cw"
theorem fraction_ok (n : Nat) (t : Int) {u : Int} (hu : u ≠ 0) : evc T (n + 2) 11 [.int t, .int u] = .ok (fr (Rat.divInt t u)) := by
  have h0 : (u == 0) = false := by simpa using hu
  have hg : (Int.gcd t u : Int) ≠ 0 := by
    have := Int.gcd_pos_of_ne_zero_right t hu
    omega
  have d1 : (Int.gcd t u : Int) ∣ t := Int.gcd_dvd_left ..
  have d2 : (Int.gcd t u : Int) ∣ u := Int.gcd_dvd_right ..
  have e1 : (Rat.divInt t u).num = u.sign * t / (Int.gcd t u : Int) := by rw [Rat.num_divInt, Int.gcd_comm]
  have e2 : ((Rat.divInt t u).den : Int) = (u.natAbs : Int) / (Int.gcd t u : Int) := by
    rw [Rat.den_divInt, if_neg hu, Int.gcd_comm]; rfl
  rw [evc_b b1 rfl rfl]
  unfold d_fraction fr
  rw [e1, e2]
  clear e1 e2
  by_cases hn : u < 0
  · have hc := common_ok (T := T) n t u
    walk_at "cw*"
    rw [fdiv_int' (by omega), fdiv_int' (by omega)]
    walk_at "cw"
    rw [Int.fdiv_eq_ediv_of_dvd (by rw [Int.zero_sub]; exact Int.neg_dvd.mpr d1), Int.fdiv_eq_ediv_of_dvd (by rw [Int.zero_sub]; exact Int.neg_dvd.mpr d2), Int.zero_sub, Int.ediv_neg, Int.ediv_neg, Int.sign_eq_neg_one_of_neg hn]
    have x1 : -1 * t = -t := by omega
    have x2 : (u.natAbs : Int) = -u := by omega
    rw [x1, x2, Int.neg_ediv_of_dvd d1, Int.neg_ediv_of_dvd d2]
  · have hc := common_ok (T := T) n t u
    walk_at "cw*"
    rw [fdiv_int' (by omega), fdiv_int' (by omega)]
    walk_at "cw"
    rw [Int.fdiv_eq_ediv_of_dvd d1, Int.fdiv_eq_ediv_of_dvd d2, Int.sign_eq_one_of_pos (by omega)]
    have x2 : (u.natAbs : Int) = u := by omega
    rw [x2, Int.one_mul]
theorem is_whole_ok (n : Nat) (a : Int) : evc T (n + 1) 12 [.int a] = .ok (.bool true) := by
  rw [evc_b b1 rfl rfl]
  unfold d_is_whole
  walk_at "cw"
  try rfl
theorem is_fraction_ok (n : Nat) (q : Rat) : evc T (n + 2) 13 [fr q] = .ok (.bool true) := by
  rw [evc_b b1 rfl rfl]
  unfold d_is_fraction fr
  have h1 := den_pos q
  have h2 : Int.gcd q.num q.den = 1 := q.reduced
  have e : isiR .tuple (.tuple [.int q.num, .int q.den]) = .ok (.bool true) := rfl
  have hc := common_ok (T := T) n q.num q.den
  have h3 := fun i => is_whole_ok (T := T) n i
  walk_at "cw*"
theorem opposite_ok (n : Nat) (q : Rat) : evc T (n + 1) 14 [fr q] = .ok (fr (-q)) := by
  rw [evc_b b1 rfl rfl]
  unfold d_opposite fr
  walk_at "cw"
  rw [Int.zero_sub]
  rfl
theorem plus_ok (n : Nat) {p q : Rat} {a b : Nat} (hp : Qz a p) (hq : Qz b q) (h : a + b ≤ 134217728) : evc T (n + 3) 17 [fr p, fr q] = .ok (fr (p + q)) := by
  rw [evc_b b1 rfl rfl]
  unfold d_plus fr
  walk_at "cw"
  rw [mul_sz hp.num hq.den h, mul_sz hq.num hp.den (by omega), mul_sz hp.den hq.den h]
  walk_at "cw"
  rw [fraction_ok _ _ (Int.mul_ne_zero (Int.ne_of_gt (den_pos p)) (Int.ne_of_gt (den_pos q))), ← add_div]
  rfl
theorem minus_ok (n : Nat) {p q : Rat} {a b : Nat} (hp : Qz a p) (hq : Qz b q) (h : a + b ≤ 134217728) : evc T (n + 4) 18 [fr p, fr q] = .ok (fr (p - q)) := by
  rw [evc_b b1 rfl rfl]
  unfold d_minus
  walk_at "cw"
  rw [opposite_ok]
  walk_at "cw"
  rw [plus_ok _ hp hq.neg h, ← Rat.sub_eq_add_neg]
  rfl
theorem times_ok (n : Nat) {p q : Rat} {a b : Nat} (hp : Qz a p) (hq : Qz b q) (h : a + b ≤ 134217728) : evc T (n + 3) 19 [fr p, fr q] = .ok (fr (p * q)) := by
  rw [evc_b b1 rfl rfl]
  unfold d_times fr
  walk_at "cw"
  rw [mul_sz hp.num hq.num h, mul_sz hp.den hq.den h]
  walk_at "cw"
  rw [fraction_ok _ _ (Int.mul_ne_zero (Int.ne_of_gt (den_pos p)) (Int.ne_of_gt (den_pos q))), ← mul_div]
  rfl
theorem over_ok (n : Nat) {p q : Rat} {a b : Nat} (hp : Qz a p) (hq : Qz b q) (h : a + b ≤ 134217728) (h0 : q ≠ 0) : evc T (n + 3) 20 [fr p, fr q] = .ok (fr (p / q)) := by
  rw [evc_b b1 rfl rfl]
  unfold d_over fr
  walk_at "cw"
  rw [mul_sz hp.num hq.den h, mul_sz hp.den hq.num h]
  walk_at "cw"
  rw [fraction_ok _ _ (Int.mul_ne_zero (Int.ne_of_gt (den_pos p)) (fun e => h0 (Rat.num_eq_zero.mp e))), ← div_div]
  rfl
theorem over_no (n : Nat) {p : Rat} {a : Nat} (hp : Qz a p) (h : a + 1 ≤ 134217728) : evc T (n + 3) 20 [fr p, fr 0] = .exc "NoFraction" := by
  rw [evc_b b1 rfl rfl]
  unfold d_over fr
  walk_at "cw"
  rw [mul_sz hp.num (show Sz 1 ((0 : Rat).den : Int) from by unfold Sz; decide) h, mul_sz hp.den (show Sz 1 ((0 : Rat).num : Int) from by unfold Sz; decide) h]
  walk_at "cw"
  rw [Rat.zero_num, Int.mul_zero, fraction_no]
  rfl
theorem ord_int (p q : Rat) : (if p.num * q.den > q.num * p.den then (1 : Int) else 0) - (if p.num * q.den < q.num * p.den then (1 : Int) else 0) = ordR p q := by
  unfold ordR
  have h1 := Rat.lt_iff p q
  have h2 := Rat.lt_iff q p
  by_cases x : p < q
  · rw [if_pos x, if_neg (by have := h1.mp x; omega), if_pos (h1.mp x)]; rfl
  · rw [if_neg x]
    have x1 : ¬ p.num * q.den < q.num * p.den := fun z => x (h1.mpr z)
    by_cases y : q < p
    · rw [if_pos y, if_pos (h2.mp y), if_neg x1]; rfl
    · have y1 : ¬ q.num * p.den < p.num * q.den := fun z => y (h2.mpr z)
      rw [if_neg y, if_neg x1, if_neg y1]; rfl
theorem order_ok (n : Nat) {p q : Rat} {a b : Nat} (hp : Qz a p) (hq : Qz b q) (h : a + b ≤ 134217728) : evc T (n + 1) 22 [fr p, fr q] = .ok (.int (ordR p q)) := by
  rw [evc_b b1 rfl rfl, ← ord_int]
  unfold d_order_of fr
  walk_at "cw"
  rw [mul_sz hp.num hq.den h]
  walk_at "cw"
  rw [mul_sz hq.num hp.den (by omega)]
  walk_at "cw"
  simp only [decide_eq_true_eq]
end
end Cw

set_option Elab.async false
set_option linter.all false
set_option maxRecDepth 100000
set_option maxHeartbeats 4000000
namespace Cw
open PySem

local macro_rules | `(tactic| walk_at "cw") => `(tactic| simp -implicitDefEqProofs only [ss_nil, ss_cons, goSs_next, goSs_ret, goSs_exc, goSs_brk, goSs_cont, s_asg', s_asgL2, asgL_ok, see_cons, see1_ow, see1_fr, see1_no, see1_S, ow_0, ow_S, s_app', app_some, app_exc, s_asgT', s_par', s_ret', s_iff', s_whl', s_for', s_rais', s_expr', s_brk', s_cont', s_pass', s_try', s_tryW', tryW_ret, tryW_next, tryW_exc, tryN_ret, tryN_next, tryN_exc,
  e_k, e_v, e_g, e_tup', e_lst', e_bin', e_neg', e_not', e_and', e_or', e_cmp', e_cmp2', e_ife', e_ix', e_sl', e_call', e_bf', e_isi', e_lc', es_nil, es_cons, and_one, and_cons, or_one, or_cons, eo_no, eo_yes, ec_no, ec_yes, ei_seq, ei_rng1, ei_rng2, ei_zip, ei_enum,
  gv0, gvS, see0, fl_int, fl_bool, fl_str, fl_none, fl_tup, fl_lst, bind_ok, bind_bad, bind_exc, onR_ok, onR_exc, onR_bad, toB_bool, toB_exc, eq_int, ne_int, lt_int', le_int', gt_int', ge_int', add_int', sub_int', bf_abs, bf_max, bf_min, bf_len, bf_lenT, bf_int, bf_intB,
  startE, List.map_cons, List.map_nil, List.length_cons, List.length_map, List.length_nil, List.cons_append, List.nil_append, List.set_cons_zero, List.set_cons_succ, List.replicate, Nat.sub_self, Nat.reduceSub, Nat.reduceAdd, if_true, if_false, Bool.false_eq_true, reduceIte, ixT0, ixT1, ixT2, outR_ret, outR_next, outR_exc, setT, setMany, wipeE, rng1_ok, rng2_ok, not_ok, neg_ok, and_t, and_f, and_ok, and_x, or_t, or_f, or_ok, or_x, ife_b, Bool.not_true, Bool.not_false, Bool.true_and, Bool.and_true, Bool.false_and, Bool.and_false, Bool.true_or, Bool.or_true, Bool.false_or, Bool.or_false, decide_true, decide_false, beq_self_eq_true, Int.reduceBEq, Int.reduceLT, Int.reduceLE, Int.reduceAdd, Int.reduceSub, Int.reduceNeg, Int.cast_ofNat_Int, fl_fr, eq_fr, ne_fr, ix_fr0, ix_fr1, ite_self, lc_nil, lc_cons, consR_s, consR_n, bf_all, bf_any, bf_sum, bf_tup, ofO_some, bls_nil, bls_cons, ints_nil, ints_cons, Option.map_some, seq_lst, seq_tup, ixL0, ixL1, ixL2, ixL3, isi_bi, isi_bb, isi_ii, isi_ib, isi_tt, List.all_cons, List.all_nil, id, pw_10_11, pw_10_12, pw_10_13, pw_10_30, pw_10_40, pw_10_6, pw_10_9, pw_2_8, pw_2_10, pw_2_12, pw_2_13, pw_2_14, pw_2_15, pw_2_16, pw_2_17, pw_2_18, pw_2_20, pw_2_24, pw_2_25, pw_2_27, pw_2_28, pw_2_30, pw_2_32, pw_2_34, pw_2_36, pw_2_38, pw_2_40, pw_2_41, pw_2_42, pw_2_44, pw_2_50, pw_2_54, pw_2_56, pw_2_60])
local macro_rules | `(tactic| walk_at "cw*") => `(tactic| simp -implicitDefEqProofs only [*, ss_nil, ss_cons, goSs_next, goSs_ret, goSs_exc, goSs_brk, goSs_cont, s_asg', s_asgL2, asgL_ok, see_cons, see1_ow, see1_fr, see1_no, see1_S, ow_0, ow_S, s_app', app_some, app_exc, s_asgT', s_par', s_ret', s_iff', s_whl', s_for', s_rais', s_expr', s_brk', s_cont', s_pass', s_try', s_tryW', tryW_ret, tryW_next, tryW_exc, tryN_ret, tryN_next, tryN_exc,
  e_k, e_v, e_g, e_tup', e_lst', e_bin', e_neg', e_not', e_and', e_or', e_cmp', e_cmp2', e_ife', e_ix', e_sl', e_call', e_bf', e_isi', e_lc', es_nil, es_cons, and_one, and_cons, or_one, or_cons, eo_no, eo_yes, ec_no, ec_yes, ei_seq, ei_rng1, ei_rng2, ei_zip, ei_enum,
  gv0, gvS, see0, fl_int, fl_bool, fl_str, fl_none, fl_tup, fl_lst, bind_ok, bind_bad, bind_exc, onR_ok, onR_exc, onR_bad, toB_bool, toB_exc, eq_int, ne_int, lt_int', le_int', gt_int', ge_int', add_int', sub_int', bf_abs, bf_max, bf_min, bf_len, bf_lenT, bf_int, bf_intB,
  startE, List.map_cons, List.map_nil, List.length_cons, List.length_map, List.length_nil, List.cons_append, List.nil_append, List.set_cons_zero, List.set_cons_succ, List.replicate, Nat.sub_self, Nat.reduceSub, Nat.reduceAdd, if_true, if_false, Bool.false_eq_true, reduceIte, ixT0, ixT1, ixT2, outR_ret, outR_next, outR_exc, setT, setMany, wipeE, rng1_ok, rng2_ok, not_ok, neg_ok, and_t, and_f, and_ok, and_x, or_t, or_f, or_ok, or_x, ife_b, Bool.not_true, Bool.not_false, Bool.true_and, Bool.and_true, Bool.false_and, Bool.and_false, Bool.true_or, Bool.or_true, Bool.false_or, Bool.or_false, decide_true, decide_false, beq_self_eq_true, Int.reduceBEq, Int.reduceLT, Int.reduceLE, Int.reduceAdd, Int.reduceSub, Int.reduceNeg, Int.cast_ofNat_Int, fl_fr, eq_fr, ne_fr, ix_fr0, ix_fr1, ite_self, lc_nil, lc_cons, consR_s, consR_n, bf_all, bf_any, bf_sum, bf_tup, ofO_some, bls_nil, bls_cons, ints_nil, ints_cons, Option.map_some, seq_lst, seq_tup, ixL0, ixL1, ixL2, ixL3, isi_bi, isi_bb, isi_ii, isi_ib, isi_tt, List.all_cons, List.all_nil, id, pw_10_11, pw_10_12, pw_10_13, pw_10_30, pw_10_40, pw_10_6, pw_10_9, pw_2_8, pw_2_10, pw_2_12, pw_2_13, pw_2_14, pw_2_15, pw_2_16, pw_2_17, pw_2_18, pw_2_20, pw_2_24, pw_2_25, pw_2_27, pw_2_28, pw_2_30, pw_2_32, pw_2_34, pw_2_36, pw_2_38, pw_2_40, pw_2_41, pw_2_42, pw_2_44, pw_2_50, pw_2_54, pw_2_56, pw_2_60])

section
variable {T : Nat → Option Def} [Lay b1 T]
theorem power_ok (n : Nat) {q : Rat} {a k : Nat} (hq : Qz a q) (h : a * k + a + 1 ≤ 134217728) (hk : k ≤ 1000000) : evc T (n + 1) 21 [fr q, .int k] = .ok (fr (q ^ k)) := by
  rw [evc_b b1 rfl rfl]
  unfold d_power fr
  walk_at "cw"
  rw [rng_nat hk]
  walk_at "cw"
  obtain ⟨e, z, s, hs⟩ := for_inv (F := evc T n) (tg := .one 4) (b := .cons (.asg 2 [] (.bin .mul (.v 2) (.ix (.v 0) (.k (.int 0))))) (.cons (.asg 3 [] (.bin .mul (.v 3) (.ix (.v 0) (.k (.int 1))))) .nil))
    (I := fun j e => ∃ s, e = [.fr (.tuple [.int q.num, .int q.den]), .fr (.int k), .fr (.int (q.num ^ j)), .fr (.int ((q.den : Int) ^ j)), s]) (rngL 0 k) 0
    (env := [.fr (.tuple [.int q.num, .int q.den]), .fr (.int k), .fr (.int 1), .fr (.int 1), .no]) ⟨_, by rw [Int.pow_zero, Int.pow_zero]⟩ (fun j d e hd he => by
      obtain ⟨s, he⟩ := he
      obtain ⟨hj, hd⟩ := rngL_get hd
      have hle : a * j ≤ a * k := Nat.mul_le_mul_left _ (by omega)
      subst he hd
      rw [Nat.zero_add]
      refine ⟨_, [.fr (.tuple [.int q.num, .int q.den]), .fr (.int k), .fr (.int (q.num ^ (j + 1))), .fr (.int ((q.den : Int) ^ (j + 1))), .fr (.int (0 + (j : Int)))], rfl, .inl ?_, ⟨_, rfl⟩⟩
      walk_at "cw"
      rw [mul_sz (hq.num.pow j) hq.num (by omega)]
      walk_at "cw"
      rw [mul_sz (hq.den.pow j) hq.den (by omega)]
      walk_at "cw"
      rw [Int.pow_succ, Int.pow_succ])
  rw [z]
  subst hs
  rw [rngL_len, Nat.zero_add]
  walk_at "cw"
  rw [Rat.num_pow, Rat.den_pow, Int.natCast_pow]
theorem gcd_loop2 {F : Nat → List D → R D} (s0 s1 : Sl) : ∀ (y x : Nat), whlS F [] (.cmp .gt (.v 3) (.k (.int 0))) (.cons (.par 2 3 [] (.v 3) (.bin .mod (.v 2) (.v 3))) .nil) [s0, s1, .fr (.int x), .fr (.int y)] = .next [s0, s1, .fr (.int (Nat.gcd x y)), .fr (.int 0)] := by
  intro y
  induction y using Nat.strongRecOn with
  | ind y ih =>
    intro x
    unfold whlS
    by_cases h : y = 0
    · subst h
      rw [whl_stop (by rfl)]
      simp
    · have hm : opR .mod (.int (x : Int)) (.int (y : Int)) = .ok (.int ((x % y : Nat) : Int)) := by
        rw [mod_pos (by omega)]; rfl
      have hy : ((0 : Int) < y) = True := eq_true (by omega)
      rw [whl_next (e := [s0, s1, .fr (.int y), .fr (.int ((x % y : Nat) : Int))]) (by walk_at "cw"; simp only [hy]; rfl) (by walk_at "cw"; rw [hm]; rfl)]
      have z := ih (x % y) (Nat.mod_lt _ (by omega)) y
      unfold whlS at z
      rw [z, Nat.gcd_comm x y, Nat.gcd_rec y x, Nat.gcd_comm]
theorem made_ok (n : Nat) (t : Int) {u : Int} (hu : 0 < u) : evc T (n + 1) 1002 [.int t, .int u] = .ok (fr (Rat.divInt t u)) := by
  have hg : 0 < (Int.gcd t u : Int) := by
    have := Int.gcd_pos_of_ne_zero_right t (b := u) (by omega)
    omega
  have hn : (u : Int) = (u.natAbs : Int) := by omega
  have z := fun s0 s1 => gcd_loop2 (F := evc T n) s0 s1 u.natAbs t.natAbs
  rw [← hn, show ((t.natAbs.gcd u.natAbs : Nat) : Int) = (Int.gcd t u : Int) from rfl] at z
  have e1 : (Rat.divInt t u).num = t / (Int.gcd t u : Int) := by rw [Rat.num_divInt, Int.gcd_comm, Int.sign_eq_one_of_pos hu, Int.one_mul]
  have e2 : ((Rat.divInt t u).den : Int) = u / (Int.gcd t u : Int) := by
    rw [Rat.den_divInt, if_neg (by omega), Int.gcd_comm]; rw [Int.natCast_ediv, ← hn]
  unfold fr
  rw [e1, e2, evc_b b1 rfl rfl]
  unfold d_law_made
  walk_at "cw"
  rw [z]
  walk_at "cw"
  rw [fdiv_pos hg, fdiv_pos hg]
  walk_at "cw"
noncomputable def cellF (ns : List Int) (k : Nat) : Int := if ns = [] then (k : Int) * 7919 else ns.getD (k % ns.length) 0 + (k : Int) / ns.length * 104729
theorem cell_ok (n : Nat) (ns : List Int) (k : Nat) : evc T (n + 1) 1000 [.list (ns.map PyData.int), .int k] = .ok (.int (cellF ns k)) := by
  rw [evc_b b1 rfl rfl]
  unfold d_law_cell
  walk_at "cw"
  rw [eq_sh (sh_ints ns) rfl]
  walk_at "cw"
  unfold cellF
  cases ns with
  | nil =>
    rw [if_pos rfl]
    simp only [List.map_nil]
    have e : PyData.eqv (.list []) (.list []) = true := rfl
    rw [e]
    walk_at "cw"
    rw [mul_r (by decide)]
    walk_at "cw"
  | cons a l =>
    rw [if_neg (show ¬ (a :: l = []) from by simp)]
    have e : PyData.eqv (.list ((a :: l).map PyData.int)) (.list []) = false := by simp only [List.map_cons]; rfl
    rw [e]
    generalize hl : a :: l = L
    have hL : 0 < L.length := by rw [← hl]; simp
    walk_at "cw"
    rw [mod_pos (by omega), fdiv_pos (by omega)]
    walk_at "cw"
    rw [show (k : Int) % (L.length : Int) = ((k % L.length : Nat) : Int) from rfl, ix_nat, List.getElem?_map, List.getElem?_eq_getElem (Nat.mod_lt _ hL), mul_r (by decide)]
    simp only [Option.map_some, ofO]
    walk_at "cw"
    rw [List.getD_eq_getElem?_getD, List.getElem?_eq_getElem (Nat.mod_lt _ hL)]
    rfl
noncomputable def drawF (c k : Int) : Int :=
  let m := (c * 6364136223846793005 + (k + 1) * 1442695040888963407) % 340282366920938463463374607431768211507
  let m := m * m % 340282366920938463463374607431768211297
  ((m % 18446744073709551557 + 1) * (m / 18446744073709551557 + 1) * m) % 340282366920938463463374607431768211507
theorem drawF_nn (c k : Int) : 0 ≤ drawF c k := Int.emod_nonneg _ (by decide)
theorem drawF_lt (c k : Int) : drawF c k < 340282366920938463463374607431768211507 := Int.emod_lt_of_pos _ (by decide)
theorem drawn_ok (n : Nat) (c k : Int) : evc T (n + 1) 1001 [.int c, .int k] = .ok (.int (drawF c k)) := by
  unfold drawF
  rw [evc_b b1 rfl rfl]
  unfold d_law_drawn
  walk_at "cw"
  rw [mul_r (by decide), mul_r (by decide)]
  walk_at "cw"
  rw [mod_pos (by decide)]
  generalize hm : (c * 6364136223846793005 + (k + 1) * 1442695040888963407) % 340282366920938463463374607431768211507 = m
  have h1 : 0 ≤ m := by rw [← hm]; exact Int.emod_nonneg _ (by decide)
  have h2 : m < 340282366920938463463374607431768211507 := by rw [← hm]; exact Int.emod_lt_of_pos _ (by decide)
  have sm : Sz 130 m := by unfold Sz; omega
  walk_at "cw"
  rw [mul_sz sm sm (by decide)]
  walk_at "cw"
  rw [mod_pos (by decide)]
  generalize hm2 : m * m % 340282366920938463463374607431768211297 = m2
  have h3 : 0 ≤ m2 := by rw [← hm2]; exact Int.emod_nonneg _ (by decide)
  have h4 : m2 < 340282366920938463463374607431768211297 := by rw [← hm2]; exact Int.emod_lt_of_pos _ (by decide)
  have sm2 : Sz 130 m2 := by unfold Sz; omega
  walk_at "cw"
  rw [mod_pos (by decide), fdiv_pos (by decide)]
  walk_at "cw"
  have s3 : Sz 70 (m2 % 18446744073709551557 + 1) := by unfold Sz; omega
  have s4 : Sz 70 (m2 / 18446744073709551557 + 1) := by unfold Sz; omega
  rw [mul_sz s3 s4 (by decide)]
  walk_at "cw"
  rw [mul_sz (s3.mul s4) sm2 (by decide)]
  walk_at "cw"
  rw [mod_pos (by decide)]
  walk_at "cw"
theorem lawfr_ok (n : Nat) {m : Int} (h : 0 ≤ m) : ∃ q, evc T (n + 2) 1003 [.int m] = .ok (fr q) ∧ Qz 40 q ∧ q.num.natAbs ≤ 100000000000 ∧ q.den ≤ 1000 := by
  obtain ⟨d1, x1, t, rfl, ht⟩ := ix_all (l := [.int (m % 13 - 6), .int (m % 2001 - 1000), .int 0, .int (m % 200000000000 - 100000000000)]) (i := m / 1099511627776 % 4) (by omega) (by simp only [List.length_cons, List.length_nil]; omega)
    (P := fun d => ∃ t : Int, d = .int t ∧ t.natAbs ≤ 100000000000) (by
      simp only [List.forall_mem_cons, List.not_mem_nil, false_imp_iff, implies_true, and_true]
      exact ⟨⟨_, rfl, by omega⟩, ⟨_, rfl, by omega⟩, ⟨_, rfl, by omega⟩, ⟨_, rfl, by omega⟩⟩)
  obtain ⟨d2, x2, u, rfl, hu⟩ := ix_all (l := [.int 1, .int (1 + m / 4398046511104 % 9), .int (1 + m / 4398046511104 % 1000)]) (i := m / 72057594037927936 % 3) (by omega) (by simp only [List.length_cons, List.length_nil]; omega)
    (P := fun d => ∃ t : Int, d = .int t ∧ 0 < t ∧ t ≤ 1000) (by
      simp only [List.forall_mem_cons, List.not_mem_nil, false_imp_iff, implies_true, and_true]
      exact ⟨⟨_, rfl, by omega⟩, ⟨_, rfl, by omega⟩, ⟨_, rfl, by omega⟩⟩)
  refine ⟨Rat.divInt t u, ?_, Qz.divInt (by unfold Sz; omega) (by unfold Sz; omega) (by omega), ?_, ?_⟩
  · rw [evc_b b1 rfl rfl]
    unfold d_law_fraction
    walk_at "cw"
    rw [mul_r (by decide), mod_pos (by decide), mod_pos (by decide)]
    walk_at "cw"
    rw [show (2 : Int) * 100000000000 = 200000000000 from rfl, mod_pos (by decide), fdiv_pos (by decide)]
    walk_at "cw"
    rw [mod_pos (by decide)]
    walk_at "cw"
    rw [x1]
    walk_at "cw"
    rw [fdiv_pos (by decide), fdiv_pos (by decide)]
    walk_at "cw"
    rw [mod_pos (by decide), mod_pos (by decide), mod_pos (by decide)]
    walk_at "cw"
    rw [x2]
    walk_at "cw"
    rw [made_ok _ _ hu.1]
    walk_at "cw"
  · rw [Rat.num_divInt, Int.sign_eq_one_of_pos hu.1, Int.one_mul]
    exact Nat.le_trans (Int.natAbs_ediv_le_natAbs _ _) ht
  · rw [Rat.den_divInt, if_neg (by omega)]
    exact Nat.le_trans (Nat.div_le_self _ _) (by omega)
noncomputable def downR (q : Rat) (b : Nat) : Rat := Rat.divInt (q.num * 2 ^ b / q.den) (2 ^ b)
theorem sz_two (b : Nat) : Sz (b + 1) ((2 : Int) ^ b) := by
  unfold Sz
  rw [Int.natAbs_pow]
  exact Nat.pow_lt_pow_right (by decide) (by omega)
theorem two_pos (b : Nat) : 0 < (2 : Int) ^ b := Int.pow_pos (by decide)
theorem down_ok (n : Nat) {q : Rat} {a b : Nat} (hq : Qz a q) (hb : b ≤ 1000000) (h : a + b + 1 ≤ 134217728) : evc T (n + 3) 15 [fr q, .int b] = .ok (fr (downR q b)) := by
  rw [evc_b b1 rfl rfl]
  unfold d_down_to fr
  walk_at "cw"
  rw [shl_int' ⟨by omega, by omega, by decide⟩]
  walk_at "cw"
  rw [Int.toNat_natCast, Int.one_mul, mul_sz hq.num (sz_two b) (by omega)]
  walk_at "cw"
  rw [fdiv_pos (den_pos q)]
  walk_at "cw"
  rw [fraction_ok _ _ (Int.ne_of_gt (two_pos b))]
  rfl
theorem up_ok (n : Nat) {q : Rat} {a b : Nat} (hq : Qz a q) (hb : b ≤ 1000000) (h : a + b + 1 ≤ 134217728) : evc T (n + 4) 16 [fr q, .int b] = .ok (fr (-downR (-q) b)) := by
  rw [evc_b b1 rfl rfl]
  unfold d_up_to
  walk_at "cw"
  rw [opposite_ok]
  walk_at "cw"
  rw [down_ok _ hq.neg hb h]
  walk_at "cw"
  rw [opposite_ok]
  walk_at "cw"
end
end Cw

set_option linter.all false
/-! Plain facts about fractions: products, quotients and powers of what lies between ends. -/
namespace Cw
theorem mul_lo {m a b x y : Rat} (h1 : m ≤ a * y) (h2 : m ≤ b * y) (ha : a ≤ x) (hb : x ≤ b) : m ≤ x * y := by
  by_cases hy : 0 ≤ y
  · have := Rat.mul_nonneg (by grind : 0 ≤ x - a) hy
    grind
  · have := Rat.mul_nonneg (by grind : 0 ≤ b - x) (by grind : 0 ≤ -y)
    grind
theorem mul_hi {m a b x y : Rat} (h1 : a * y ≤ m) (h2 : b * y ≤ m) (ha : a ≤ x) (hb : x ≤ b) : x * y ≤ m := by
  by_cases hy : 0 ≤ y
  · have := Rat.mul_nonneg (by grind : 0 ≤ b - x) hy
    grind
  · have := Rat.mul_nonneg (by grind : 0 ≤ x - a) (by grind : 0 ≤ -y)
    grind
theorem prod_lo {m a b c d x y : Rat} (h1 : m ≤ a * c) (h2 : m ≤ a * d) (h3 : m ≤ b * c) (h4 : m ≤ b * d) (ha : a ≤ x) (hb : x ≤ b) (hc : c ≤ y) (hd : y ≤ d) : m ≤ x * y :=
  mul_lo (by rw [Rat.mul_comm]; exact mul_lo (by rw [Rat.mul_comm]; exact h1) (by rw [Rat.mul_comm]; exact h2) hc hd) (by rw [Rat.mul_comm]; exact mul_lo (by rw [Rat.mul_comm]; exact h3) (by rw [Rat.mul_comm]; exact h4) hc hd) ha hb
theorem prod_hi {m a b c d x y : Rat} (h1 : a * c ≤ m) (h2 : a * d ≤ m) (h3 : b * c ≤ m) (h4 : b * d ≤ m) (ha : a ≤ x) (hb : x ≤ b) (hc : c ≤ y) (hd : y ≤ d) : x * y ≤ m :=
  mul_hi (by rw [Rat.mul_comm]; exact mul_hi (by rw [Rat.mul_comm]; exact h1) (by rw [Rat.mul_comm]; exact h2) hc hd) (by rw [Rat.mul_comm]; exact mul_hi (by rw [Rat.mul_comm]; exact h3) (by rw [Rat.mul_comm]; exact h4) hc hd) ha hb
theorem div_eq' {x y z : Rat} (hy : y ≠ 0) (h : x = z * y) : x / y = z := by
  rw [h, Rat.div_def, Rat.mul_assoc, Rat.mul_inv_cancel _ hy, Rat.mul_one]
theorem inv_anti_pos {x y : Rat} (hx : 0 < x) (h : x ≤ y) : y⁻¹ ≤ x⁻¹ := by
  have hy : 0 < y := by grind
  have i1 := Rat.inv_pos.mpr hx
  have i2 := Rat.inv_pos.mpr hy
  have e1 := Rat.mul_inv_cancel x (by grind)
  have e2 := Rat.mul_inv_cancel y (by grind)
  have z := Rat.mul_nonneg (Rat.mul_nonneg (Rat.le_of_lt i1) (Rat.le_of_lt i2)) (by grind : 0 ≤ y - x)
  generalize x⁻¹ = u at *
  generalize y⁻¹ = v at *
  have e : u * v * (y - x) = u * (y * v) - v * (x * u) := by grind
  rw [e, e1, e2] at z
  grind
theorem inv_neg' (x : Rat) : (-x)⁻¹ = -(x⁻¹) := by
  by_cases h : x = 0
  · subst h; decide +kernel
  · have e1 := Rat.mul_inv_cancel x h
    have e2 := Rat.mul_inv_cancel (-x) (by grind)
    generalize (-x)⁻¹ = u at *
    generalize x⁻¹ = v at *
    have : u * (x * v) + v * (-x * u) = 0 := by grind
    rw [e1, e2] at this
    grind
theorem inv_anti {x y : Rat} (h0 : 0 < x ∨ y < 0) (h : x ≤ y) : y⁻¹ ≤ x⁻¹ := by
  rcases h0 with h0 | h0
  · exact inv_anti_pos h0 h
  · have z := inv_anti_pos (x := -y) (y := -x) (by grind) (by grind)
    rw [inv_neg', inv_neg'] at z
    grind
theorem inv_between {c d y : Rat} (h0 : ¬ (c ≤ 0 ∧ 0 ≤ d)) (hc : c ≤ y) (hd : y ≤ d) : d⁻¹ ≤ y⁻¹ ∧ y⁻¹ ≤ c⁻¹ :=
  ⟨inv_anti (by grind) hd, inv_anti (by grind) hc⟩
theorem quot_lo {m a b c d x y : Rat} (h0 : ¬ (c ≤ 0 ∧ 0 ≤ d)) (h1 : m ≤ a / c) (h2 : m ≤ a / d) (h3 : m ≤ b / c) (h4 : m ≤ b / d) (ha : a ≤ x) (hb : x ≤ b) (hc : c ≤ y) (hd : y ≤ d) : m ≤ x / y := by
  rw [Rat.div_def] at *
  have z := inv_between h0 hc hd
  exact prod_lo h2 h1 h4 h3 ha hb z.1 z.2
theorem quot_hi {m a b c d x y : Rat} (h0 : ¬ (c ≤ 0 ∧ 0 ≤ d)) (h1 : a / c ≤ m) (h2 : a / d ≤ m) (h3 : b / c ≤ m) (h4 : b / d ≤ m) (ha : a ≤ x) (hb : x ≤ b) (hc : c ≤ y) (hd : y ≤ d) : x / y ≤ m := by
  rw [Rat.div_def] at *
  have z := inv_between h0 hc hd
  exact prod_hi h2 h1 h4 h3 ha hb z.1 z.2
theorem pow_nn {x : Rat} (h : 0 ≤ x) : ∀ k : Nat, 0 ≤ x ^ k
  | 0 => by rw [Rat.pow_zero]; decide
  | k + 1 => by rw [Rat.pow_succ]; exact Rat.mul_nonneg (pow_nn h k) h
theorem pow_mono {x y : Rat} (h : 0 ≤ x) (hxy : x ≤ y) : ∀ k : Nat, x ^ k ≤ y ^ k
  | 0 => by rw [Rat.pow_zero, Rat.pow_zero]; exact Rat.le_refl
  | k + 1 => by
    rw [Rat.pow_succ, Rat.pow_succ]
    have i := pow_mono h hxy k
    have a := Rat.mul_nonneg (by grind : 0 ≤ y ^ k - x ^ k) (by grind : 0 ≤ y)
    have b := Rat.mul_nonneg (pow_nn h k) (by grind : 0 ≤ y - x)
    grind
theorem neg_pow_even (x : Rat) {k : Nat} (h : k % 2 = 0) : (-x) ^ k = x ^ k := by
  have : ∀ j : Nat, (-x) ^ (2 * j) = x ^ (2 * j) := by
    intro j
    induction j with
    | zero => rw [Nat.mul_zero, Rat.pow_zero, Rat.pow_zero]
    | succ j ih =>
      rw [show 2 * (j + 1) = 2 * j + 1 + 1 from by omega, Rat.pow_succ, Rat.pow_succ, Rat.pow_succ, Rat.pow_succ, ih]
      grind
  have e : k = 2 * (k / 2) := by omega
  rw [e]; exact this _
theorem neg_pow_odd (x : Rat) {k : Nat} (h : k % 2 = 1) : (-x) ^ k = -(x ^ k) := by
  have e : k = (k - 1) + 1 := by omega
  rw [e, Rat.pow_succ, Rat.pow_succ, neg_pow_even x (by omega)]
  grind
theorem pow_odd_mono {x y : Rat} {k : Nat} (hk : k % 2 = 1) (h : x ≤ y) : x ^ k ≤ y ^ k := by
  by_cases hx : 0 ≤ x
  · exact pow_mono hx h k
  · by_cases hy : 0 ≤ y
    · have a := pow_nn hy k
      have b := pow_nn (show 0 ≤ -x by grind) k
      rw [neg_pow_odd x hk] at b
      grind
    · have a := pow_mono (x := -y) (y := -x) (by grind) (by grind) k
      rw [neg_pow_odd x hk, neg_pow_odd y hk] at a
      grind
theorem pow_even_nn (x : Rat) {k : Nat} (hk : k % 2 = 0) : 0 ≤ x ^ k := by
  by_cases hx : 0 ≤ x
  · exact pow_nn hx k
  · rw [← neg_pow_even x hk]; exact pow_nn (by grind) k
theorem zero_pow' {k : Nat} (h : k ≠ 0) : (0 : Rat) ^ k = 0 := by
  have e : k = (k - 1) + 1 := by omega
  rw [e, Rat.pow_succ, Rat.mul_zero]
/-- powers: below the greatest of the ends' powers -/
theorem pow_hi {m a b x : Rat} {k : Nat} (h1 : a ^ k ≤ m) (h2 : b ^ k ≤ m) (ha : a ≤ x) (hb : x ≤ b) : x ^ k ≤ m := by
  rcases Nat.mod_two_eq_zero_or_one k with hk | hk
  · by_cases hx : 0 ≤ x
    · exact Rat.le_trans (pow_mono hx hb k) h2
    · have z := pow_mono (x := -x) (y := -a) (by grind) (by grind) k
      rw [neg_pow_even x hk, neg_pow_even a hk] at z
      exact Rat.le_trans z h1
  · exact Rat.le_trans (pow_odd_mono hk hb) h2
theorem pow_lo {m a b x : Rat} {k : Nat} (h1 : m ≤ a ^ k) (h2 : m ≤ b ^ k) (h3 : k % 2 = 0 → a ≤ 0 → 0 ≤ b → m ≤ 0) (ha : a ≤ x) (hb : x ≤ b) : m ≤ x ^ k := by
  rcases Nat.mod_two_eq_zero_or_one k with hk | hk
  · by_cases a0 : 0 ≤ a
    · exact Rat.le_trans h1 (pow_mono a0 ha k)
    · by_cases b0 : 0 ≤ b
      · exact Rat.le_trans (h3 hk (by grind) b0) (pow_even_nn x hk)
      · have z := pow_mono (x := -b) (y := -x) (by grind) (by grind) k
        rw [neg_pow_even x hk, neg_pow_even b hk] at z
        exact Rat.le_trans h2 z
  · exact Rat.le_trans h1 (pow_odd_mono hk ha)
end Cw

set_option Elab.async false
set_option linter.all false
set_option maxRecDepth 100000
set_option maxHeartbeats 4000000
namespace Cw
open PySem

local macro_rules | `(tactic| walk_at "cw") => `(tactic| simp -implicitDefEqProofs only [ss_nil, ss_cons, goSs_next, goSs_ret, goSs_exc, goSs_brk, goSs_cont, s_asg', s_asgL2, asgL_ok, see_cons, see1_ow, see1_fr, see1_no, see1_S, ow_0, ow_S, s_app', app_some, app_exc, s_asgT', s_par', s_ret', s_iff', s_whl', s_for', s_rais', s_expr', s_brk', s_cont', s_pass', s_try', s_tryW', tryW_ret, tryW_next, tryW_exc, tryN_ret, tryN_next, tryN_exc,
  e_k, e_v, e_g, e_tup', e_lst', e_bin', e_neg', e_not', e_and', e_or', e_cmp', e_cmp2', e_ife', e_ix', e_sl', e_call', e_bf', e_isi', e_lc', es_nil, es_cons, and_one, and_cons, or_one, or_cons, eo_no, eo_yes, ec_no, ec_yes, ei_seq, ei_rng1, ei_rng2, ei_zip, ei_enum,
  gv0, gvS, see0, fl_int, fl_bool, fl_str, fl_none, fl_tup, fl_lst, bind_ok, bind_bad, bind_exc, onR_ok, onR_exc, onR_bad, toB_bool, toB_exc, eq_int, ne_int, lt_int', le_int', gt_int', ge_int', add_int', sub_int', bf_abs, bf_max, bf_min, bf_len, bf_lenT, bf_int, bf_intB,
  startE, List.map_cons, List.map_nil, List.length_cons, List.length_map, List.length_nil, List.cons_append, List.nil_append, List.set_cons_zero, List.set_cons_succ, List.replicate, Nat.sub_self, Nat.reduceSub, Nat.reduceAdd, if_true, if_false, Bool.false_eq_true, reduceIte, ixT0, ixT1, ixT2, outR_ret, outR_next, outR_exc, setT, setMany, wipeE, rng1_ok, rng2_ok, not_ok, neg_ok, and_t, and_f, and_ok, and_x, or_t, or_f, or_ok, or_x, ife_b, Bool.not_true, Bool.not_false, Bool.true_and, Bool.and_true, Bool.false_and, Bool.and_false, Bool.true_or, Bool.or_true, Bool.false_or, Bool.or_false, decide_true, decide_false, beq_self_eq_true, Int.reduceBEq, Int.reduceLT, Int.reduceLE, Int.reduceAdd, Int.reduceSub, Int.reduceNeg, Int.cast_ofNat_Int, fl_fr, eq_fr, ne_fr, ix_fr0, ix_fr1, ite_self, lc_nil, lc_cons, consR_s, consR_n, bf_all, bf_any, bf_sum, bf_tup, ofO_some, bls_nil, bls_cons, ints_nil, ints_cons, Option.map_some, seq_lst, seq_tup, ixL0, ixL1, ixL2, ixL3, isi_bi, isi_bb, isi_ii, isi_ib, isi_tt, List.all_cons, List.all_nil, id, pw_10_11, pw_10_12, pw_10_13, pw_10_30, pw_10_40, pw_10_6, pw_10_9, pw_2_8, pw_2_10, pw_2_12, pw_2_13, pw_2_14, pw_2_15, pw_2_16, pw_2_17, pw_2_18, pw_2_20, pw_2_24, pw_2_25, pw_2_27, pw_2_28, pw_2_30, pw_2_32, pw_2_34, pw_2_36, pw_2_38, pw_2_40, pw_2_41, pw_2_42, pw_2_44, pw_2_50, pw_2_54, pw_2_56, pw_2_60])
local macro_rules | `(tactic| walk_at "cw*") => `(tactic| simp -implicitDefEqProofs only [*, ss_nil, ss_cons, goSs_next, goSs_ret, goSs_exc, goSs_brk, goSs_cont, s_asg', s_asgL2, asgL_ok, see_cons, see1_ow, see1_fr, see1_no, see1_S, ow_0, ow_S, s_app', app_some, app_exc, s_asgT', s_par', s_ret', s_iff', s_whl', s_for', s_rais', s_expr', s_brk', s_cont', s_pass', s_try', s_tryW', tryW_ret, tryW_next, tryW_exc, tryN_ret, tryN_next, tryN_exc,
  e_k, e_v, e_g, e_tup', e_lst', e_bin', e_neg', e_not', e_and', e_or', e_cmp', e_cmp2', e_ife', e_ix', e_sl', e_call', e_bf', e_isi', e_lc', es_nil, es_cons, and_one, and_cons, or_one, or_cons, eo_no, eo_yes, ec_no, ec_yes, ei_seq, ei_rng1, ei_rng2, ei_zip, ei_enum,
  gv0, gvS, see0, fl_int, fl_bool, fl_str, fl_none, fl_tup, fl_lst, bind_ok, bind_bad, bind_exc, onR_ok, onR_exc, onR_bad, toB_bool, toB_exc, eq_int, ne_int, lt_int', le_int', gt_int', ge_int', add_int', sub_int', bf_abs, bf_max, bf_min, bf_len, bf_lenT, bf_int, bf_intB,
  startE, List.map_cons, List.map_nil, List.length_cons, List.length_map, List.length_nil, List.cons_append, List.nil_append, List.set_cons_zero, List.set_cons_succ, List.replicate, Nat.sub_self, Nat.reduceSub, Nat.reduceAdd, if_true, if_false, Bool.false_eq_true, reduceIte, ixT0, ixT1, ixT2, outR_ret, outR_next, outR_exc, setT, setMany, wipeE, rng1_ok, rng2_ok, not_ok, neg_ok, and_t, and_f, and_ok, and_x, or_t, or_f, or_ok, or_x, ife_b, Bool.not_true, Bool.not_false, Bool.true_and, Bool.and_true, Bool.false_and, Bool.and_false, Bool.true_or, Bool.or_true, Bool.false_or, Bool.or_false, decide_true, decide_false, beq_self_eq_true, Int.reduceBEq, Int.reduceLT, Int.reduceLE, Int.reduceAdd, Int.reduceSub, Int.reduceNeg, Int.cast_ofNat_Int, fl_fr, eq_fr, ne_fr, ix_fr0, ix_fr1, ite_self, lc_nil, lc_cons, consR_s, consR_n, bf_all, bf_any, bf_sum, bf_tup, ofO_some, bls_nil, bls_cons, ints_nil, ints_cons, Option.map_some, seq_lst, seq_tup, ixL0, ixL1, ixL2, ixL3, isi_bi, isi_bb, isi_ii, isi_ib, isi_tt, List.all_cons, List.all_nil, id, pw_10_11, pw_10_12, pw_10_13, pw_10_30, pw_10_40, pw_10_6, pw_10_9, pw_2_8, pw_2_10, pw_2_12, pw_2_13, pw_2_14, pw_2_15, pw_2_16, pw_2_17, pw_2_18, pw_2_20, pw_2_24, pw_2_25, pw_2_27, pw_2_28, pw_2_30, pw_2_32, pw_2_34, pw_2_36, pw_2_38, pw_2_40, pw_2_41, pw_2_42, pw_2_44, pw_2_50, pw_2_54, pw_2_56, pw_2_60])
def d_least_of : Def := ⟨1, 3, (.cons (.asg 1 [] (.ix (.v 0) (.k (.int 0)))) (.cons (.for_ [] (.one 2) (.seq (.v 0)) (.cons (.iff [] (.cmp .lt (.call 22 (.cons (.v 2) (.cons (.v 1) .nil))) (.k (.int 0))) (.cons (.asg 1 [] (.v 2)) .nil) .nil) .nil)) (.cons (.ret [] (.v 1)) .nil)))⟩
def d_greatest_of : Def := ⟨1, 3, (.cons (.asg 1 [] (.ix (.v 0) (.k (.int 0)))) (.cons (.for_ [] (.one 2) (.seq (.v 0)) (.cons (.iff [] (.cmp .gt (.call 22 (.cons (.v 2) (.cons (.v 1) .nil))) (.k (.int 0))) (.cons (.asg 1 [] (.v 2)) .nil) .nil) .nil)) (.cons (.ret [] (.v 1)) .nil)))⟩
def d_around : Def := ⟨1, 1, (.cons (.ret [] (.tup (.cons (.call 23 (.cons (.v 0) .nil)) (.cons (.call 24 (.cons (.v 0) .nil)) .nil)))) .nil)⟩
def d_has : Def := ⟨2, 2, (.cons (.ret [] (.and (.cons (.cmp .le (.call 22 (.cons (.ix (.v 0) (.k (.int 0))) (.cons (.v 1) .nil))) (.k (.int 0))) (.cons (.cmp .le (.call 22 (.cons (.v 1) (.cons (.ix (.v 0) (.k (.int 1))) .nil))) (.k (.int 0))) .nil)))) .nil)⟩
def d_sum_of : Def := ⟨2, 2, (.cons (.ret [] (.tup (.cons (.call 17 (.cons (.ix (.v 0) (.k (.int 0))) (.cons (.ix (.v 1) (.k (.int 0))) .nil))) (.cons (.call 17 (.cons (.ix (.v 0) (.k (.int 1))) (.cons (.ix (.v 1) (.k (.int 1))) .nil))) .nil)))) .nil)⟩
def d_less_of : Def := ⟨2, 2, (.cons (.ret [] (.tup (.cons (.call 18 (.cons (.ix (.v 0) (.k (.int 0))) (.cons (.ix (.v 1) (.k (.int 1))) .nil))) (.cons (.call 18 (.cons (.ix (.v 0) (.k (.int 1))) (.cons (.ix (.v 1) (.k (.int 0))) .nil))) .nil)))) .nil)⟩
def d_product_of : Def := ⟨2, 2, (.cons (.ret [] (.call 25 (.cons (.lst (.cons (.call 19 (.cons (.ix (.v 0) (.k (.int 0))) (.cons (.ix (.v 1) (.k (.int 0))) .nil))) (.cons (.call 19 (.cons (.ix (.v 0) (.k (.int 0))) (.cons (.ix (.v 1) (.k (.int 1))) .nil))) (.cons (.call 19 (.cons (.ix (.v 0) (.k (.int 1))) (.cons (.ix (.v 1) (.k (.int 0))) .nil))) (.cons (.call 19 (.cons (.ix (.v 0) (.k (.int 1))) (.cons (.ix (.v 1) (.k (.int 1))) .nil))) .nil))))) .nil))) .nil)⟩
def d_power_of : Def := ⟨2, 3, (.cons (.iff [] (.cmp .eq (.v 1) (.k (.int 0))) (.cons (.ret [] (.tup (.cons (.g 1) (.cons (.g 1) .nil)))) .nil) .nil) (.cons (.asgL 2 [] (.lst (.cons (.call 21 (.cons (.ix (.v 0) (.k (.int 0))) (.cons (.v 1) .nil))) (.cons (.call 21 (.cons (.ix (.v 0) (.k (.int 1))) (.cons (.v 1) .nil))) .nil)))) (.cons (.iff [] (.and (.cons (.cmp .eq (.bin .mod (.v 1) (.k (.int 2))) (.k (.int 0))) (.cons (.call 26 (.cons (.v 0) (.cons (.g 0) .nil))) .nil))) (.cons (.app 2 [] (.g 0)) .nil) .nil) (.cons (.ret [2] (.call 25 (.cons (.v 2) .nil))) .nil))))⟩
def d_quotient_of : Def := ⟨2, 2, (.cons (.iff [] (.call 26 (.cons (.v 1) (.cons (.g 0) .nil))) (.cons (.ret [] (.k .none)) .nil) .nil) (.cons (.ret [] (.call 25 (.cons (.lst (.cons (.call 20 (.cons (.ix (.v 0) (.k (.int 0))) (.cons (.ix (.v 1) (.k (.int 0))) .nil))) (.cons (.call 20 (.cons (.ix (.v 0) (.k (.int 0))) (.cons (.ix (.v 1) (.k (.int 1))) .nil))) (.cons (.call 20 (.cons (.ix (.v 0) (.k (.int 1))) (.cons (.ix (.v 1) (.k (.int 0))) .nil))) (.cons (.call 20 (.cons (.ix (.v 0) (.k (.int 1))) (.cons (.ix (.v 1) (.k (.int 1))) .nil))) .nil))))) .nil))) .nil))⟩
def d_law_less : Def := ⟨2, 2, (.cons (.ret [] (.cmp .lt (.bin .mul (.ix (.v 0) (.k (.int 0))) (.ix (.v 1) (.k (.int 1)))) (.bin .mul (.ix (.v 1) (.k (.int 0))) (.ix (.v 0) (.k (.int 1)))))) .nil)⟩
def d_law_stretch : Def := ⟨1, 3, (.cons (.asg 1 [] (.call 1003 (.cons (.v 0) .nil))) (.cons (.asg 2 [] (.call 1003 (.cons (.bin .add (.bin .mul (.bin .fdiv (.v 0) (.bin .pow (.k (.int 2)) (.k (.int 50)))) (.k (.int 7))) (.bin .mod (.v 0) (.k (.int 1013)))) .nil))) (.cons (.iff [] (.cmp .eq (.bin .mod (.bin .fdiv (.v 0) (.bin .pow (.k (.int 2)) (.k (.int 30)))) (.k (.int 5))) (.k (.int 0))) (.cons (.asg 2 [] (.v 1)) .nil) .nil) (.cons (.iff [] (.cmp .eq (.bin .mod (.bin .fdiv (.v 0) (.bin .pow (.k (.int 2)) (.k (.int 30)))) (.k (.int 5))) (.k (.int 1))) (.cons (.asg 2 [] (.call 1002 (.cons (.bin .add (.ix (.v 1) (.k (.int 0))) (.k (.int 1))) (.cons (.ix (.v 1) (.k (.int 1))) .nil)))) .nil) .nil) (.cons (.iff [] (.call 1010 (.cons (.v 2) (.cons (.v 1) .nil))) (.cons (.ret [] (.tup (.cons (.v 2) (.cons (.v 1) .nil)))) .nil) .nil) (.cons (.ret [] (.tup (.cons (.v 1) (.cons (.v 2) .nil)))) .nil))))))⟩
def d_law_between : Def := ⟨2, 5, (.cons (.asgT [3, 4] [] (.v 0)) (.cons (.iff [] (.cmp .eq (.bin .mod (.v 1) (.k (.int 4))) (.k (.int 0))) (.cons (.ret [] (.v 3)) .nil) .nil) (.cons (.iff [] (.cmp .eq (.bin .mod (.v 1) (.k (.int 4))) (.k (.int 1))) (.cons (.ret [] (.v 4)) .nil) .nil) (.cons (.asg 2 [] (.bin .mod (.bin .fdiv (.v 1) (.k (.int 4))) (.k (.int 17)))) (.cons (.ret [] (.call 1002 (.cons (.bin .add (.bin .mul (.bin .mul (.ix (.v 3) (.k (.int 0))) (.ix (.v 4) (.k (.int 1)))) (.bin .sub (.k (.int 16)) (.v 2))) (.bin .mul (.bin .mul (.ix (.v 4) (.k (.int 0))) (.ix (.v 3) (.k (.int 1)))) (.v 2))) (.cons (.bin .mul (.bin .mul (.k (.int 16)) (.ix (.v 3) (.k (.int 1)))) (.ix (.v 4) (.k (.int 1)))) .nil)))) .nil)))))⟩
def d_law_has : Def := ⟨2, 2, (.cons (.ret [] (.and (.cons (.not (.call 1010 (.cons (.v 1) (.cons (.ix (.v 0) (.k (.int 0))) .nil)))) (.cons (.not (.call 1010 (.cons (.ix (.v 0) (.k (.int 1))) (.cons (.v 1) .nil)))) .nil)))) .nil)⟩
def b2 : List (Nat × Def) := [(23, d_least_of), (24, d_greatest_of), (25, d_around), (26, d_has), (27, d_sum_of), (28, d_less_of), (29, d_product_of), (30, d_power_of), (31, d_quotient_of), (1010, d_law_less), (1011, d_law_stretch), (1012, d_law_between), (1013, d_law_has)]

/-! ### stretches -/
def st (a b : Rat) : D := .tuple [fr a, fr b]
theorem fl_st {a b : Rat} : flatD (st a b) = false := rfl
theorem ix_st0 {a b : Rat} : ixR (st a b) (.int 0) = .ok (fr a) := rfl
theorem ix_st1 {a b : Rat} : ixR (st a b) (.int 1) = .ok (fr b) := rfl
def minQ : List Rat → Rat
  | [] => 0
  | x :: xs => xs.foldl (fun acc y => if y < acc then y else acc) x
def maxQ : List Rat → Rat
  | [] => 0
  | x :: xs => xs.foldl (fun acc y => if acc < y then y else acc) x
theorem min_fold : ∀ (xs : List Rat) (x : Rat), (xs.foldl (fun acc y => if y < acc then y else acc) x) ∈ x :: xs ∧ ∀ y ∈ x :: xs, (xs.foldl (fun acc y => if y < acc then y else acc) x) ≤ y
  | [], x => ⟨List.mem_cons_self, fun y hy => by
      have e : y = x := by simpa using hy
      rw [e]; exact Rat.le_refl⟩
  | z :: xs, x => by
    obtain ⟨h1, h2⟩ := min_fold xs (if z < x then z else x)
    rw [List.foldl_cons]
    have hle : (if z < x then z else x) ≤ x ∧ (if z < x then z else x) ≤ z := by
      by_cases h : z < x
      · rw [if_pos h]; exact ⟨Rat.le_of_lt h, Rat.le_refl⟩
      · rw [if_neg h]; exact ⟨Rat.le_refl, Rat.not_lt.mp h⟩
    constructor
    · rcases List.mem_cons.mp h1 with e | e
      · rw [e]
        by_cases h : z < x
        · rw [if_pos h]; simp
        · rw [if_neg h]; simp
      · exact List.mem_cons_of_mem _ (List.mem_cons_of_mem _ e)
    · intro y hy
      have h0 := h2 _ List.mem_cons_self
      rcases List.mem_cons.mp hy with e | hy
      · rw [e]; exact Rat.le_trans h0 hle.1
      · rcases List.mem_cons.mp hy with e | hy
        · rw [e]; exact Rat.le_trans h0 hle.2
        · exact h2 y (List.mem_cons_of_mem _ hy)
theorem max_fold : ∀ (xs : List Rat) (x : Rat), (xs.foldl (fun acc y => if acc < y then y else acc) x) ∈ x :: xs ∧ ∀ y ∈ x :: xs, y ≤ (xs.foldl (fun acc y => if acc < y then y else acc) x)
  | [], x => ⟨List.mem_cons_self, fun y hy => by
      have e : y = x := by simpa using hy
      rw [e]; exact Rat.le_refl⟩
  | z :: xs, x => by
    obtain ⟨h1, h2⟩ := max_fold xs (if x < z then z else x)
    rw [List.foldl_cons]
    have hle : x ≤ (if x < z then z else x) ∧ z ≤ (if x < z then z else x) := by
      by_cases h : x < z
      · rw [if_pos h]; exact ⟨Rat.le_of_lt h, Rat.le_refl⟩
      · rw [if_neg h]; exact ⟨Rat.le_refl, Rat.not_lt.mp h⟩
    constructor
    · rcases List.mem_cons.mp h1 with e | e
      · rw [e]
        by_cases h : x < z
        · rw [if_pos h]; simp
        · rw [if_neg h]; simp
      · exact List.mem_cons_of_mem _ (List.mem_cons_of_mem _ e)
    · intro y hy
      have h0 := h2 _ List.mem_cons_self
      rcases List.mem_cons.mp hy with e | hy
      · rw [e]; exact Rat.le_trans hle.1 h0
      · rcases List.mem_cons.mp hy with e | hy
        · rw [e]; exact Rat.le_trans hle.2 h0
        · exact h2 y (List.mem_cons_of_mem _ hy)

theorem ord_lt (p q : Rat) : decide (ordR p q < 0) = decide (p < q) := by
  unfold ordR
  by_cases h : p < q
  · rw [if_pos h, decide_eq_true h]; rfl
  · rw [if_neg h, decide_eq_false h]
    by_cases h2 : q < p
    · rw [if_pos h2]; rfl
    · rw [if_neg h2]; rfl
theorem ord_gt (p q : Rat) : decide (0 < ordR p q) = decide (q < p) := by
  unfold ordR
  by_cases h : p < q
  · have h2 : ¬ q < p := fun z => (Rat.not_le.mpr h) (Rat.le_of_lt z)
    rw [if_pos h, decide_eq_false h2]; rfl
  · rw [if_neg h]
    by_cases h2 : q < p
    · rw [if_pos h2, decide_eq_true h2]; rfl
    · rw [if_neg h2, decide_eq_false h2]; rfl
theorem ord_le (p q : Rat) : decide (ordR p q ≤ 0) = decide (p ≤ q) := by
  have h := ord_gt p q
  by_cases h2 : q < p
  · rw [decide_eq_true h2] at h
    have h3 : ¬ (ordR p q ≤ 0) := by have := of_decide_eq_true h; omega
    rw [decide_eq_false h3, decide_eq_false (Rat.not_le.mpr h2)]
  · rw [decide_eq_false h2] at h
    have h3 : ordR p q ≤ 0 := by have := of_decide_eq_false h; omega
    rw [decide_eq_true h3, decide_eq_true (Rat.not_lt.mp h2)]
section
variable {T : Nat → Option Def} [Lay b1 T] [Lay b2 T]
theorem least_loop (n : Nat) {a : Nat} (ha : a + a ≤ 134217728) (s0 : Sl) : ∀ (l : List Rat) (acc : Rat) (s2 : Sl), (∀ y ∈ l, Qz a y) → Qz a acc →
    ∃ s2', forS (evc T (n + 1)) (.one 2) (.cons (.iff [] (.cmp .lt (.call 22 (.cons (.v 2) (.cons (.v 1) .nil))) (.k (.int 0))) (.cons (.asg 1 [] (.v 2)) .nil) .nil) .nil) (l.map fr) [s0, .fr (fr acc), s2] = .next [s0, .fr (fr (l.foldl (fun acc y => if y < acc then y else acc) acc)), s2']
  | [], acc, s2, _, _ => ⟨s2, rfl⟩
  | y :: l, acc, s2, hl, hacc => by
    have hy := hl y List.mem_cons_self
    obtain ⟨s2', z⟩ := least_loop n ha s0 l (if y < acc then y else acc) (.fr (fr y)) (fun z hz => hl z (List.mem_cons_of_mem _ hz)) (by split <;> assumption)
    refine ⟨s2', ?_⟩
    rw [List.map_cons, List.foldl_cons, ← z]
    refine for_step (e2 := [s0, .fr (fr acc), .fr (fr y)]) rfl ?_
    have o := order_ok (T := T) n hy hacc ha
    walk_at "cw"
    rw [o]
    walk_at "cw"
    rw [ord_lt]
    by_cases h : y < acc
    · simp only [h]
      walk_at "cw"
    · simp only [h]
      walk_at "cw"
theorem greatest_loop (n : Nat) {a : Nat} (ha : a + a ≤ 134217728) (s0 : Sl) : ∀ (l : List Rat) (acc : Rat) (s2 : Sl), (∀ y ∈ l, Qz a y) → Qz a acc →
    ∃ s2', forS (evc T (n + 1)) (.one 2) (.cons (.iff [] (.cmp .gt (.call 22 (.cons (.v 2) (.cons (.v 1) .nil))) (.k (.int 0))) (.cons (.asg 1 [] (.v 2)) .nil) .nil) .nil) (l.map fr) [s0, .fr (fr acc), s2] = .next [s0, .fr (fr (l.foldl (fun acc y => if acc < y then y else acc) acc)), s2']
  | [], acc, s2, _, _ => ⟨s2, rfl⟩
  | y :: l, acc, s2, hl, hacc => by
    have hy := hl y List.mem_cons_self
    obtain ⟨s2', z⟩ := greatest_loop n ha s0 l (if acc < y then y else acc) (.fr (fr y)) (fun z hz => hl z (List.mem_cons_of_mem _ hz)) (by split <;> assumption)
    refine ⟨s2', ?_⟩
    rw [List.map_cons, List.foldl_cons, ← z]
    refine for_step (e2 := [s0, .fr (fr acc), .fr (fr y)]) rfl ?_
    have o := order_ok (T := T) n hy hacc ha
    walk_at "cw"
    rw [o]
    walk_at "cw"
    rw [ord_gt]
    by_cases h : acc < y
    · simp only [h]
      walk_at "cw"
    · simp only [h]
      walk_at "cw"
theorem least_ok (n : Nat) {x : Rat} {xs : List Rat} {a : Nat} (ha : a + a ≤ 134217728) (h : ∀ y ∈ x :: xs, Qz a y) : evc T (n + 2) 23 [.list ((x :: xs).map fr)] = .ok (fr (minQ (x :: xs))) := by
  obtain ⟨s2, z⟩ := least_loop (T := T) n ha (.fr (.list ((x :: xs).map fr))) (x :: xs) x .no h (h x List.mem_cons_self)
  rw [evc_b b2 rfl rfl]
  unfold d_least_of
  rw [List.map_cons] at z ⊢
  walk_at "cw"
  rw [z]
  walk_at "cw"
  rw [List.foldl_cons]
  unfold minQ
  rw [if_neg Rat.lt_irrefl]
theorem greatest_ok (n : Nat) {x : Rat} {xs : List Rat} {a : Nat} (ha : a + a ≤ 134217728) (h : ∀ y ∈ x :: xs, Qz a y) : evc T (n + 2) 24 [.list ((x :: xs).map fr)] = .ok (fr (maxQ (x :: xs))) := by
  obtain ⟨s2, z⟩ := greatest_loop (T := T) n ha (.fr (.list ((x :: xs).map fr))) (x :: xs) x .no h (h x List.mem_cons_self)
  rw [evc_b b2 rfl rfl]
  unfold d_greatest_of
  rw [List.map_cons] at z ⊢
  walk_at "cw"
  rw [z]
  walk_at "cw"
  rw [List.foldl_cons]
  unfold maxQ
  rw [if_neg Rat.lt_irrefl]
theorem around_ok (n : Nat) {x : Rat} {xs : List Rat} {a : Nat} (ha : a + a ≤ 134217728) (h : ∀ y ∈ x :: xs, Qz a y) : evc T (n + 3) 25 [.list ((x :: xs).map fr)] = .ok (st (minQ (x :: xs)) (maxQ (x :: xs))) := by
  rw [evc_b b2 rfl rfl]
  unfold d_around
  walk_at "cw"
  have e1 := least_ok (T := T) n ha h
  have e2 := greatest_ok (T := T) n ha h
  rw [List.map_cons] at e1 e2
  rw [e1, e2]
  walk_at "cw"
  rfl
theorem has_ok (n : Nat) {lo hi q : Rat} {a b : Nat} (h1 : Qz a lo) (h2 : Qz a hi) (hq : Qz b q) (hab : a + b ≤ 134217728) : evc T (n + 2) 26 [st lo hi, fr q] = .ok (.bool (decide (lo ≤ q) && decide (q ≤ hi))) := by
  rw [evc_b b2 rfl rfl]
  unfold d_has st
  walk_at "cw"
  rw [order_ok n h1 hq hab, order_ok n hq h2 (by omega)]
  walk_at "cw"
  rw [ord_le, ord_le]
theorem sum_of_ok (n : Nat) {a b c d : Rat} {m k : Nat} (h1 : Qz m a) (h2 : Qz m b) (h3 : Qz k c) (h4 : Qz k d) (h : m + k ≤ 134217728) : evc T (n + 4) 27 [st a b, st c d] = .ok (st (a + c) (b + d)) := by
  rw [evc_b b2 rfl rfl]
  unfold d_sum_of st
  walk_at "cw"
  rw [plus_ok _ h1 h3 h, plus_ok _ h2 h4 h]
  walk_at "cw"
theorem less_of_ok (n : Nat) {a b c d : Rat} {m k : Nat} (h1 : Qz m a) (h2 : Qz m b) (h3 : Qz k c) (h4 : Qz k d) (h : m + k ≤ 134217728) : evc T (n + 5) 28 [st a b, st c d] = .ok (st (a - d) (b - c)) := by
  rw [evc_b b2 rfl rfl]
  unfold d_less_of st
  walk_at "cw"
  rw [minus_ok _ h1 h4 h, minus_ok _ h2 h3 h]
  walk_at "cw"
theorem product_of_ok (n : Nat) {a b c d : Rat} {m k : Nat} (h1 : Qz m a) (h2 : Qz m b) (h3 : Qz k c) (h4 : Qz k d) (h : 2 * (m + k) ≤ 134217728) :
    evc T (n + 4) 29 [st a b, st c d] = .ok (st (minQ [a * c, a * d, b * c, b * d]) (maxQ [a * c, a * d, b * c, b * d])) := by
  rw [evc_b b2 rfl rfl]
  unfold d_product_of st
  walk_at "cw"
  rw [times_ok _ h1 h3 (by omega), times_ok _ h1 h4 (by omega), times_ok _ h2 h3 (by omega), times_ok _ h2 h4 (by omega)]
  walk_at "cw"
  have z := around_ok (T := T) n (x := a * c) (xs := [a * d, b * c, b * d]) (a := m + k) (by omega) (by
    simp only [List.forall_mem_cons, List.not_mem_nil, false_imp_iff, implies_true, and_true]
    exact ⟨h1.mul h3, h1.mul h4, h2.mul h3, h2.mul h4⟩)
  rw [show List.map fr [a * c, a * d, b * c, b * d] = [fr (a * c), fr (a * d), fr (b * c), fr (b * d)] from rfl] at z
  rw [z]
  walk_at "cw"
  try rfl
theorem cst0 : cst 0 = fr 0 := rfl
theorem cst1 : cst 1 = fr 1 := rfl
theorem qz0 : Qz 1 0 := ⟨by unfold Sz; decide, by unfold Sz; decide⟩
theorem qz1 : Qz 1 1 := ⟨by unfold Sz; decide, by unfold Sz; decide⟩
def powL (a b : Rat) (k : Nat) : List Rat := if k % 2 = 0 ∧ a ≤ 0 ∧ 0 ≤ b then [a ^ k, b ^ k, 0] else [a ^ k, b ^ k]
theorem power_of_zero (n : Nat) {a b : Rat} : evc T (n + 4) 30 [st a b, .int 0] = .ok (st 1 1) := by
  rw [evc_b b2 rfl rfl]
  unfold d_power_of st
  walk_at "cw"
  rw [cst1]
theorem power_of_ok (n : Nat) {a b : Rat} {m k : Nat} (h1 : Qz m a) (h2 : Qz m b) (hk : k ≠ 0) (hk2 : k ≤ 1000000) (h : 2 * (m * k + 1) + m + 2 ≤ 134217728) :
    evc T (n + 4) 30 [st a b, .int k] = .ok (st (minQ (powL a b k)) (maxQ (powL a b k))) := by
  rw [evc_b b2 rfl rfl]
  have hk0 : (((k : Int)) == 0) = false := by rw [beq_eq_false_iff_ne]; omega
  have em : (k : Int) % 2 = ((k % 2 : Nat) : Int) := rfl
  have hh := has_ok (T := T) (n + 1) h1 h2 qz0 (by omega)
  unfold d_power_of
  walk_at "cw"
  rw [hk0]
  unfold st at hh ⊢
  walk_at "cw"
  rw [power_ok _ h1 (by omega) hk2, power_ok _ h2 (by omega) hk2]
  walk_at "cw"
  rw [mod_pos (by decide), cst0, hh]
  walk_at "cw"
  have zk : ∀ l : List Rat, (∀ y ∈ l, y = a ^ k ∨ y = b ^ k ∨ y = 0) → ∀ y ∈ l, Qz (m * k + 1) y := by
    intro l hl y hy
    rcases hl y hy with e | e | e
    · rw [e]; exact h1.pow k
    · rw [e]; exact h2.pow k
    · rw [e]; exact qz0.mono (by omega)
  by_cases hc : k % 2 = 0 ∧ a ≤ 0 ∧ 0 ≤ b
  · have e1 : (((k : Int) % 2 == 0) && (decide (a ≤ 0) && decide (0 ≤ b))) = true := by
      rw [em, hc.1, decide_eq_true hc.2.1, decide_eq_true hc.2.2]; rfl
    rw [e1]
    walk_at "cw"
    rw [if_pos (by simp only [List.length_cons, List.length_nil, sizeLine_eq]; omega)]
    walk_at "cw"
    have z := around_ok (T := T) n (x := a ^ k) (xs := [b ^ k, 0]) (a := m * k + 1) (by omega) (zk _ (by simp))
    rw [show List.map fr [a ^ k, b ^ k, 0] = [fr (a ^ k), fr (b ^ k), fr 0] from rfl] at z
    unfold powL
    rw [if_pos hc, z]
    walk_at "cw"
    try rfl
  · have e1 : (((k : Int) % 2 == 0) && (decide (a ≤ 0) && decide (0 ≤ b))) = false := by
      cases q : (((k : Int) % 2 == 0) && (decide (a ≤ 0) && decide (0 ≤ b))) with
      | false => rfl
      | true =>
        simp only [Bool.and_eq_true, decide_eq_true_eq, beq_iff_eq] at q
        exact (hc ⟨by omega, q.2⟩).elim
    rw [e1]
    walk_at "cw"
    have z := around_ok (T := T) n (x := a ^ k) (xs := [b ^ k]) (a := m * k + 1) (by omega) (zk _ (by simp))
    rw [show List.map fr [a ^ k, b ^ k] = [fr (a ^ k), fr (b ^ k)] from rfl] at z
    unfold powL
    rw [if_neg hc, z]
    walk_at "cw"
    try rfl
theorem quotient_of_none (n : Nat) {a b c d : Rat} {m k : Nat} (h3 : Qz k c) (h4 : Qz k d) (h : 2 * (m + k) + 1 ≤ 134217728) (h0 : c ≤ 0 ∧ 0 ≤ d) : evc T (n + 4) 31 [st a b, st c d] = .ok .none := by
  rw [evc_b b2 rfl rfl]
  have hh := has_ok (T := T) (n + 1) h3 h4 qz0 (by omega)
  unfold d_quotient_of
  walk_at "cw"
  rw [cst0, hh, decide_eq_true h0.1, decide_eq_true h0.2]
  walk_at "cw"
theorem quotient_of_ok (n : Nat) {a b c d : Rat} {m k : Nat} (h1 : Qz m a) (h2 : Qz m b) (h3 : Qz k c) (h4 : Qz k d) (h : 2 * (m + k) + 1 ≤ 134217728) (h0 : ¬ (c ≤ 0 ∧ 0 ≤ d)) (hc : c ≠ 0) (hd : d ≠ 0) :
    evc T (n + 4) 31 [st a b, st c d] = .ok (st (minQ [a / c, a / d, b / c, b / d]) (maxQ [a / c, a / d, b / c, b / d])) := by
  rw [evc_b b2 rfl rfl]
  have hh := has_ok (T := T) (n + 1) h3 h4 qz0 (by omega)
  have e1 : (decide (c ≤ 0) && decide (0 ≤ d)) = false := by
    cases q : (decide (c ≤ 0) && decide (0 ≤ d)) with
    | false => rfl
    | true => simp only [Bool.and_eq_true, decide_eq_true_eq] at q; exact (h0 q).elim
  unfold d_quotient_of
  walk_at "cw"
  rw [cst0, hh, e1]
  unfold st
  walk_at "cw"
  rw [over_ok _ h1 h3 (by omega) hc, over_ok _ h1 h4 (by omega) hd, over_ok _ h2 h3 (by omega) hc, over_ok _ h2 h4 (by omega) hd]
  walk_at "cw"
  have z := around_ok (T := T) n (x := a / c) (xs := [a / d, b / c, b / d]) (a := m + k) (by omega) (by
    simp only [List.forall_mem_cons, List.not_mem_nil, false_imp_iff, implies_true, and_true]
    exact ⟨h1.div h3, h1.div h4, h2.div h3, h2.div h4⟩)
  rw [show List.map fr [a / c, a / d, b / c, b / d] = [fr (a / c), fr (a / d), fr (b / c), fr (b / d)] from rfl] at z
  rw [z]
  walk_at "cw"
  try rfl
end
end Cw

set_option Elab.async false
set_option linter.all false
set_option maxRecDepth 100000
set_option maxHeartbeats 4000000
namespace Cw
open PySem

theorem mul_rl {a b : Int} (h1 : -18446744073709551616 < b) (h2 : b < 18446744073709551616) : opR .mul (.int a) (.int b) = .ok (.int (a * b)) := mul_r (by omega)
theorem mul_ll {a b : Int} (h1 : -18446744073709551616 < a) (h2 : a < 18446744073709551616) : opR .mul (.int a) (.int b) = .ok (.int (a * b)) := mul_l (by omega)
/-! words told apart -/
theorem shw_num : SeqAt.shaped (.str "num") = true := by decide +kernel
theorem shw_var : SeqAt.shaped (.str "var") = true := by decide +kernel
theorem shw_power : SeqAt.shaped (.str "power") = true := by decide +kernel
theorem shw_sum : SeqAt.shaped (.str "sum") = true := by decide +kernel
theorem shw_less : SeqAt.shaped (.str "less") = true := by decide +kernel
theorem shw_times : SeqAt.shaped (.str "times") = true := by decide +kernel
theorem shw_over : SeqAt.shaped (.str "over") = true := by decide +kernel
theorem shw_product : SeqAt.shaped (.str "product") = true := by decide +kernel
theorem shw_quotient : SeqAt.shaped (.str "quotient") = true := by decide +kernel
theorem eqw_num_num : cmR .eq (.str "num") (.str "num") = .ok (.bool true) := (eq_sh shw_num shw_num).trans (congrArg (fun b => R.ok (PyData.bool b)) (by decide +kernel))
theorem eqw_num_var : cmR .eq (.str "num") (.str "var") = .ok (.bool false) := (eq_sh shw_num shw_var).trans (congrArg (fun b => R.ok (PyData.bool b)) (by decide +kernel))
theorem eqw_num_power : cmR .eq (.str "num") (.str "power") = .ok (.bool false) := (eq_sh shw_num shw_power).trans (congrArg (fun b => R.ok (PyData.bool b)) (by decide +kernel))
theorem eqw_num_sum : cmR .eq (.str "num") (.str "sum") = .ok (.bool false) := (eq_sh shw_num shw_sum).trans (congrArg (fun b => R.ok (PyData.bool b)) (by decide +kernel))
theorem eqw_num_less : cmR .eq (.str "num") (.str "less") = .ok (.bool false) := (eq_sh shw_num shw_less).trans (congrArg (fun b => R.ok (PyData.bool b)) (by decide +kernel))
theorem eqw_num_times : cmR .eq (.str "num") (.str "times") = .ok (.bool false) := (eq_sh shw_num shw_times).trans (congrArg (fun b => R.ok (PyData.bool b)) (by decide +kernel))
theorem eqw_num_over : cmR .eq (.str "num") (.str "over") = .ok (.bool false) := (eq_sh shw_num shw_over).trans (congrArg (fun b => R.ok (PyData.bool b)) (by decide +kernel))
theorem eqw_num_product : cmR .eq (.str "num") (.str "product") = .ok (.bool false) := (eq_sh shw_num shw_product).trans (congrArg (fun b => R.ok (PyData.bool b)) (by decide +kernel))
theorem eqw_num_quotient : cmR .eq (.str "num") (.str "quotient") = .ok (.bool false) := (eq_sh shw_num shw_quotient).trans (congrArg (fun b => R.ok (PyData.bool b)) (by decide +kernel))
theorem eqw_var_num : cmR .eq (.str "var") (.str "num") = .ok (.bool false) := (eq_sh shw_var shw_num).trans (congrArg (fun b => R.ok (PyData.bool b)) (by decide +kernel))
theorem eqw_var_var : cmR .eq (.str "var") (.str "var") = .ok (.bool true) := (eq_sh shw_var shw_var).trans (congrArg (fun b => R.ok (PyData.bool b)) (by decide +kernel))
theorem eqw_var_power : cmR .eq (.str "var") (.str "power") = .ok (.bool false) := (eq_sh shw_var shw_power).trans (congrArg (fun b => R.ok (PyData.bool b)) (by decide +kernel))
theorem eqw_var_sum : cmR .eq (.str "var") (.str "sum") = .ok (.bool false) := (eq_sh shw_var shw_sum).trans (congrArg (fun b => R.ok (PyData.bool b)) (by decide +kernel))
theorem eqw_var_less : cmR .eq (.str "var") (.str "less") = .ok (.bool false) := (eq_sh shw_var shw_less).trans (congrArg (fun b => R.ok (PyData.bool b)) (by decide +kernel))
theorem eqw_var_times : cmR .eq (.str "var") (.str "times") = .ok (.bool false) := (eq_sh shw_var shw_times).trans (congrArg (fun b => R.ok (PyData.bool b)) (by decide +kernel))
theorem eqw_var_over : cmR .eq (.str "var") (.str "over") = .ok (.bool false) := (eq_sh shw_var shw_over).trans (congrArg (fun b => R.ok (PyData.bool b)) (by decide +kernel))
theorem eqw_var_product : cmR .eq (.str "var") (.str "product") = .ok (.bool false) := (eq_sh shw_var shw_product).trans (congrArg (fun b => R.ok (PyData.bool b)) (by decide +kernel))
theorem eqw_var_quotient : cmR .eq (.str "var") (.str "quotient") = .ok (.bool false) := (eq_sh shw_var shw_quotient).trans (congrArg (fun b => R.ok (PyData.bool b)) (by decide +kernel))
theorem eqw_power_num : cmR .eq (.str "power") (.str "num") = .ok (.bool false) := (eq_sh shw_power shw_num).trans (congrArg (fun b => R.ok (PyData.bool b)) (by decide +kernel))
theorem eqw_power_var : cmR .eq (.str "power") (.str "var") = .ok (.bool false) := (eq_sh shw_power shw_var).trans (congrArg (fun b => R.ok (PyData.bool b)) (by decide +kernel))
theorem eqw_power_power : cmR .eq (.str "power") (.str "power") = .ok (.bool true) := (eq_sh shw_power shw_power).trans (congrArg (fun b => R.ok (PyData.bool b)) (by decide +kernel))
theorem eqw_power_sum : cmR .eq (.str "power") (.str "sum") = .ok (.bool false) := (eq_sh shw_power shw_sum).trans (congrArg (fun b => R.ok (PyData.bool b)) (by decide +kernel))
theorem eqw_power_less : cmR .eq (.str "power") (.str "less") = .ok (.bool false) := (eq_sh shw_power shw_less).trans (congrArg (fun b => R.ok (PyData.bool b)) (by decide +kernel))
theorem eqw_power_times : cmR .eq (.str "power") (.str "times") = .ok (.bool false) := (eq_sh shw_power shw_times).trans (congrArg (fun b => R.ok (PyData.bool b)) (by decide +kernel))
theorem eqw_power_over : cmR .eq (.str "power") (.str "over") = .ok (.bool false) := (eq_sh shw_power shw_over).trans (congrArg (fun b => R.ok (PyData.bool b)) (by decide +kernel))
theorem eqw_power_product : cmR .eq (.str "power") (.str "product") = .ok (.bool false) := (eq_sh shw_power shw_product).trans (congrArg (fun b => R.ok (PyData.bool b)) (by decide +kernel))
theorem eqw_power_quotient : cmR .eq (.str "power") (.str "quotient") = .ok (.bool false) := (eq_sh shw_power shw_quotient).trans (congrArg (fun b => R.ok (PyData.bool b)) (by decide +kernel))
theorem eqw_sum_num : cmR .eq (.str "sum") (.str "num") = .ok (.bool false) := (eq_sh shw_sum shw_num).trans (congrArg (fun b => R.ok (PyData.bool b)) (by decide +kernel))
theorem eqw_sum_var : cmR .eq (.str "sum") (.str "var") = .ok (.bool false) := (eq_sh shw_sum shw_var).trans (congrArg (fun b => R.ok (PyData.bool b)) (by decide +kernel))
theorem eqw_sum_power : cmR .eq (.str "sum") (.str "power") = .ok (.bool false) := (eq_sh shw_sum shw_power).trans (congrArg (fun b => R.ok (PyData.bool b)) (by decide +kernel))
theorem eqw_sum_sum : cmR .eq (.str "sum") (.str "sum") = .ok (.bool true) := (eq_sh shw_sum shw_sum).trans (congrArg (fun b => R.ok (PyData.bool b)) (by decide +kernel))
theorem eqw_sum_less : cmR .eq (.str "sum") (.str "less") = .ok (.bool false) := (eq_sh shw_sum shw_less).trans (congrArg (fun b => R.ok (PyData.bool b)) (by decide +kernel))
theorem eqw_sum_times : cmR .eq (.str "sum") (.str "times") = .ok (.bool false) := (eq_sh shw_sum shw_times).trans (congrArg (fun b => R.ok (PyData.bool b)) (by decide +kernel))
theorem eqw_sum_over : cmR .eq (.str "sum") (.str "over") = .ok (.bool false) := (eq_sh shw_sum shw_over).trans (congrArg (fun b => R.ok (PyData.bool b)) (by decide +kernel))
theorem eqw_sum_product : cmR .eq (.str "sum") (.str "product") = .ok (.bool false) := (eq_sh shw_sum shw_product).trans (congrArg (fun b => R.ok (PyData.bool b)) (by decide +kernel))
theorem eqw_sum_quotient : cmR .eq (.str "sum") (.str "quotient") = .ok (.bool false) := (eq_sh shw_sum shw_quotient).trans (congrArg (fun b => R.ok (PyData.bool b)) (by decide +kernel))
theorem eqw_less_num : cmR .eq (.str "less") (.str "num") = .ok (.bool false) := (eq_sh shw_less shw_num).trans (congrArg (fun b => R.ok (PyData.bool b)) (by decide +kernel))
theorem eqw_less_var : cmR .eq (.str "less") (.str "var") = .ok (.bool false) := (eq_sh shw_less shw_var).trans (congrArg (fun b => R.ok (PyData.bool b)) (by decide +kernel))
theorem eqw_less_power : cmR .eq (.str "less") (.str "power") = .ok (.bool false) := (eq_sh shw_less shw_power).trans (congrArg (fun b => R.ok (PyData.bool b)) (by decide +kernel))
theorem eqw_less_sum : cmR .eq (.str "less") (.str "sum") = .ok (.bool false) := (eq_sh shw_less shw_sum).trans (congrArg (fun b => R.ok (PyData.bool b)) (by decide +kernel))
theorem eqw_less_less : cmR .eq (.str "less") (.str "less") = .ok (.bool true) := (eq_sh shw_less shw_less).trans (congrArg (fun b => R.ok (PyData.bool b)) (by decide +kernel))
theorem eqw_less_times : cmR .eq (.str "less") (.str "times") = .ok (.bool false) := (eq_sh shw_less shw_times).trans (congrArg (fun b => R.ok (PyData.bool b)) (by decide +kernel))
theorem eqw_less_over : cmR .eq (.str "less") (.str "over") = .ok (.bool false) := (eq_sh shw_less shw_over).trans (congrArg (fun b => R.ok (PyData.bool b)) (by decide +kernel))
theorem eqw_less_product : cmR .eq (.str "less") (.str "product") = .ok (.bool false) := (eq_sh shw_less shw_product).trans (congrArg (fun b => R.ok (PyData.bool b)) (by decide +kernel))
theorem eqw_less_quotient : cmR .eq (.str "less") (.str "quotient") = .ok (.bool false) := (eq_sh shw_less shw_quotient).trans (congrArg (fun b => R.ok (PyData.bool b)) (by decide +kernel))
theorem eqw_times_num : cmR .eq (.str "times") (.str "num") = .ok (.bool false) := (eq_sh shw_times shw_num).trans (congrArg (fun b => R.ok (PyData.bool b)) (by decide +kernel))
theorem eqw_times_var : cmR .eq (.str "times") (.str "var") = .ok (.bool false) := (eq_sh shw_times shw_var).trans (congrArg (fun b => R.ok (PyData.bool b)) (by decide +kernel))
theorem eqw_times_power : cmR .eq (.str "times") (.str "power") = .ok (.bool false) := (eq_sh shw_times shw_power).trans (congrArg (fun b => R.ok (PyData.bool b)) (by decide +kernel))
theorem eqw_times_sum : cmR .eq (.str "times") (.str "sum") = .ok (.bool false) := (eq_sh shw_times shw_sum).trans (congrArg (fun b => R.ok (PyData.bool b)) (by decide +kernel))
theorem eqw_times_less : cmR .eq (.str "times") (.str "less") = .ok (.bool false) := (eq_sh shw_times shw_less).trans (congrArg (fun b => R.ok (PyData.bool b)) (by decide +kernel))
theorem eqw_times_times : cmR .eq (.str "times") (.str "times") = .ok (.bool true) := (eq_sh shw_times shw_times).trans (congrArg (fun b => R.ok (PyData.bool b)) (by decide +kernel))
theorem eqw_times_over : cmR .eq (.str "times") (.str "over") = .ok (.bool false) := (eq_sh shw_times shw_over).trans (congrArg (fun b => R.ok (PyData.bool b)) (by decide +kernel))
theorem eqw_times_product : cmR .eq (.str "times") (.str "product") = .ok (.bool false) := (eq_sh shw_times shw_product).trans (congrArg (fun b => R.ok (PyData.bool b)) (by decide +kernel))
theorem eqw_times_quotient : cmR .eq (.str "times") (.str "quotient") = .ok (.bool false) := (eq_sh shw_times shw_quotient).trans (congrArg (fun b => R.ok (PyData.bool b)) (by decide +kernel))
theorem eqw_over_num : cmR .eq (.str "over") (.str "num") = .ok (.bool false) := (eq_sh shw_over shw_num).trans (congrArg (fun b => R.ok (PyData.bool b)) (by decide +kernel))
theorem eqw_over_var : cmR .eq (.str "over") (.str "var") = .ok (.bool false) := (eq_sh shw_over shw_var).trans (congrArg (fun b => R.ok (PyData.bool b)) (by decide +kernel))
theorem eqw_over_power : cmR .eq (.str "over") (.str "power") = .ok (.bool false) := (eq_sh shw_over shw_power).trans (congrArg (fun b => R.ok (PyData.bool b)) (by decide +kernel))
theorem eqw_over_sum : cmR .eq (.str "over") (.str "sum") = .ok (.bool false) := (eq_sh shw_over shw_sum).trans (congrArg (fun b => R.ok (PyData.bool b)) (by decide +kernel))
theorem eqw_over_less : cmR .eq (.str "over") (.str "less") = .ok (.bool false) := (eq_sh shw_over shw_less).trans (congrArg (fun b => R.ok (PyData.bool b)) (by decide +kernel))
theorem eqw_over_times : cmR .eq (.str "over") (.str "times") = .ok (.bool false) := (eq_sh shw_over shw_times).trans (congrArg (fun b => R.ok (PyData.bool b)) (by decide +kernel))
theorem eqw_over_over : cmR .eq (.str "over") (.str "over") = .ok (.bool true) := (eq_sh shw_over shw_over).trans (congrArg (fun b => R.ok (PyData.bool b)) (by decide +kernel))
theorem eqw_over_product : cmR .eq (.str "over") (.str "product") = .ok (.bool false) := (eq_sh shw_over shw_product).trans (congrArg (fun b => R.ok (PyData.bool b)) (by decide +kernel))
theorem eqw_over_quotient : cmR .eq (.str "over") (.str "quotient") = .ok (.bool false) := (eq_sh shw_over shw_quotient).trans (congrArg (fun b => R.ok (PyData.bool b)) (by decide +kernel))
theorem eqw_product_num : cmR .eq (.str "product") (.str "num") = .ok (.bool false) := (eq_sh shw_product shw_num).trans (congrArg (fun b => R.ok (PyData.bool b)) (by decide +kernel))
theorem eqw_product_var : cmR .eq (.str "product") (.str "var") = .ok (.bool false) := (eq_sh shw_product shw_var).trans (congrArg (fun b => R.ok (PyData.bool b)) (by decide +kernel))
theorem eqw_product_power : cmR .eq (.str "product") (.str "power") = .ok (.bool false) := (eq_sh shw_product shw_power).trans (congrArg (fun b => R.ok (PyData.bool b)) (by decide +kernel))
theorem eqw_product_sum : cmR .eq (.str "product") (.str "sum") = .ok (.bool false) := (eq_sh shw_product shw_sum).trans (congrArg (fun b => R.ok (PyData.bool b)) (by decide +kernel))
theorem eqw_product_less : cmR .eq (.str "product") (.str "less") = .ok (.bool false) := (eq_sh shw_product shw_less).trans (congrArg (fun b => R.ok (PyData.bool b)) (by decide +kernel))
theorem eqw_product_times : cmR .eq (.str "product") (.str "times") = .ok (.bool false) := (eq_sh shw_product shw_times).trans (congrArg (fun b => R.ok (PyData.bool b)) (by decide +kernel))
theorem eqw_product_over : cmR .eq (.str "product") (.str "over") = .ok (.bool false) := (eq_sh shw_product shw_over).trans (congrArg (fun b => R.ok (PyData.bool b)) (by decide +kernel))
theorem eqw_product_product : cmR .eq (.str "product") (.str "product") = .ok (.bool true) := (eq_sh shw_product shw_product).trans (congrArg (fun b => R.ok (PyData.bool b)) (by decide +kernel))
theorem eqw_product_quotient : cmR .eq (.str "product") (.str "quotient") = .ok (.bool false) := (eq_sh shw_product shw_quotient).trans (congrArg (fun b => R.ok (PyData.bool b)) (by decide +kernel))
theorem eqw_quotient_num : cmR .eq (.str "quotient") (.str "num") = .ok (.bool false) := (eq_sh shw_quotient shw_num).trans (congrArg (fun b => R.ok (PyData.bool b)) (by decide +kernel))
theorem eqw_quotient_var : cmR .eq (.str "quotient") (.str "var") = .ok (.bool false) := (eq_sh shw_quotient shw_var).trans (congrArg (fun b => R.ok (PyData.bool b)) (by decide +kernel))
theorem eqw_quotient_power : cmR .eq (.str "quotient") (.str "power") = .ok (.bool false) := (eq_sh shw_quotient shw_power).trans (congrArg (fun b => R.ok (PyData.bool b)) (by decide +kernel))
theorem eqw_quotient_sum : cmR .eq (.str "quotient") (.str "sum") = .ok (.bool false) := (eq_sh shw_quotient shw_sum).trans (congrArg (fun b => R.ok (PyData.bool b)) (by decide +kernel))
theorem eqw_quotient_less : cmR .eq (.str "quotient") (.str "less") = .ok (.bool false) := (eq_sh shw_quotient shw_less).trans (congrArg (fun b => R.ok (PyData.bool b)) (by decide +kernel))
theorem eqw_quotient_times : cmR .eq (.str "quotient") (.str "times") = .ok (.bool false) := (eq_sh shw_quotient shw_times).trans (congrArg (fun b => R.ok (PyData.bool b)) (by decide +kernel))
theorem eqw_quotient_over : cmR .eq (.str "quotient") (.str "over") = .ok (.bool false) := (eq_sh shw_quotient shw_over).trans (congrArg (fun b => R.ok (PyData.bool b)) (by decide +kernel))
theorem eqw_quotient_product : cmR .eq (.str "quotient") (.str "product") = .ok (.bool false) := (eq_sh shw_quotient shw_product).trans (congrArg (fun b => R.ok (PyData.bool b)) (by decide +kernel))
theorem eqw_quotient_quotient : cmR .eq (.str "quotient") (.str "quotient") = .ok (.bool true) := (eq_sh shw_quotient shw_quotient).trans (congrArg (fun b => R.ok (PyData.bool b)) (by decide +kernel))
/-! ### things that can be compared -/
structure Dk (n : Nat) (d : D) : Prop where
  lay : d.canLay0 = true
  dep : d.depth ≤ n
theorem Dk.sh {n : Nat} {d : D} (h : Dk n d) (hn : n ≤ 64) : SeqAt.shaped d = true := by
  unfold SeqAt.shaped
  rw [h.lay, decide_eq_true (Nat.le_trans h.dep hn)]; rfl
theorem Dk.mono {m n : Nat} {d : D} (h : Dk m d) (hn : m ≤ n) : Dk n d := ⟨h.lay, Nat.le_trans h.dep hn⟩
theorem Dk.int {n : Nat} (i : Int) : Dk n (.int i) := ⟨rfl, Nat.zero_le _⟩
theorem Dk.bool {n : Nat} (i : Bool) : Dk n (.bool i) := ⟨rfl, Nat.zero_le _⟩
theorem Dk.none {n : Nat} : Dk n .none := ⟨rfl, Nat.zero_le _⟩
theorem Dk.str {n : Nat} {s : Str} (h : SeqAt.shaped (.str s) = true) : Dk n (.str s) := ⟨(Bool.and_eq_true_iff.mp h).1, Nat.zero_le _⟩
theorem dk_all {n : Nat} : ∀ {l : List D}, (∀ x ∈ l, Dk n x) → PyData.canLayAll0 l = true ∧ PyData.depthAll l ≤ n
  | [], _ => ⟨rfl, Nat.zero_le _⟩
  | x :: l, h => by
    obtain ⟨h1, h2⟩ := dk_all (l := l) fun y hy => h y (List.mem_cons_of_mem _ hy)
    have hx := h x List.mem_cons_self
    constructor
    · simp only [PyData.canLayAll0, hx.lay, h1, Bool.and_self]
    · simp only [PyData.depthAll]; exact Nat.max_le.mpr ⟨hx.dep, h2⟩
theorem Dk.tuple {n : Nat} {l : List D} (h : ∀ x ∈ l, Dk n x) : Dk (n + 1) (.tuple l) := by
  obtain ⟨h1, h2⟩ := dk_all h
  exact ⟨by simp only [PyData.canLay0]; exact h1, by simp only [PyData.depth]; omega⟩
theorem Dk.list {n : Nat} {l : List D} (h : ∀ x ∈ l, Dk n x) : Dk (n + 1) (.list l) := by
  obtain ⟨h1, h2⟩ := dk_all h
  exact ⟨by simp only [PyData.canLay0]; exact h1, by simp only [PyData.depth]; omega⟩
theorem dk_fr (q : Rat) : Dk 1 (fr q) := Dk.tuple (by
  intro x hx
  simp only [List.mem_cons, List.not_mem_nil, or_false] at hx
  rcases hx with rfl | rfl <;> exact Dk.int _)
theorem dk_st (a b : Rat) : Dk 2 (st a b) := Dk.tuple (by
  intro x hx
  simp only [List.mem_cons, List.not_mem_nil, or_false] at hx
  rcases hx with rfl | rfl <;> exact dk_fr _)
theorem eqv_same {n : Nat} {d : D} (h : Dk n d) : PyData.eqv d d = true := SeqAt.eqv_refl d h.lay
theorem eq_dk {n : Nat} {d : D} (h : Dk n d) (hn : n ≤ 64) : cmR .eq d d = .ok (.bool true) := by rw [eq_sh (h.sh hn) (h.sh hn), eqv_same h]
theorem ne_dk {n : Nat} {d : D} (h : Dk n d) (hn : n ≤ 64) : cmR .ne d d = .ok (.bool false) := by rw [ne_sh (h.sh hn) (h.sh hn), eqv_same h]; rfl
theorem nin_fr {l : List Rat} {q : Rat} : cmR .nin (fr q) (.list (l.map fr)) = .ok (.bool (!decide (q ∈ l))) := by
  have sh : SeqAt.shaped (.list (l.map fr)) = true := (Dk.list (n := 1) (by
    intro x hx
    obtain ⟨y, _, rfl⟩ := List.mem_map.mp hx
    exact dk_fr y)).sh (by decide)
  have e : ((l.map fr).any fun z => PyData.eqv z (fr q)) = decide (q ∈ l) := by
    clear sh
    induction l with
    | nil => rfl
    | cons x l ih =>
      rw [List.map_cons, List.any_cons, ih, eqv_fr]
      by_cases h : x = q
      · subst h; simp
      · have h2 : ¬ q = x := fun z => h z.symm
        simp [h, h2]
  show (if _ then _ else _) = _
  rw [if_pos ⟨sh_fr q, sh⟩, e]
theorem add_lst {a b : List D} (h : a.length + b.length ≤ sizeLine) : opR .add (.list a) (.list b) = .ok (.list (a ++ b)) := by
  show (if _ then _ else _) = _
  rw [if_pos h]
theorem bls_rep : ∀ ds : List D, blsOf (ds.map fun _ => .bool true) = some (ds.map fun _ => true)
  | [] => rfl
  | d :: ds => by rw [List.map_cons, bls_cons, bls_rep ds]; rfl
theorem all_rep (ds : List D) : bfR .all [.list (ds.map fun _ => .bool true)] = .ok (.bool true) := by
  rw [bf_all, bls_rep]
  show R.ok (PyData.bool _) = _
  congr 2
  simp
local macro_rules | `(tactic| walk_at "cw") => `(tactic| simp -implicitDefEqProofs only [ss_nil, ss_cons, goSs_next, goSs_ret, goSs_exc, goSs_brk, goSs_cont, s_asg', s_asgL2, asgL_ok, see_cons, see1_ow, see1_fr, see1_no, see1_S, ow_0, ow_S, s_app', app_some, app_exc, s_asgT', s_par', s_ret', s_iff', s_whl', s_for', s_rais', s_expr', s_brk', s_cont', s_pass', s_try', s_tryW', tryW_ret, tryW_next, tryW_exc, tryN_ret, tryN_next, tryN_exc, e_k, e_v, e_g, e_tup', e_lst', e_bin', e_neg', e_not', e_and', e_or', e_cmp', e_cmp2', e_ife', e_ix', e_sl', e_call', e_bf', e_isi', e_lc', es_nil, es_cons, and_one, and_cons, or_one, or_cons, eo_no, eo_yes, ec_no, ec_yes, ei_seq, ei_rng1, ei_rng2, ei_zip, ei_enum, gv0, gvS, see0, fl_int, fl_bool, fl_str, fl_none, fl_tup, fl_lst, bind_ok, bind_bad, bind_exc, onR_ok, onR_exc, onR_bad, toB_bool, toB_exc, eq_int, ne_int, lt_int', le_int', gt_int', ge_int', add_int', sub_int', bf_abs, bf_max, bf_min, bf_len, bf_lenT, bf_int, bf_intB, startE, List.map_cons, List.map_nil, List.length_cons, List.length_map, List.length_nil, List.cons_append, List.nil_append, List.set_cons_zero, List.set_cons_succ, List.replicate, Nat.sub_self, Nat.reduceSub, Nat.reduceAdd, if_true, if_false, Bool.false_eq_true, reduceIte, ixT0, ixT1, ixT2, outR_ret, outR_next, outR_exc, setT, setMany, wipeE, rng1_ok, rng2_ok, not_ok, neg_ok, and_t, and_f, and_ok, and_x, or_t, or_f, or_ok, or_x, ife_b, Bool.not_true, Bool.not_false, Bool.true_and, Bool.and_true, Bool.false_and, Bool.and_false, Bool.true_or, Bool.or_true, Bool.false_or, Bool.or_false, decide_true, decide_false, beq_self_eq_true, Int.reduceBEq, Int.reduceLT, Int.reduceLE, Int.reduceAdd, Int.reduceSub, Int.reduceNeg, Int.cast_ofNat_Int, fl_fr, eq_fr, ne_fr, ix_fr0, ix_fr1, ite_self, lc_nil, lc_cons, consR_s, consR_n, bf_all, bf_any, bf_sum, bf_tup, ofO_some, bls_nil, bls_cons, ints_nil, ints_cons, Option.map_some, seq_lst, seq_tup, ixL0, ixL1, ixL2, ixL3, isi_bi, isi_bb, isi_ii, isi_ib, isi_tt, List.all_cons, List.all_nil, id, pw_10_11, pw_10_12, pw_10_13, pw_10_30, pw_10_40, pw_10_6, pw_10_9, pw_2_8, pw_2_10, pw_2_12, pw_2_13, pw_2_14, pw_2_15, pw_2_16, pw_2_17, pw_2_18, pw_2_20, pw_2_24, pw_2_25, pw_2_27, pw_2_28, pw_2_30, pw_2_32, pw_2_34, pw_2_36, pw_2_38, pw_2_40, pw_2_41, pw_2_42, pw_2_44, pw_2_50, pw_2_54, pw_2_56, pw_2_60, e_rev', e_mx0', e_ins', rev_lst, s_setC', mod_pos, fdiv_pos, mul_rl, mul_ll, fl_st, ix_st0, ix_st1, cell_ok, drawn_ok, Int.reduceMul])
local macro_rules | `(tactic| walk_at "cw*") => `(tactic| simp -implicitDefEqProofs only [*, ss_nil, ss_cons, goSs_next, goSs_ret, goSs_exc, goSs_brk, goSs_cont, s_asg', s_asgL2, asgL_ok, see_cons, see1_ow, see1_fr, see1_no, see1_S, ow_0, ow_S, s_app', app_some, app_exc, s_asgT', s_par', s_ret', s_iff', s_whl', s_for', s_rais', s_expr', s_brk', s_cont', s_pass', s_try', s_tryW', tryW_ret, tryW_next, tryW_exc, tryN_ret, tryN_next, tryN_exc, e_k, e_v, e_g, e_tup', e_lst', e_bin', e_neg', e_not', e_and', e_or', e_cmp', e_cmp2', e_ife', e_ix', e_sl', e_call', e_bf', e_isi', e_lc', es_nil, es_cons, and_one, and_cons, or_one, or_cons, eo_no, eo_yes, ec_no, ec_yes, ei_seq, ei_rng1, ei_rng2, ei_zip, ei_enum, gv0, gvS, see0, fl_int, fl_bool, fl_str, fl_none, fl_tup, fl_lst, bind_ok, bind_bad, bind_exc, onR_ok, onR_exc, onR_bad, toB_bool, toB_exc, eq_int, ne_int, lt_int', le_int', gt_int', ge_int', add_int', sub_int', bf_abs, bf_max, bf_min, bf_len, bf_lenT, bf_int, bf_intB, startE, List.map_cons, List.map_nil, List.length_cons, List.length_map, List.length_nil, List.cons_append, List.nil_append, List.set_cons_zero, List.set_cons_succ, List.replicate, Nat.sub_self, Nat.reduceSub, Nat.reduceAdd, if_true, if_false, Bool.false_eq_true, reduceIte, ixT0, ixT1, ixT2, outR_ret, outR_next, outR_exc, setT, setMany, wipeE, rng1_ok, rng2_ok, not_ok, neg_ok, and_t, and_f, and_ok, and_x, or_t, or_f, or_ok, or_x, ife_b, Bool.not_true, Bool.not_false, Bool.true_and, Bool.and_true, Bool.false_and, Bool.and_false, Bool.true_or, Bool.or_true, Bool.false_or, Bool.or_false, decide_true, decide_false, beq_self_eq_true, Int.reduceBEq, Int.reduceLT, Int.reduceLE, Int.reduceAdd, Int.reduceSub, Int.reduceNeg, Int.cast_ofNat_Int, fl_fr, eq_fr, ne_fr, ix_fr0, ix_fr1, ite_self, lc_nil, lc_cons, consR_s, consR_n, bf_all, bf_any, bf_sum, bf_tup, ofO_some, bls_nil, bls_cons, ints_nil, ints_cons, Option.map_some, seq_lst, seq_tup, ixL0, ixL1, ixL2, ixL3, isi_bi, isi_bb, isi_ii, isi_ib, isi_tt, List.all_cons, List.all_nil, id, pw_10_11, pw_10_12, pw_10_13, pw_10_30, pw_10_40, pw_10_6, pw_10_9, pw_2_8, pw_2_10, pw_2_12, pw_2_13, pw_2_14, pw_2_15, pw_2_16, pw_2_17, pw_2_18, pw_2_20, pw_2_24, pw_2_25, pw_2_27, pw_2_28, pw_2_30, pw_2_32, pw_2_34, pw_2_36, pw_2_38, pw_2_40, pw_2_41, pw_2_42, pw_2_44, pw_2_50, pw_2_54, pw_2_56, pw_2_60, e_rev', e_mx0', e_ins', rev_lst, s_setC', mod_pos, fdiv_pos, mul_rl, mul_ll, fl_st, ix_st0, ix_st1, cell_ok, drawn_ok, Int.reduceMul])

section
variable {T : Nat → Option Def} [Lay b1 T] [Lay b2 T]
theorem less_ok (n : Nat) {p q : Rat} {a b : Nat} (hp : Qz a p) (hq : Qz b q) (h : a + b ≤ 134217728) : evc T (n + 1) 1010 [fr p, fr q] = .ok (.bool (decide (p < q))) := by
  rw [evc_b b2 rfl rfl]
  unfold d_law_less
  walk_at "cw"
  rw [mul_sz hp.num hq.den h, mul_sz hq.num hp.den (by omega)]
  walk_at "cw"
  rw [decide_eq_decide.mpr (Rat.lt_iff p q).symm]
theorem lawhas_ok (n : Nat) {lo hi q : Rat} {a b : Nat} (h1 : Qz a lo) (h2 : Qz a hi) (hq : Qz b q) (hab : a + b ≤ 134217728) : evc T (n + 2) 1013 [st lo hi, fr q] = .ok (.bool (decide (lo ≤ q) && decide (q ≤ hi))) := by
  rw [evc_b b2 rfl rfl]
  unfold d_law_has
  walk_at "cw"
  rw [less_ok n hq h1 (by omega), less_ok n h2 hq (by omega)]
  walk_at "cw"
  rw [← decide_not, ← decide_not, decide_eq_decide.mpr (Rat.not_lt (a := q) (b := lo)), decide_eq_decide.mpr (Rat.not_lt (a := hi) (b := q))]
theorem lawst_ok (n : Nat) {m : Int} (h : 0 ≤ m) : ∃ a b, evc T (n + 3) 1011 [.int m] = .ok (st a b) ∧ a ≤ b ∧ Qz 41 a ∧ Qz 41 b := by
  obtain ⟨p, hp, zp, hn, hd⟩ := lawfr_ok (T := T) n h
  obtain ⟨q, hq, zq, _⟩ := lawfr_ok (T := T) n (m := m / 1125899906842624 * 7 + m % 1013) (by omega)
  have key : ∃ r, Qz 41 r ∧ evc T (n + 3) 1011 [.int m] = if r < p then .ok (st r p) else .ok (st p r) := by
    have fin : ∀ r, Qz 41 r → outR (evSs (evc T (n + 2)) [.fr (.int m), .fr (fr p), .fr (fr r)] (.cons (.iff [] (.call 1010 (.cons (.v 2) (.cons (.v 1) .nil))) (.cons (.ret [] (.tup (.cons (.v 2) (.cons (.v 1) .nil)))) .nil) .nil) (.cons (.ret [] (.tup (.cons (.v 1) (.cons (.v 2) .nil)))) .nil))) = if r < p then .ok (st r p) else .ok (st p r) := by
      intro r hr
      walk_at "cw"
      rw [less_ok _ hr zp (by omega)]
      walk_at "cw"
      by_cases h : r < p
      · simp only [h]
        walk_at "cw"
        rfl
      · simp only [h]
        walk_at "cw"
        rfl
    rw [evc_b b2 rfl rfl]
    unfold d_law_stretch
    walk_at "cw"
    rw [hp]
    walk_at "cw"
    rw [hq]
    walk_at "cw"
    generalize hw : m / 1073741824 % 5 = w
    refine go_join (Q := fun o => ∃ r, Qz 41 r ∧ outR o = if r < p then .ok (st r p) else .ok (st p r)) (fun e => ∃ r, Qz 40 r ∧ e = [.fr (.int m), .fr (fr p), .fr (fr r)]) ?_ ?_
    · by_cases h0 : (w == 0) = true
      · rw [if_pos h0]; exact .mk ⟨p, zp, rfl⟩
      · rw [if_neg h0]; exact .mk ⟨q, zq, rfl⟩
    rintro e ⟨r, zr, rfl⟩
    walk_at "cw"
    rw [hw]
    refine go_join (Q := fun o => ∃ r, Qz 41 r ∧ outR o = if r < p then .ok (st r p) else .ok (st p r)) (fun e => ∃ r, Qz 41 r ∧ e = [.fr (.int m), .fr (fr p), .fr (fr r)]) ?_ ?_
    · by_cases h0 : (w == 1) = true
      · rw [if_pos h0, made_ok _ _ (den_pos p)]
        walk_at "cw"
        exact .mk ⟨_, Qz.divInt (by unfold Sz; omega) (zp.den.mono (by omega)) (by omega), rfl⟩
      · rw [if_neg h0]; exact .mk ⟨r, zr.mono (by omega), rfl⟩
    rintro e ⟨r, zr, rfl⟩
    exact ⟨r, zr, fin r zr⟩
  obtain ⟨r, zr, e⟩ := key
  rw [e]
  by_cases h : r < p
  · exact ⟨r, p, if_pos h, Rat.le_of_lt h, zr, zp.mono (by decide)⟩
  · exact ⟨p, r, if_neg h, Rat.not_lt.mp h, zp.mono (by decide), zr⟩
theorem rat_eq (q : Rat) : q * ((q.den : Int) : Rat) = ((q.num : Int) : Rat) := by
  have h := Rat.mkRat_self q
  have hd : ((q.den : Int) : Rat) ≠ 0 := by
    intro z
    have := Rat.intCast_eq_zero_iff.mp z
    have := q.den_nz
    omega
  conv => lhs; lhs; rw [← Rat.num_divInt_den q, Rat.divInt_eq_div]
  rw [Rat.div_mul_cancel hd]
theorem btw_rat (a b : Rat) (p : Int) : Rat.divInt (a.num * b.den * (16 - p) + b.num * a.den * p) (16 * a.den * b.den) = (a * (16 - p) + b * p) / 16 := by
  have ha : ((a.den : Int) : Rat) ≠ 0 := by
    intro z
    have := Rat.intCast_eq_zero_iff.mp z
    have := a.den_nz
    omega
  have hb : ((b.den : Int) : Rat) ≠ 0 := by
    intro z
    have := Rat.intCast_eq_zero_iff.mp z
    have := b.den_nz
    omega
  have ea := rat_eq a
  have eb := rat_eq b
  rw [Rat.divInt_eq_div]
  simp only [Rat.intCast_add, Rat.intCast_mul, Rat.intCast_sub]
  rw [← ea, ← eb]
  have e16 : ((16 : Int) : Rat) = 16 := rfl
  rw [e16]
  generalize ((a.den : Int) : Rat) = u at *
  generalize ((b.den : Int) : Rat) = v at *
  generalize ((p : Int) : Rat) = w at *
  have h16 : (16 : Rat) * u * v ≠ 0 := by
    intro z
    rcases Rat.mul_eq_zero.mp z with z | z
    · rcases Rat.mul_eq_zero.mp z with z | z
      · exact absurd z (by decide)
      · exact ha z
    · exact hb z
  refine div_eq' h16 ?_
  have : (a * (16 - w) + b * w) / 16 * (16 * u * v) = (a * (16 - w) + b * w) / 16 * 16 * (u * v) := by grind
  rw [this, Rat.div_mul_cancel (by decide)]
  grind
theorem between_any (n : Nat) {a b : Rat} {k : Nat} (ha : Qz k a) (hb : Qz k b) (hk : 2 * k + 8 ≤ 134217728) (m : Int) : ∃ q, evc T (n + 2) 1012 [st a b, .int m] = .ok (fr q) ∧ (a ≤ b → a ≤ q ∧ q ≤ b) ∧ Qz (2 * k + 8) q := by
  have k1 := ha.one_le
  have hp0 : 0 ≤ m / 4 % 17 := by omega
  have hp1 : m / 4 % 17 ≤ 16 := by omega
  have s1 := ha.num.mul hb.den
  have s2 := hb.num.mul ha.den
  have s3 : Sz 5 (16 - m / 4 % 17) := by unfold Sz; omega
  have s4 : Sz 5 (m / 4 % 17) := by unfold Sz; omega
  have s5 : Sz 5 (16 : Int) := by unfold Sz; decide
  have e1 := mul_sz ha.num hb.den (by omega)
  have e2 := mul_sz hb.num ha.den (by omega)
  have e3 := mul_sz s1 s3 (by omega)
  have e4 := mul_sz s2 s4 (by omega)
  have e5 := mul_sz s5 ha.den (by omega)
  have e6 := mul_sz (s5.mul ha.den) hb.den (by omega)
  have hpos : 0 < (16 : Int) * a.den * b.den := Int.mul_pos (Int.mul_pos (by decide) (den_pos a)) (den_pos b)
  have hq := btw_rat a b (m / 4 % 17)
  have lo : a ≤ b → a ≤ (a * (16 - ((m / 4 % 17 : Int) : Rat)) + b * ((m / 4 % 17 : Int) : Rat)) / 16 ∧ (a * (16 - ((m / 4 % 17 : Int) : Rat)) + b * ((m / 4 % 17 : Int) : Rat)) / 16 ≤ b := by
    intro hab
    have c0 := Rat.intCast_le_intCast.mpr hp0
    have c1 := Rat.intCast_le_intCast.mpr hp1
    rw [show ((16 : Int) : Rat) = 16 from rfl] at c1
    rw [show ((0 : Int) : Rat) = 0 from rfl] at c0
    generalize ((m / 4 % 17 : Int) : Rat) = w at *
    have i1 := Rat.mul_nonneg (by grind : 0 ≤ b - a) c0
    have i2 := Rat.mul_nonneg (by grind : 0 ≤ b - a) (by grind : 0 ≤ 16 - w)
    have z : (a * (16 - w) + b * w) / 16 * 16 = a * (16 - w) + b * w := Rat.div_mul_cancel (by decide)
    generalize (a * (16 - w) + b * w) / 16 = y at *
    constructor <;> grind
  have zq : Qz (2 * k + 8) (Rat.divInt (a.num * b.den * (16 - m / 4 % 17) + b.num * a.den * (m / 4 % 17)) (16 * a.den * b.den)) :=
    Qz.divInt (Sz.add ((s1.mul s3).mono (show _ ≤ 2 * k + 5 by omega)) ((s2.mul s4).mono (show _ ≤ 2 * k + 5 by omega)) (by omega) (by omega)) (((s5.mul ha.den).mul hb.den).mono (by omega)) (by omega)
  rw [evc_b b2 rfl rfl]
  unfold d_law_between st
  walk_at "cw"
  generalize hw : m % 4 = w
  by_cases h0 : w = 0
  · subst h0
    walk_at "cw"
    exact ⟨a, rfl, fun hab => ⟨Rat.le_refl, hab⟩, ha.mono (by omega)⟩
  · have e0 : (w == 0) = false := by simpa using h0
    simp only [e0]
    walk_at "cw"
    rw [hw]
    by_cases h1 : w = 1
    · subst h1
      walk_at "cw"
      exact ⟨b, rfl, fun hab => ⟨hab, Rat.le_refl⟩, hb.mono (by omega)⟩
    · have e0 : (w == 1) = false := by simpa using h1
      simp only [e0]
      walk_at "cw"
      rw [e1, e2]
      walk_at "cw"
      rw [e6]
      walk_at "cw"
      rw [e3, e4]
      walk_at "cw"
      rw [made_ok _ _ hpos]
      walk_at "cw"
      exact ⟨_, rfl, fun hab => by rw [hq]; exact lo hab, zq⟩
theorem between_ok (n : Nat) {a b : Rat} {k : Nat} (ha : Qz k a) (hb : Qz k b) (hab : a ≤ b) (hk : 2 * k + 8 ≤ 134217728) (m : Int) : ∃ q, evc T (n + 2) 1012 [st a b, .int m] = .ok (fr q) ∧ a ≤ q ∧ q ≤ b ∧ Qz (2 * k + 8) q := by
  obtain ⟨q, h1, h2, h3⟩ := between_any (T := T) n ha hb hk m
  exact ⟨q, h1, (h2 hab).1, (h2 hab).2, h3⟩
end
theorem sub_div (p q : Rat) : p - q = Rat.divInt (p.num * q.den - q.num * p.den) (p.den * q.den) := by
  rw [Rat.sub_eq_add_neg, add_div, Rat.neg_num, Rat.neg_den, Int.neg_mul, ← Int.sub_eq_add_neg]
theorem quo_div (p q : Rat) (s : Int) (hs : q.num * s = q.num.natAbs) (h1 : s * s = 1) : Rat.divInt (p.num * q.den * s) (p.den * q.num.natAbs) = p / q := by
  rw [← hs, div_div, ← Int.mul_assoc]
  exact Rat.divInt_mul_right (by intro z; rw [z] at h1; omega)
theorem sgn_key (q : Rat) : ∃ s : Int, 1 - 2 * (if decide (q.num < 0) = true then (1 : Int) else 0) = s ∧ s * s = 1 ∧ q.num * s = q.num.natAbs ∧ Sz 2 s := by
  by_cases hl : q.num < 0
  · rw [decide_eq_true hl]
    exact ⟨-1, rfl, rfl, by omega, by unfold Sz; decide⟩
  · rw [decide_eq_false hl]
    exact ⟨1, rfl, rfl, by omega, by unfold Sz; decide⟩
/-- a comprehension without a test: what its items are -/
theorem lc_ex {A : Type} {F : Nat → List D → R D} {own : List Nat} {elt : E} {tg : Tg} {env : List Sl} (f : A → D) (P : A → Prop) : ∀ {ds : List D}, (∀ d ∈ ds, ∃ e2 a, setT (wipeE env own) tg d = .ok e2 ∧ ev F e2 elt = .ok (f a) ∧ P a) → ∃ as : List A, lcS F own elt tg .no env ds = .ok (as.map f) ∧ as.length = ds.length ∧ ∀ a ∈ as, P a
  | [], _ => ⟨[], lc_nil, rfl, by simp⟩
  | d :: ds, h => by
    obtain ⟨e2, a, h1, h2, h3⟩ := h d List.mem_cons_self
    obtain ⟨as, z1, z2, z3⟩ := lc_ex f P (ds := ds) fun d hd => h d (List.mem_cons_of_mem _ hd)
    refine ⟨a :: as, ?_, by simp [z2], ?_⟩
    · rw [lc_cons, h1, z1]
      simp only [bind_ok, ec_no, if_true, h2, consR_s, List.map_cons]
    · intro x hx
      rcases List.mem_cons.mp hx with e | hx
      · rw [e]; exact h3
      · exact z3 x hx
theorem rngL_mem {a : Int} {n : Nat} {d : D} (h : d ∈ rngL a n) : ∃ k : Nat, k < n ∧ d = .int (a + k) := by
  obtain ⟨i, hi, e⟩ := List.getElem_of_mem h
  obtain ⟨h1, h2⟩ := rngL_get (List.getElem?_eq_some_iff.mpr ⟨hi, e⟩)
  exact ⟨i, h1, h2⟩
end Cw

set_option Elab.async false
set_option linter.all false
set_option maxRecDepth 100000
set_option maxHeartbeats 4000000
namespace Cw
open PySem
def d_worth : Def := ⟨2, 5, (.cons (.asg 2 [] (.ix (.v 0) (.k (.int 0)))) (.cons (.iff [] (.cmp .eq (.v 2) (.k (.str "num"))) (.cons (.ret [] (.ix (.v 0) (.k (.int 1)))) .nil) .nil) (.cons (.iff [] (.cmp .eq (.v 2) (.k (.str "var"))) (.cons (.ret [] (.ix (.v 1) (.ix (.v 0) (.k (.int 1))))) .nil) .nil) (.cons (.asg 3 [] (.call 33 (.cons (.ix (.v 0) (.k (.int 1))) (.cons (.v 1) .nil)))) (.cons (.iff [] (.cmp .eq (.v 2) (.k (.str "power"))) (.cons (.ret [] (.call 21 (.cons (.v 3) (.cons (.ix (.v 0) (.k (.int 2))) .nil)))) .nil) .nil) (.cons (.asg 4 [] (.call 33 (.cons (.ix (.v 0) (.k (.int 2))) (.cons (.v 1) .nil)))) (.cons (.iff [] (.cmp .eq (.v 2) (.k (.str "sum"))) (.cons (.ret [] (.call 17 (.cons (.v 3) (.cons (.v 4) .nil)))) .nil) .nil) (.cons (.iff [] (.cmp .eq (.v 2) (.k (.str "less"))) (.cons (.ret [] (.call 18 (.cons (.v 3) (.cons (.v 4) .nil)))) .nil) .nil) (.cons (.iff [] (.cmp .eq (.v 2) (.k (.str "times"))) (.cons (.ret [] (.call 19 (.cons (.v 3) (.cons (.v 4) .nil)))) .nil) .nil) (.cons (.iff [] (.cmp .eq (.v 4) (.g 0)) (.cons (.rais "NoWorth") .nil) .nil) (.cons (.ret [] (.call 20 (.cons (.v 3) (.cons (.v 4) .nil)))) .nil)))))))))))⟩
def d_law_weight : Def := ⟨1, 1, (.cons (.iff [] (.cmp .eq (.ix (.v 0) (.k (.int 0))) (.k (.str "num"))) (.cons (.ret [] (.k (.int 0))) .nil) .nil) (.cons (.iff [] (.cmp .eq (.ix (.v 0) (.k (.int 0))) (.k (.str "var"))) (.cons (.ret [] (.k (.int 1))) .nil) .nil) (.cons (.iff [] (.cmp .eq (.ix (.v 0) (.k (.int 0))) (.k (.str "power"))) (.cons (.ret [] (.bin .mul (.ix (.v 0) (.k (.int 2))) (.call 1018 (.cons (.ix (.v 0) (.k (.int 1))) .nil)))) .nil) .nil) (.cons (.iff [] (.cmp .isin (.ix (.v 0) (.k (.int 0))) (.lst (.cons (.k (.str "times")) (.cons (.k (.str "over")) .nil)))) (.cons (.ret [] (.bin .add (.call 1018 (.cons (.ix (.v 0) (.k (.int 1))) .nil)) (.call 1018 (.cons (.ix (.v 0) (.k (.int 2))) .nil)))) .nil) .nil) (.cons (.ret [] (.bf .max (.cons (.call 1018 (.cons (.ix (.v 0) (.k (.int 1))) .nil)) (.cons (.call 1018 (.cons (.ix (.v 0) (.k (.int 2))) .nil)) .nil)))) .nil)))))⟩
def d_law_grown : Def := ⟨4, 8, (.cons (.asg 4 [] (.call 1001 (.cons (.call 1000 (.cons (.v 0) (.cons (.v 1) .nil))) (.cons (.bin .add (.v 1) (.k (.int 5))) .nil)))) (.cons (.asg 5 [] (.bin .mod (.v 4) (.k (.int 16)))) (.cons (.asg 4 [] (.bin .fdiv (.v 4) (.k (.int 16)))) (.cons (.iff [] (.or (.cons (.cmp .eq (.v 2) (.k (.int 1))) (.cons (.cmp .lt (.v 5) (.k (.int 3))) .nil))) (.cons (.iff [] (.and (.cons (.cmp .lt (.bin .mod (.v 4) (.k (.int 5))) (.k (.int 3))) (.cons (.cmp .gt (.v 3) (.k (.int 0))) .nil))) (.cons (.ret [] (.tup (.cons (.k (.str "var")) (.cons (.bin .mod (.bin .fdiv (.v 4) (.k (.int 8))) (.v 3)) .nil)))) .nil) .nil) (.cons (.asg 7 [] (.bin .mul (.bin .mod (.bin .fdiv (.v 4) (.k (.int 8))) (.bin .pow (.k (.int 2)) (.k (.int 60)))) (.ix (.lst (.cons (.k (.int 1)) (.cons (.bin .pow (.k (.int 2)) (.k (.int 42))) .nil))) (.bin .mod (.bin .fdiv (.v 4) (.k (.int 16))) (.k (.int 2)))))) (.cons (.ret [] (.tup (.cons (.k (.str "num")) (.cons (.call 1003 (.cons (.bin .fdiv (.v 7) (.ix (.lst (.cons (.k (.int 1)) (.cons (.bin .pow (.k (.int 2)) (.k (.int 41))) .nil))) (.bin .mod (.bin .fdiv (.v 4) (.k (.int 32))) (.k (.int 2))))) .nil)) .nil)))) .nil))) .nil) (.cons (.iff [] (.cmp .lt (.v 5) (.k (.int 5))) (.cons (.ret [] (.tup (.cons (.k (.str "power")) (.cons (.call 1019 (.cons (.v 0) (.cons (.bin .add (.bin .mul (.k (.int 3)) (.v 1)) (.k (.int 1))) (.cons (.bin .sub (.v 2) (.k (.int 1))) (.cons (.v 3) .nil))))) (.cons (.bin .mod (.v 4) (.k (.int 5))) .nil))))) .nil) .nil) (.cons (.asg 6 [] (.ix (.lst (.cons (.k (.str "sum")) (.cons (.k (.str "less")) (.cons (.k (.str "times")) (.cons (.k (.str "sum")) (.cons (.k (.str "less")) (.cons (.k (.str "times")) (.cons (.k (.str "times")) (.cons (.k (.str "over")) (.cons (.k (.str "sum")) (.cons (.k (.str "times")) (.cons (.k (.str "less")) .nil)))))))))))) (.bin .sub (.v 5) (.k (.int 5))))) (.cons (.ret [] (.tup (.cons (.v 6) (.cons (.call 1019 (.cons (.v 0) (.cons (.bin .add (.bin .mul (.k (.int 3)) (.v 1)) (.k (.int 1))) (.cons (.bin .sub (.v 2) (.k (.int 1))) (.cons (.v 3) .nil))))) (.cons (.call 1019 (.cons (.v 0) (.cons (.bin .add (.bin .mul (.k (.int 3)) (.v 1)) (.k (.int 2))) (.cons (.bin .sub (.v 2) (.k (.int 1))) (.cons (.v 3) .nil))))) .nil))))) .nil)))))))⟩
def d_law_term : Def := ⟨3, 5, (.cons (.for_ [] (.one 3) (.seq (.lst (.cons (.k (.int 5)) (.cons (.k (.int 4)) (.cons (.k (.int 3)) (.cons (.k (.int 2)) .nil)))))) (.cons (.asg 4 [] (.call 1019 (.cons (.v 0) (.cons (.v 1) (.cons (.v 3) (.cons (.v 2) .nil)))))) (.cons (.iff [] (.cmp .le (.call 1018 (.cons (.v 4) .nil)) (.k (.int 24))) (.cons (.ret [] (.v 4)) .nil) .nil) .nil))) (.cons (.ret [] (.tup (.cons (.k (.str "var")) (.cons (.k (.int 0)) .nil)))) .nil))⟩
def d_law_worth : Def := ⟨2, 8, (.cons (.asg 2 [] (.ix (.v 0) (.k (.int 0)))) (.cons (.iff [] (.cmp .eq (.v 2) (.k (.str "num"))) (.cons (.ret [] (.ix (.v 0) (.k (.int 1)))) .nil) .nil) (.cons (.iff [] (.cmp .eq (.v 2) (.k (.str "var"))) (.cons (.ret [] (.ix (.v 1) (.ix (.v 0) (.k (.int 1))))) .nil) .nil) (.cons (.asg 3 [] (.call 1021 (.cons (.ix (.v 0) (.k (.int 1))) (.cons (.v 1) .nil)))) (.cons (.iff [] (.cmp .eq (.v 2) (.k (.str "power"))) (.cons (.iff [] (.cmp .is (.v 3) (.k .none)) (.cons (.ret [] (.k .none)) .nil) .nil) (.cons (.asg 6 [] (.tup (.cons (.k (.int 1)) (.cons (.k (.int 1)) .nil)))) (.cons (.for_ [] (.one 7) (.rng1 (.ix (.v 0) (.k (.int 2)))) (.cons (.asg 6 [] (.tup (.cons (.bin .mul (.ix (.v 6) (.k (.int 0))) (.ix (.v 3) (.k (.int 0)))) (.cons (.bin .mul (.ix (.v 6) (.k (.int 1))) (.ix (.v 3) (.k (.int 1)))) .nil)))) .nil)) (.cons (.ret [] (.v 6)) .nil)))) .nil) (.cons (.asg 4 [] (.call 1021 (.cons (.ix (.v 0) (.k (.int 2))) (.cons (.v 1) .nil)))) (.cons (.iff [] (.or (.cons (.cmp .is (.v 3) (.k .none)) (.cons (.cmp .is (.v 4) (.k .none)) (.cons (.and (.cons (.cmp .eq (.v 2) (.k (.str "over"))) (.cons (.cmp .eq (.ix (.v 4) (.k (.int 0))) (.k (.int 0))) .nil))) .nil)))) (.cons (.ret [] (.k .none)) .nil) .nil) (.cons (.iff [] (.cmp .eq (.v 2) (.k (.str "over"))) (.cons (.ret [] (.call 1002 (.cons (.bin .mul (.bin .mul (.ix (.v 3) (.k (.int 0))) (.ix (.v 4) (.k (.int 1)))) (.bin .sub (.k (.int 1)) (.bin .mul (.k (.int 2)) (.bf .int (.cons (.cmp .lt (.ix (.v 4) (.k (.int 0))) (.k (.int 0))) .nil))))) (.cons (.bin .mul (.ix (.v 3) (.k (.int 1))) (.bf .abs (.cons (.ix (.v 4) (.k (.int 0))) .nil))) .nil)))) .nil) .nil) (.cons (.iff [] (.cmp .eq (.v 2) (.k (.str "times"))) (.cons (.ret [] (.call 1002 (.cons (.bin .mul (.ix (.v 3) (.k (.int 0))) (.ix (.v 4) (.k (.int 0)))) (.cons (.bin .mul (.ix (.v 3) (.k (.int 1))) (.ix (.v 4) (.k (.int 1)))) .nil)))) .nil) .nil) (.cons (.asg 5 [] (.bin .sub (.k (.int 1)) (.bin .mul (.k (.int 2)) (.bf .int (.cons (.cmp .eq (.v 2) (.k (.str "less"))) .nil))))) (.cons (.ret [] (.call 1002 (.cons (.bin .add (.bin .mul (.ix (.v 3) (.k (.int 0))) (.ix (.v 4) (.k (.int 1)))) (.bin .mul (.bin .mul (.v 5) (.ix (.v 4) (.k (.int 0)))) (.ix (.v 3) (.k (.int 1))))) (.cons (.bin .mul (.ix (.v 3) (.k (.int 1))) (.ix (.v 4) (.k (.int 1)))) .nil)))) .nil)))))))))))⟩
def b3 : List (Nat × Def) := [(33, d_worth), (1018, d_law_weight), (1019, d_law_grown), (1020, d_law_term), (1021, d_law_worth)]

/-! ### terms -/
inductive Bo where
  | sum | less | times | over
  deriving DecidableEq
def Bo.s : Bo → Str
  | .sum => "sum"
  | .less => "less"
  | .times => "times"
  | .over => "over"
inductive Tm where
  | num (q : Rat)
  | var (i : Nat)
  | pow (t : Tm) (k : Nat)
  | bin (o : Bo) (a b : Tm)
def tmD : Tm → D
  | .num q => .tuple [.str "num", fr q]
  | .var i => .tuple [.str "var", .int i]
  | .pow t k => .tuple [.str "power", tmD t, .int k]
  | .bin o a b => .tuple [.str o.s, tmD a, tmD b]
def Tm.dep : Tm → Nat
  | .num _ => 1
  | .var _ => 1
  | .pow t _ => t.dep + 1
  | .bin _ a b => max a.dep b.dep + 1
def Bo.ap : Bo → Rat → Rat → Option Rat
  | .sum, x, y => some (x + y)
  | .less, x, y => some (x - y)
  | .times, x, y => some (x * y)
  | .over, x, y => if y = 0 then none else some (x / y)
def Tm.w (p : List Rat) : Tm → Option Rat
  | .num q => some q
  | .var i => p[i]?
  | .pow t k => (t.w p).map fun x => x ^ k
  | .bin o a b => match a.w p, b.w p with
    | some x, some y => o.ap x y
    | _, _ => none
/-- numbers of m bits, variables below v, powers of 4 at most -/
def Tm.good (m v : Nat) : Tm → Prop
  | .num q => Qz m q
  | .var i => i < v
  | .pow t k => t.good m v ∧ k ≤ 4
  | .bin _ a b => a.good m v ∧ b.good m v
/-- variables and powers alone -/
def Tm.shp (v : Nat) : Tm → Prop
  | .num _ => True
  | .var i => i < v
  | .pow t k => t.shp v ∧ k ≤ 6
  | .bin _ a b => a.shp v ∧ b.shp v
theorem Tm.good.shp {m v : Nat} : ∀ {t : Tm}, t.good m v → t.shp v
  | .num _, _ => trivial
  | .var _, g => g
  | .pow _ _, g => ⟨g.1.shp, Nat.le_trans g.2 (by decide)⟩
  | .bin _ _ _, g => ⟨g.1.shp, g.2.shp⟩
/-- how many bits a fraction's numbers have -/
def qb (q : Rat) : Nat := Nat.log2 (max q.num.natAbs q.den) + 1
theorem qz_qb (q : Rat) : Qz (qb q) q := by
  have h : max q.num.natAbs q.den < 2 ^ qb q := Nat.lt_log2_self
  exact ⟨by unfold Sz; omega, by unfold Sz; omega⟩
theorem qb_le {m : Nat} {q : Rat} (h : Qz m q) : qb q ≤ m := by
  have hd := q.den_nz
  have h1 := h.num
  have h2 := h.den
  unfold Sz at h1 h2
  unfold qb
  exact (Nat.log2_lt (by omega)).mpr (by omega)
def Tm.sz (m : Nat) : Tm → Nat
  | .num q => qb q
  | .var _ => m
  | .pow t k => t.sz m * (k + 1) + 1
  | .bin _ a b => a.sz m + b.sz m + 1
def Tm.wt : Tm → Nat
  | .num _ => 0
  | .var _ => 1
  | .pow t k => k * t.wt
  | .bin .times a b => a.wt + b.wt
  | .bin .over a b => a.wt + b.wt
  | .bin _ a b => max a.wt b.wt
def ptD (p : List Rat) : D := .tuple (p.map fr)
def wR : Option Rat → R D
  | some q => .ok (fr q)
  | none => .exc "NoWorth"
def oD : Option Rat → D
  | some q => fr q
  | none => .none
theorem Tm.dep_pos : ∀ t : Tm, 1 ≤ t.dep
  | .num _ => Nat.le_refl _
  | .var _ => Nat.le_refl _
  | .pow _ _ => by simp [Tm.dep]
  | .bin _ _ _ => by simp [Tm.dep]
theorem w_qz {m : Nat} {p : List Rat} (hp : ∀ x ∈ p, Qz m x) : ∀ {t : Tm} {v : Nat} {q : Rat}, t.shp v → t.w p = some q → Qz (t.sz m) q
  | .num _, _, _, g, h => by cases h; exact qz_qb _
  | .var i, _, _, _, h => hp _ (List.mem_of_getElem? h)
  | .pow t k, v, q, g, h => by
    simp only [Tm.w] at h
    cases e : t.w p with
    | none => rw [e] at h; cases h
    | some x =>
      rw [e] at h
      cases h
      have z := (w_qz hp g.1 e).pow k
      refine z.mono ?_
      simp only [Tm.sz, Nat.mul_add]
      omega
  | .bin o a b, v, q, g, h => by
    simp only [Tm.w] at h
    cases ea : a.w p with
    | none => rw [ea] at h; cases h
    | some x =>
      cases eb : b.w p with
      | none => rw [ea, eb] at h; cases h
      | some y =>
        rw [ea, eb] at h
        have zx := w_qz hp g.1 ea
        have zy := w_qz hp g.2 eb
        dsimp only at h
        simp only [Tm.sz]
        cases o with
        | sum => cases h; exact zx.add zy
        | less => cases h; exact zx.sub zy
        | times => cases h; exact (zx.mul zy).mono (by omega)
        | over =>
          unfold Bo.ap at h
          dsimp only at h
          split at h
          · cases h
          · cases h; exact (zx.div zy).mono (by omega)
theorem sz_le {m v : Nat} : ∀ {t : Tm}, t.good m v → t.sz m + 1 ≤ (m + 1) * 6 ^ (t.dep - 1)
  | .num _, g => by have := qb_le g; simp [Tm.sz, Tm.dep]; omega
  | .var _, _ => by simp [Tm.sz, Tm.dep]
  | .pow t k, g => by
    have i := sz_le g.1
    have d := t.dep_pos
    simp only [Tm.sz, Tm.dep]
    rw [show t.dep + 1 - 1 = (t.dep - 1) + 1 from by omega, Nat.pow_succ, ← Nat.mul_assoc]
    have : t.sz m * (k + 1) ≤ t.sz m * 5 := Nat.mul_le_mul_left _ (by have := g.2; omega)
    omega
  | .bin o a b, g => by
    have i := sz_le g.1
    have j := sz_le g.2
    have d := a.dep_pos
    have d2 := b.dep_pos
    simp only [Tm.sz, Tm.dep]
    rw [show max a.dep b.dep + 1 - 1 = (max a.dep b.dep - 1) + 1 from by omega, Nat.pow_succ, ← Nat.mul_assoc]
    have h1 : (m + 1) * 6 ^ (a.dep - 1) ≤ (m + 1) * 6 ^ (max a.dep b.dep - 1) := Nat.mul_le_mul_left _ (Nat.pow_le_pow_right (by decide) (by omega))
    have h2 : (m + 1) * 6 ^ (b.dep - 1) ≤ (m + 1) * 6 ^ (max a.dep b.dep - 1) := Nat.mul_le_mul_left _ (Nat.pow_le_pow_right (by decide) (by omega))
    omega
theorem fl_tm {t : Tm} : flatD (tmD t) = false := by cases t <;> rfl
theorem ixp_ok {p : List Rat} {i : Nat} {q : Rat} (h : p[i]? = some q) : ixR (.tuple (p.map fr)) (.int i) = .ok (fr q) := by
  rw [ixT_nat, List.getElem?_map, h]; rfl
local macro_rules | `(tactic| walk_at "cw") => `(tactic| simp -implicitDefEqProofs only [ss_nil, ss_cons, goSs_next, goSs_ret, goSs_exc, goSs_brk, goSs_cont, s_asg', s_asgL2, asgL_ok, see_cons, see1_ow, see1_fr, see1_no, see1_S, ow_0, ow_S, s_app', app_some, app_exc, s_asgT', s_par', s_ret', s_iff', s_whl', s_for', s_rais', s_expr', s_brk', s_cont', s_pass', s_try', s_tryW', tryW_ret, tryW_next, tryW_exc, tryN_ret, tryN_next, tryN_exc, e_k, e_v, e_g, e_tup', e_lst', e_bin', e_neg', e_not', e_and', e_or', e_cmp', e_cmp2', e_ife', e_ix', e_sl', e_call', e_bf', e_isi', e_lc', es_nil, es_cons, and_one, and_cons, or_one, or_cons, eo_no, eo_yes, ec_no, ec_yes, ei_seq, ei_rng1, ei_rng2, ei_zip, ei_enum, gv0, gvS, see0, fl_int, fl_bool, fl_str, fl_none, fl_tup, fl_lst, bind_ok, bind_bad, bind_exc, onR_ok, onR_exc, onR_bad, toB_bool, toB_exc, eq_int, ne_int, lt_int', le_int', gt_int', ge_int', add_int', sub_int', bf_abs, bf_max, bf_min, bf_len, bf_lenT, bf_int, bf_intB, startE, List.map_cons, List.map_nil, List.length_cons, List.length_map, List.length_nil, List.cons_append, List.nil_append, List.set_cons_zero, List.set_cons_succ, List.replicate, Nat.sub_self, Nat.reduceSub, Nat.reduceAdd, if_true, if_false, Bool.false_eq_true, reduceIte, ixT0, ixT1, ixT2, outR_ret, outR_next, outR_exc, setT, setMany, wipeE, rng1_ok, rng2_ok, not_ok, neg_ok, and_t, and_f, and_ok, and_x, or_t, or_f, or_ok, or_x, ife_b, Bool.not_true, Bool.not_false, Bool.true_and, Bool.and_true, Bool.false_and, Bool.and_false, Bool.true_or, Bool.or_true, Bool.false_or, Bool.or_false, decide_true, decide_false, beq_self_eq_true, Int.reduceBEq, Int.reduceLT, Int.reduceLE, Int.reduceAdd, Int.reduceSub, Int.reduceNeg, Int.cast_ofNat_Int, fl_fr, eq_fr, ne_fr, ix_fr0, ix_fr1, ite_self, lc_nil, lc_cons, consR_s, consR_n, bf_all, bf_any, bf_sum, bf_tup, ofO_some, bls_nil, bls_cons, ints_nil, ints_cons, Option.map_some, seq_lst, seq_tup, ixL0, ixL1, ixL2, ixL3, isi_bi, isi_bb, isi_ii, isi_ib, isi_tt, List.all_cons, List.all_nil, id, pw_10_11, pw_10_12, pw_10_13, pw_10_30, pw_10_40, pw_10_6, pw_10_9, pw_2_8, pw_2_10, pw_2_12, pw_2_13, pw_2_14, pw_2_15, pw_2_16, pw_2_17, pw_2_18, pw_2_20, pw_2_24, pw_2_25, pw_2_27, pw_2_28, pw_2_30, pw_2_32, pw_2_34, pw_2_36, pw_2_38, pw_2_40, pw_2_41, pw_2_42, pw_2_44, pw_2_50, pw_2_54, pw_2_56, pw_2_60, e_rev', e_mx0', e_ins', rev_lst, s_setC', mod_pos, fdiv_pos, mul_rl, mul_ll, fl_st, ix_st0, ix_st1, cell_ok, drawn_ok, Int.reduceMul, fl_tm, cst0, eqw_num_num, eqw_num_var, eqw_num_power, eqw_num_sum, eqw_num_less, eqw_num_times, eqw_num_over, eqw_var_num, eqw_var_var, eqw_var_power, eqw_var_sum, eqw_var_less, eqw_var_times, eqw_var_over, eqw_power_num, eqw_power_var, eqw_power_power, eqw_power_sum, eqw_power_less, eqw_power_times, eqw_power_over, eqw_sum_num, eqw_sum_var, eqw_sum_power, eqw_sum_sum, eqw_sum_less, eqw_sum_times, eqw_sum_over, eqw_less_num, eqw_less_var, eqw_less_power, eqw_less_sum, eqw_less_less, eqw_less_times, eqw_less_over, eqw_times_num, eqw_times_var, eqw_times_power, eqw_times_sum, eqw_times_less, eqw_times_times, eqw_times_over, eqw_over_num, eqw_over_var, eqw_over_power, eqw_over_sum, eqw_over_less, eqw_over_times, eqw_over_over])
local macro_rules | `(tactic| walk_at "cw*") => `(tactic| simp -implicitDefEqProofs only [*, ss_nil, ss_cons, goSs_next, goSs_ret, goSs_exc, goSs_brk, goSs_cont, s_asg', s_asgL2, asgL_ok, see_cons, see1_ow, see1_fr, see1_no, see1_S, ow_0, ow_S, s_app', app_some, app_exc, s_asgT', s_par', s_ret', s_iff', s_whl', s_for', s_rais', s_expr', s_brk', s_cont', s_pass', s_try', s_tryW', tryW_ret, tryW_next, tryW_exc, tryN_ret, tryN_next, tryN_exc, e_k, e_v, e_g, e_tup', e_lst', e_bin', e_neg', e_not', e_and', e_or', e_cmp', e_cmp2', e_ife', e_ix', e_sl', e_call', e_bf', e_isi', e_lc', es_nil, es_cons, and_one, and_cons, or_one, or_cons, eo_no, eo_yes, ec_no, ec_yes, ei_seq, ei_rng1, ei_rng2, ei_zip, ei_enum, gv0, gvS, see0, fl_int, fl_bool, fl_str, fl_none, fl_tup, fl_lst, bind_ok, bind_bad, bind_exc, onR_ok, onR_exc, onR_bad, toB_bool, toB_exc, eq_int, ne_int, lt_int', le_int', gt_int', ge_int', add_int', sub_int', bf_abs, bf_max, bf_min, bf_len, bf_lenT, bf_int, bf_intB, startE, List.map_cons, List.map_nil, List.length_cons, List.length_map, List.length_nil, List.cons_append, List.nil_append, List.set_cons_zero, List.set_cons_succ, List.replicate, Nat.sub_self, Nat.reduceSub, Nat.reduceAdd, if_true, if_false, Bool.false_eq_true, reduceIte, ixT0, ixT1, ixT2, outR_ret, outR_next, outR_exc, setT, setMany, wipeE, rng1_ok, rng2_ok, not_ok, neg_ok, and_t, and_f, and_ok, and_x, or_t, or_f, or_ok, or_x, ife_b, Bool.not_true, Bool.not_false, Bool.true_and, Bool.and_true, Bool.false_and, Bool.and_false, Bool.true_or, Bool.or_true, Bool.false_or, Bool.or_false, decide_true, decide_false, beq_self_eq_true, Int.reduceBEq, Int.reduceLT, Int.reduceLE, Int.reduceAdd, Int.reduceSub, Int.reduceNeg, Int.cast_ofNat_Int, fl_fr, eq_fr, ne_fr, ix_fr0, ix_fr1, ite_self, lc_nil, lc_cons, consR_s, consR_n, bf_all, bf_any, bf_sum, bf_tup, ofO_some, bls_nil, bls_cons, ints_nil, ints_cons, Option.map_some, seq_lst, seq_tup, ixL0, ixL1, ixL2, ixL3, isi_bi, isi_bb, isi_ii, isi_ib, isi_tt, List.all_cons, List.all_nil, id, pw_10_11, pw_10_12, pw_10_13, pw_10_30, pw_10_40, pw_10_6, pw_10_9, pw_2_8, pw_2_10, pw_2_12, pw_2_13, pw_2_14, pw_2_15, pw_2_16, pw_2_17, pw_2_18, pw_2_20, pw_2_24, pw_2_25, pw_2_27, pw_2_28, pw_2_30, pw_2_32, pw_2_34, pw_2_36, pw_2_38, pw_2_40, pw_2_41, pw_2_42, pw_2_44, pw_2_50, pw_2_54, pw_2_56, pw_2_60, e_rev', e_mx0', e_ins', rev_lst, s_setC', mod_pos, fdiv_pos, mul_rl, mul_ll, fl_st, ix_st0, ix_st1, cell_ok, drawn_ok, Int.reduceMul, fl_tm, cst0, eqw_num_num, eqw_num_var, eqw_num_power, eqw_num_sum, eqw_num_less, eqw_num_times, eqw_num_over, eqw_var_num, eqw_var_var, eqw_var_power, eqw_var_sum, eqw_var_less, eqw_var_times, eqw_var_over, eqw_power_num, eqw_power_var, eqw_power_power, eqw_power_sum, eqw_power_less, eqw_power_times, eqw_power_over, eqw_sum_num, eqw_sum_var, eqw_sum_power, eqw_sum_sum, eqw_sum_less, eqw_sum_times, eqw_sum_over, eqw_less_num, eqw_less_var, eqw_less_power, eqw_less_sum, eqw_less_less, eqw_less_times, eqw_less_over, eqw_times_num, eqw_times_var, eqw_times_power, eqw_times_sum, eqw_times_less, eqw_times_times, eqw_times_over, eqw_over_num, eqw_over_var, eqw_over_power, eqw_over_sum, eqw_over_less, eqw_over_times, eqw_over_over])

section
variable {T : Nat → Option Def} [Lay b1 T] [Lay b2 T] [Lay b3 T]
theorem worth_ok {m v : Nat} {p : List Rat} (hp : ∀ x ∈ p, Qz m x) (hv : v ≤ p.length) : ∀ (t : Tm) (n : Nat), t.shp v → t.sz m ≤ 134217728 → t.dep ≤ n → evc T (n + 4) 33 [tmD t, ptD p] = wR (t.w p)
  | .num q, n, g, hs, hn => by
    rw [evc_b b3 rfl rfl]
    unfold d_worth ptD
    simp only [tmD, Tm.w, wR]
    walk_at "cw"
  | .var i, n, g, hs, hn => by
    have hi : i < p.length := Nat.lt_of_lt_of_le g hv
    have e := List.getElem?_eq_getElem hi
    rw [evc_b b3 rfl rfl]
    unfold d_worth ptD
    simp only [tmD, Tm.w, wR]
    walk_at "cw"
    rw [ixp_ok e, e]
    walk_at "cw"
  | .pow t k, n, g, hs, hn => by
    obtain ⟨n, rfl⟩ : ∃ j, n = j + 1 := ⟨n - 1, by simp only [Tm.dep] at hn; omega⟩
    simp only [Tm.sz] at hs
    have ih := worth_ok hp hv t n g.1 (by rw [Nat.mul_add] at hs; omega) (by simp only [Tm.dep] at hn; omega)
    rw [evc_b b3 rfl rfl]
    unfold d_worth
    simp only [tmD, Tm.w, wR]
    walk_at "cw"
    rw [ih]
    cases e : t.w p with
    | none =>
      simp only [wR, Option.map_none]
      walk_at "cw"
    | some x =>
      simp only [wR, Option.map_some]
      walk_at "cw"
      rw [power_ok _ (w_qz hp g.1 e) (by rw [Nat.mul_add] at hs; omega) (by have := g.2; omega)]
      walk_at "cw"
  | .bin o a b, n, g, hs, hn => by
    obtain ⟨n, rfl⟩ : ∃ j, n = j + 1 := ⟨n - 1, by simp only [Tm.dep] at hn; omega⟩
    simp only [Tm.sz] at hs
    have i1 := worth_ok hp hv a n g.1 (by omega) (by simp only [Tm.dep] at hn; omega)
    have i2 := worth_ok hp hv b n g.2 (by omega) (by simp only [Tm.dep] at hn; omega)
    rw [evc_b b3 rfl rfl]
    unfold d_worth
    simp only [tmD, Tm.w]
    cases ea : a.w p with
    | none =>
      rw [ea] at i1
      simp only [wR] at i1 ⊢
      cases o <;> simp only [Bo.s] <;> walk_at "cw" <;> rw [i1] <;> walk_at "cw"
    | some x =>
      rw [ea] at i1
      have zx := w_qz hp g.1 ea
      cases eb : b.w p with
      | none =>
        rw [eb] at i2
        simp only [wR] at i1 i2 ⊢
        cases o <;> simp only [Bo.s] <;> walk_at "cw" <;> rw [i1] <;> walk_at "cw" <;> rw [i2] <;> walk_at "cw"
      | some y =>
        rw [eb] at i2
        have zy := w_qz hp g.2 eb
        simp only [wR] at i1 i2 ⊢
        cases o with
        | sum =>
          simp only [Bo.s, Bo.ap]
          have o1 := plus_ok (T := T) (n + 1) zx zy (by omega)
          walk_at "cw"; rw [i1]; walk_at "cw"; rw [i2]; walk_at "cw"; rw [o1]; walk_at "cw"
        | less =>
          simp only [Bo.s, Bo.ap]
          have o1 := minus_ok (T := T) n zx zy (by omega)
          walk_at "cw"; rw [i1]; walk_at "cw"; rw [i2]; walk_at "cw"; rw [o1]; walk_at "cw"
        | times =>
          simp only [Bo.s, Bo.ap]
          have o1 := times_ok (T := T) (n + 1) zx zy (by omega)
          walk_at "cw"; rw [i1]; walk_at "cw"; rw [i2]; walk_at "cw"; rw [o1]; walk_at "cw"
        | over =>
          simp only [Bo.s, Bo.ap]
          walk_at "cw"; rw [i1]; walk_at "cw"; rw [i2]; walk_at "cw"
          by_cases h0 : y = 0
          · simp only [h0]
            walk_at "cw"
          · have o1 := over_ok (T := T) (n + 1) zx zy (by omega) h0
            simp only [h0]
            walk_at "cw"; rw [o1]; walk_at "cw"
theorem is_fr {q : Rat} : cmR .is (fr q) .none = .ok (.bool false) := rfl
theorem isn_fr {q : Rat} : cmR .isn (fr q) .none = .ok (.bool true) := rfl
theorem is_non : cmR .is .none .none = .ok (.bool true) := rfl
theorem isn_non : cmR .isn .none .none = .ok (.bool false) := rfl
theorem isin_sh {a : D} {l : List D} (ha : SeqAt.shaped a = true) (hb : SeqAt.shaped (.list l) = true) : cmR .isin a (.list l) = .ok (.bool (l.any fun z => PyData.eqv z a)) := by
  show (if _ then _ else _) = _
  rw [if_pos ⟨ha, hb⟩]
theorem in_to (o : Bo) : cmR .isin (.str o.s) (.list [.str "times", .str "over"]) = .ok (.bool (decide (o = .times ∨ o = .over))) := by
  cases o <;> exact (isin_sh (by decide +kernel) (by decide +kernel)).trans (congrArg (fun b => R.ok (PyData.bool b)) (by decide +kernel))
theorem lawweight_ok {v : Nat} : ∀ (t : Tm) (n : Nat), t.shp v → t.dep ≤ n → evc T (n + 1) 1018 [tmD t] = .ok (.int t.wt)
  | .num q, n, g, hn => by
    rw [evc_b b3 rfl rfl]
    unfold d_law_weight
    simp only [tmD, Tm.wt]
    walk_at "cw"
    try rfl
  | .var i, n, g, hn => by
    rw [evc_b b3 rfl rfl]
    unfold d_law_weight
    simp only [tmD, Tm.wt]
    walk_at "cw"
    try rfl
  | .pow t k, n, g, hn => by
    obtain ⟨n, rfl⟩ : ∃ j, n = j + 1 := ⟨n - 1, by simp only [Tm.dep] at hn; omega⟩
    have ih := lawweight_ok t n g.1 (by simp only [Tm.dep] at hn; omega)
    rw [evc_b b3 rfl rfl]
    unfold d_law_weight
    simp only [tmD, Tm.wt]
    walk_at "cw"
    rw [ih]
    walk_at "cw"
    rw [mul_l (by have := g.2; omega)]
    walk_at "cw"
    rfl
  | .bin o a b, n, g, hn => by
    obtain ⟨n, rfl⟩ : ∃ j, n = j + 1 := ⟨n - 1, by simp only [Tm.dep] at hn; omega⟩
    have i1 := lawweight_ok a n g.1 (by simp only [Tm.dep] at hn; omega)
    have i2 := lawweight_ok b n g.2 (by simp only [Tm.dep] at hn; omega)
    have hi := in_to o
    rw [evc_b b3 rfl rfl]
    unfold d_law_weight
    simp only [tmD]
    cases o <;> simp only [Bo.s, Tm.wt, reduceCtorEq, or_self, or_true, true_or, decide_true, decide_false] at hi ⊢ <;> walk_at "cw" <;> rw [hi] <;> walk_at "cw" <;> rw [i1, i2] <;> walk_at "cw" <;> congr 2 <;> omega
theorem lawworth_ok {m v : Nat} {p : List Rat} (hp : ∀ x ∈ p, Qz m x) (hv : v ≤ p.length) : ∀ (t : Tm) (n : Nat), t.shp v → t.sz m + 4 ≤ 134217728 → t.dep ≤ n → evc T (n + 2) 1021 [tmD t, ptD p] = .ok (oD (t.w p))
  | .num q, n, g, hs, hn => by
    rw [evc_b b3 rfl rfl]
    unfold d_law_worth ptD
    simp only [tmD, Tm.w, oD]
    walk_at "cw"
  | .var i, n, g, hs, hn => by
    have hi : i < p.length := Nat.lt_of_lt_of_le g hv
    have e := List.getElem?_eq_getElem hi
    rw [evc_b b3 rfl rfl]
    unfold d_law_worth ptD
    simp only [tmD, Tm.w]
    walk_at "cw"
    rw [ixp_ok e, e]
    simp only [oD]
    walk_at "cw"
  | .pow t k, n, g, hs, hn => by
    obtain ⟨n, rfl⟩ : ∃ j, n = j + 1 := ⟨n - 1, by simp only [Tm.dep] at hn; omega⟩
    simp only [Tm.sz] at hs
    have hs2 : t.sz m * k + t.sz m + 1 ≤ 134217728 := by rw [Nat.mul_add] at hs; omega
    have ih := lawworth_ok hp hv t n g.1 (by rw [Nat.mul_add] at hs; omega) (by simp only [Tm.dep] at hn; omega)
    rw [evc_b b3 rfl rfl]
    unfold d_law_worth
    simp only [tmD, Tm.w]
    walk_at "cw"
    rw [ih]
    cases e : t.w p with
    | none =>
      simp only [oD, Option.map_none]
      walk_at "cw"
      rfl
    | some x =>
      simp only [oD, Option.map_some]
      have zx := w_qz hp g.1 e
      walk_at "cw"
      rw [is_fr]
      walk_at "cw"
      rw [rng_nat (by have := g.2; omega)]
      walk_at "cw"
      refine for_post (Q := fun o => outR (goSs _ _ o) = .ok (fr (x ^ k))) (fun j e => ∃ s, e = [.fr (.tuple [.str "power", tmD t, .int k]), .fr (ptD p), .fr (.str "power"), .fr (fr x), .no, .no, .fr (.tuple [.int (x.num ^ j), .int ((x.den : Int) ^ j)]), s]) ⟨_, by rw [Int.pow_zero, Int.pow_zero]⟩ ?_ ?_
      · rintro j d e hd ⟨s, rfl⟩
        obtain ⟨hj, rfl⟩ := rngL_get hd
        have hle : t.sz m * j ≤ t.sz m * k := Nat.mul_le_mul_left _ (by omega)
        refine ⟨_, rfl, ?_⟩
        walk_at "cw"
        rw [mul_sz (zx.num.pow j) zx.num (by omega), mul_sz (zx.den.pow j) zx.den (by omega)]
        walk_at "cw"
        exact .next ⟨_, by rw [Int.pow_succ, Int.pow_succ]⟩
      · rintro e ⟨s, rfl⟩
        walk_at "cw"
        rw [rngL_len]
        unfold fr
        rw [Rat.num_pow, Rat.den_pow, Int.natCast_pow]
  | .bin o a b, n, g, hs, hn => by
    obtain ⟨n, rfl⟩ : ∃ j, n = j + 1 := ⟨n - 1, by simp only [Tm.dep] at hn; omega⟩
    simp only [Tm.sz] at hs
    have i1 := lawworth_ok hp hv a n g.1 (by omega) (by simp only [Tm.dep] at hn; omega)
    have i2 := lawworth_ok hp hv b n g.2 (by omega) (by simp only [Tm.dep] at hn; omega)
    rw [evc_b b3 rfl rfl]
    unfold d_law_worth
    simp only [tmD, Tm.w]
    cases ea : a.w p with
    | none =>
      rw [ea] at i1
      simp only [oD] at i1 ⊢
      cases o <;> simp only [Bo.s] <;> walk_at "cw" <;> rw [i1] <;> walk_at "cw" <;> rw [i2] <;> walk_at "cw" <;> rw [is_non] <;> walk_at "cw" <;> rfl
    | some x =>
      rw [ea] at i1
      have zx := w_qz hp g.1 ea
      cases eb : b.w p with
      | none =>
        rw [eb] at i2
        simp only [oD] at i1 i2 ⊢
        cases o <;> simp only [Bo.s] <;> walk_at "cw" <;> rw [i1] <;> walk_at "cw" <;> rw [i2] <;> walk_at "cw" <;> rw [is_fr, is_non] <;> walk_at "cw" <;> rfl
      | some y =>
        rw [eb] at i2
        have zy := w_qz hp g.2 eb
        have hpos := Int.mul_pos (den_pos x) (den_pos y)
        have e1 := mul_sz zx.num zy.den (by omega)
        have e2 := mul_sz zx.num zy.num (by omega)
        have e3 := mul_sz zx.den zy.den (by omega)
        have e4 := mul_sz zy.num zx.den (by omega)
        have e5 := mul_sz zy.num.neg zx.den (by omega)
        simp only [oD] at i1 i2 ⊢
        cases o with
        | sum =>
          simp only [Bo.s, Bo.ap]
          walk_at "cw"; rw [i1]; walk_at "cw"; rw [i2]; walk_at "cw"; rw [is_fr, is_fr]; walk_at "cw"
          rw [e1, e3, Int.one_mul, e4]; walk_at "cw"
          rw [made_ok _ _ hpos, ← add_div]; walk_at "cw"
        | less =>
          simp only [Bo.s, Bo.ap]
          walk_at "cw"; rw [i1]; walk_at "cw"; rw [i2]; walk_at "cw"; rw [is_fr, is_fr]; walk_at "cw"
          rw [e1, e3, show (-1 : Int) * y.num = -y.num from by omega, e5]; walk_at "cw"
          rw [made_ok _ _ hpos, Int.neg_mul, ← Int.sub_eq_add_neg, ← sub_div]; walk_at "cw"
        | times =>
          simp only [Bo.s, Bo.ap]
          walk_at "cw"; rw [i1]; walk_at "cw"; rw [i2]; walk_at "cw"; rw [is_fr, is_fr]; walk_at "cw"
          rw [e2, e3]; walk_at "cw"
          rw [made_ok _ _ hpos, ← mul_div]; walk_at "cw"
        | over =>
          simp only [Bo.s, Bo.ap]
          walk_at "cw"; rw [i1]; walk_at "cw"; rw [i2]; walk_at "cw"; rw [is_fr, is_fr]; walk_at "cw"
          by_cases h0 : y = 0
          · subst h0
            rw [Rat.zero_num]
            walk_at "cw"
            try rfl
          · have hn : y.num ≠ 0 := fun e => h0 (Rat.num_eq_zero.mp e)
            have hb : (y.num == 0) = false := by simpa using hn
            have za : Sz (b.sz m) (y.num.natAbs : Int) := by have := zy.num; unfold Sz at *; omega
            obtain ⟨s, hs1, hs2, hs3, hs4⟩ := sgn_key y
            rw [hb]
            walk_at "cw"
            rw [hs1, e1, mul_sz zx.den za (by omega)]
            walk_at "cw"
            rw [mul_sz (zx.num.mul zy.den) hs4 (by omega)]
            walk_at "cw"
            rw [made_ok _ _ (Int.mul_pos (den_pos x) (by omega)), quo_div x y s hs3 hs2, if_neg h0]
            walk_at "cw"
theorem grown_step (ns : List Int) {v : Nat} (hv : 1 ≤ v) (d : Nat) (ih : ∀ d', d = d' + 1 → ∀ n k : Nat, ∃ t, evc T (n + (d' + 1) + 2) 1019 [.list (ns.map PyData.int), .int k, .int ((d' + 1 : Nat) : Int), .int v] = .ok (tmD t) ∧ t.good 38 v ∧ t.dep ≤ d' + 1)
    (n k : Nat) : ∃ t, evc T (n + (d + 1) + 2) 1019 [.list (ns.map PyData.int), .int k, .int ((d + 1 : Nat) : Int), .int v] = .ok (tmD t) ∧ t.good 38 v ∧ t.dep ≤ d + 1 := by
  have hdr := drawF_nn (cellF ns k) (k + 5)
  rw [evc_b b3 rfl rfl]
  unfold d_law_grown
  have hc : evc T (n + d + 2) 1000 [.list (ns.map PyData.int), .int k] = .ok (.int (cellF ns k)) := cell_ok (n + d + 1) ns k
  have e0 : n + (d + 1) + 1 = n + d + 2 := by omega
  rw [e0]
  walk_at "cw"
  generalize drawF (cellF ns k) (k + 5) = m at *
  by_cases hl : (((d + 1 : Nat) : Int) == 1 || decide (m % 16 < 3)) = true
  · rw [if_pos hl]
    by_cases hb : (decide (m / 16 % 5 < 3) && decide (0 < (v : Int))) = true
    · rw [if_pos hb, mod_pos (by omega)]
      refine ⟨.var (m / 16 / 8 % v).toNat, ?_, ?_, ?_⟩
      · walk_at "cw"
        simp only [tmD]
        rw [Int.toNat_of_nonneg (Int.emod_nonneg _ (by omega))]
      · show _ < v
        have := Int.emod_lt_of_pos (m / 16 / 8) (b := v) (by omega)
        omega
      · simp [Tm.dep]
    · rw [if_neg hb]
      obtain ⟨d1, x1, u1, rfl, hu1⟩ := ix_all (l := [.int 1, .int 4398046511104]) (i := m / 16 / 16 % 2) (by omega) (by simp only [List.length_cons, List.length_nil]; omega)
        (P := fun d => ∃ t : Int, d = .int t ∧ 0 < t ∧ t < 18446744073709551616) (by
          simp only [List.forall_mem_cons, List.not_mem_nil, false_imp_iff, implies_true, and_true]
          exact ⟨⟨_, rfl, by omega⟩, ⟨_, rfl, by omega⟩⟩)
      obtain ⟨d2, x2, u2, rfl, hu2⟩ := ix_all (l := [.int 1, .int 2199023255552]) (i := m / 16 / 32 % 2) (by omega) (by simp only [List.length_cons, List.length_nil]; omega)
        (P := fun d => ∃ t : Int, d = .int t ∧ 0 < t ∧ t < 18446744073709551616) (by
          simp only [List.forall_mem_cons, List.not_mem_nil, false_imp_iff, implies_true, and_true]
          exact ⟨⟨_, rfl, by omega⟩, ⟨_, rfl, by omega⟩⟩)
      walk_at "cw"
      rw [x1]
      walk_at "cw"
      rw [mul_r (by omega)]
      walk_at "cw"
      rw [x2]
      walk_at "cw"
      rw [fdiv_pos hu2.1]
      walk_at "cw"
      obtain ⟨q, hq, _, qn, qd⟩ := lawfr_ok (T := T) (n + d) (m := m / 16 / 8 % 1152921504606846976 * u1 / u2) (Int.ediv_nonneg (Int.mul_nonneg (by omega) (by omega)) (by omega))
      have zq : Qz 38 q := ⟨by unfold Sz; omega, by unfold Sz; omega⟩
      rw [hq]
      walk_at "cw"
      exact ⟨.num q, rfl, zq, by simp [Tm.dep]⟩
  · rw [if_neg hl]
    obtain ⟨d', rfl⟩ : ∃ d', d = d' + 1 := by
      cases d with
      | zero => exact (hl rfl).elim
      | succ d' => exact ⟨d', rfl⟩
    obtain ⟨t1, g1, g2, g3⟩ := ih d' rfl n (3 * k + 1)
    obtain ⟨t2, f1, f2, f3⟩ := ih d' rfl n (3 * k + 2)
    have e1 : ((d' + 1 + 1 : Nat) : Int) - 1 = ((d' + 1 : Nat) : Int) := by omega
    have e2 : (3 : Int) * k + 1 = ((3 * k + 1 : Nat) : Int) := by omega
    have e3 : (3 : Int) * k + 2 = ((3 * k + 2 : Nat) : Int) := by omega
    have e4 : n + (d' + 1) + 2 = n + d' + 3 := by omega
    rw [e4] at g1 f1 ⊢
    walk_at "cw"
    rw [e1, e2, g1]
    walk_at "cw"
    by_cases h5 : m % 16 < 5
    · simp only [h5]
      walk_at "cw"
      exact ⟨.pow t1 (m / 16 % 5).toNat, by simp only [tmD]; rw [Int.toNat_of_nonneg (by omega)], ⟨g2, by omega⟩, by simp only [Tm.dep]; omega⟩
    · simp only [h5]
      walk_at "cw"
      obtain ⟨dd, xx, o, rfl⟩ := ix_all (l := [.str "sum", .str "less", .str "times", .str "sum", .str "less", .str "times", .str "times", .str "over", .str "sum", .str "times", .str "less"]) (i := m % 16 - 5) (by omega) (by simp only [List.length_cons, List.length_nil]; omega)
        (P := fun d => ∃ o : Bo, d = .str o.s) (by
          simp only [List.forall_mem_cons, List.not_mem_nil, false_imp_iff, implies_true, and_true]
          exact ⟨⟨.sum, rfl⟩, ⟨.less, rfl⟩, ⟨.times, rfl⟩, ⟨.sum, rfl⟩, ⟨.less, rfl⟩, ⟨.times, rfl⟩, ⟨.times, rfl⟩, ⟨.over, rfl⟩, ⟨.sum, rfl⟩, ⟨.times, rfl⟩, ⟨.less, rfl⟩⟩)
      rw [xx]
      walk_at "cw"
      rw [e1, e2, e3, g1]
      walk_at "cw"
      rw [f1]
      walk_at "cw"
      exact ⟨.bin o t1 t2, rfl, ⟨g2, f2⟩, by simp only [Tm.dep]; omega⟩
theorem grown_ok (ns : List Int) {v : Nat} (hv : 1 ≤ v) : ∀ (d : Nat) (n k : Nat), ∃ t, evc T (n + (d + 1) + 2) 1019 [.list (ns.map PyData.int), .int k, .int ((d + 1 : Nat) : Int), .int v] = .ok (tmD t) ∧ t.good 38 v ∧ t.dep ≤ d + 1 := by
  intro d
  induction d with
  | zero => exact grown_step ns hv 0 (fun d' h => by omega)
  | succ d ih => exact grown_step ns hv (d + 1) (fun d' h => by have e : d' = d := by omega
                                                                subst e; exact ih)
theorem for_ret {F : Nat → List D → R D} {tg : Tg} {b : Ss} {d : D} {ds : List D} {env e2 : List Sl} {x : D} (h : setT env tg d = .ok e2) (h2 : evSs F e2 b = .ret x) : forS F tg b (d :: ds) env = .ret x := by
  rw [for_cons, h]
  dsimp only
  rw [h2]
def termB : Ss := (.cons (.asg 4 [] (.call 1019 (.cons (.v 0) (.cons (.v 1) (.cons (.v 3) (.cons (.v 2) .nil)))))) (.cons (.iff [] (.cmp .le (.call 1018 (.cons (.v 4) .nil)) (.k (.int 24))) (.cons (.ret [] (.v 4)) .nil) .nil) .nil))
theorem term_loop (ns : List Int) {v : Nat} (hv : 1 ≤ v) (n k : Nat) : ∀ (l : List Nat) (s3 s4 : Sl), (∀ d ∈ l, d ≤ 4) →
    (∃ t, forS (evc T (n + 7)) (.one 3) termB (l.map fun d => .int ((d + 1 : Nat) : Int)) [.fr (.list (ns.map PyData.int)), .fr (.int k), .fr (.int v), s3, s4] = .ret (tmD t) ∧ t.good 38 v ∧ t.dep ≤ 5 ∧ t.wt ≤ 24) ∨
    (∃ s3' s4', forS (evc T (n + 7)) (.one 3) termB (l.map fun d => .int ((d + 1 : Nat) : Int)) [.fr (.list (ns.map PyData.int)), .fr (.int k), .fr (.int v), s3, s4] = .next [.fr (.list (ns.map PyData.int)), .fr (.int k), .fr (.int v), s3', s4'])
  | [], s3, s4, _ => .inr ⟨s3, s4, rfl⟩
  | d :: l, s3, s4, hl => by
    have hd := hl d List.mem_cons_self
    obtain ⟨t, g1, g2, g3⟩ := grown_ok (T := T) ns hv d (n + 4 - d) k
    rw [show n + 4 - d + (d + 1) + 2 = n + 7 from by omega] at g1
    have hw := lawweight_ok (T := T) t (n + 6) g2.shp (by omega)
    rw [List.map_cons]
    by_cases h : t.wt ≤ 24
    · refine .inl ⟨t, for_ret (e2 := [.fr (.list (ns.map PyData.int)), .fr (.int k), .fr (.int v), .fr (.int ((d + 1 : Nat) : Int)), s4]) rfl ?_, g2, by omega, h⟩
      unfold termB
      walk_at "cw"
      rw [g1]
      walk_at "cw"
      rw [hw]
      walk_at "cw"
      have h2 : (((t.wt : Nat) : Int) ≤ 24) = True := eq_true (by omega)
      simp only [h2]
      walk_at "cw"
    · rw [for_step (e2 := [.fr (.list (ns.map PyData.int)), .fr (.int k), .fr (.int v), .fr (.int ((d + 1 : Nat) : Int)), s4]) (e := [.fr (.list (ns.map PyData.int)), .fr (.int k), .fr (.int v), .fr (.int ((d + 1 : Nat) : Int)), .fr (tmD t)]) rfl (by
        unfold termB
        walk_at "cw"
        rw [g1]
        walk_at "cw"
        rw [hw]
        walk_at "cw"
        have h2 : (((t.wt : Nat) : Int) ≤ 24) = False := eq_false (by omega)
        simp only [h2]
        walk_at "cw")]
      exact term_loop ns hv n k l _ _ fun d hd => hl d (List.mem_cons_of_mem _ hd)
theorem term_ok38 (ns : List Int) {v : Nat} (hv : 1 ≤ v) (n k : Nat) : ∃ t, evc T (n + 8) 1020 [.list (ns.map PyData.int), .int k, .int v] = .ok (tmD t) ∧ t.good 38 v ∧ t.dep ≤ 5 ∧ t.wt ≤ 24 := by
  have z := term_loop (T := T) ns hv n k [4, 3, 2, 1] .no .no (by decide)
  have e : ([4, 3, 2, 1].map fun d => .int ((d + 1 : Nat) : Int) : List D) = [.int 5, .int 4, .int 3, .int 2] := rfl
  rw [e] at z
  unfold termB at z
  rw [evc_b b3 rfl rfl]
  unfold d_law_term
  walk_at "cw"
  rcases z with ⟨t, z, h⟩ | ⟨s3, s4, z⟩
  · rw [z]
    walk_at "cw"
    exact ⟨t, rfl, h⟩
  · rw [z]
    walk_at "cw"
    exact ⟨.var 0, rfl, hv, by simp [Tm.dep], by simp [Tm.wt]⟩
theorem term_ok (ns : List Int) {v : Nat} (hv : 1 ≤ v) (n k : Nat) : ∃ t, evc T (n + 8) 1020 [.list (ns.map PyData.int), .int k, .int v] = .ok (tmD t) ∧ t.good 40 v ∧ t.dep ≤ 5 ∧ t.wt ≤ 24 := by
  obtain ⟨t, h1, h2, h3⟩ := term_ok38 (T := T) ns hv n k
  exact ⟨t, h1, gd_mono h2, h3⟩
where
  gd_mono : ∀ {t : Tm}, t.good 38 v → t.good 40 v
    | .num _, g => Qz.mono g (by decide)
    | .var _, g => g
    | .pow _ _, g => ⟨gd_mono g.1, g.2⟩
    | .bin _ _ _, g => ⟨gd_mono g.1, gd_mono g.2⟩
end
end Cw

set_option Elab.async false
set_option linter.all false
set_option maxRecDepth 100000
set_option maxHeartbeats 4000000
namespace Cw
open PySem
def d_sum_term : Def := ⟨2, 2, (.cons (.iff [] (.cmp .eq (.v 0) (.g 3)) (.cons (.ret [] (.v 1)) .nil) .nil) (.cons (.iff [] (.cmp .eq (.v 1) (.g 3)) (.cons (.ret [] (.v 0)) .nil) .nil) (.cons (.iff [] (.and (.cons (.cmp .eq (.ix (.v 0) (.k (.int 0))) (.k (.str "num"))) (.cons (.cmp .eq (.ix (.v 1) (.k (.int 0))) (.k (.str "num"))) .nil))) (.cons (.ret [] (.tup (.cons (.k (.str "num")) (.cons (.call 17 (.cons (.ix (.v 0) (.k (.int 1))) (.cons (.ix (.v 1) (.k (.int 1))) .nil))) .nil)))) .nil) .nil) (.cons (.ret [] (.tup (.cons (.k (.str "sum")) (.cons (.v 0) (.cons (.v 1) .nil))))) .nil))))⟩
def d_less_term : Def := ⟨2, 2, (.cons (.iff [] (.cmp .eq (.v 1) (.g 3)) (.cons (.ret [] (.v 0)) .nil) .nil) (.cons (.ret [] (.tup (.cons (.k (.str "less")) (.cons (.v 0) (.cons (.v 1) .nil))))) .nil))⟩
def d_times_term : Def := ⟨2, 2, (.cons (.iff [] (.or (.cons (.cmp .eq (.v 0) (.g 3)) (.cons (.cmp .eq (.v 1) (.g 3)) .nil))) (.cons (.ret [] (.g 3)) .nil) .nil) (.cons (.iff [] (.cmp .eq (.v 0) (.g 4)) (.cons (.ret [] (.v 1)) .nil) .nil) (.cons (.iff [] (.cmp .eq (.v 1) (.g 4)) (.cons (.ret [] (.v 0)) .nil) .nil) (.cons (.iff [] (.and (.cons (.cmp .eq (.ix (.v 0) (.k (.int 0))) (.k (.str "num"))) (.cons (.cmp .eq (.ix (.v 1) (.k (.int 0))) (.k (.str "num"))) .nil))) (.cons (.ret [] (.tup (.cons (.k (.str "num")) (.cons (.call 19 (.cons (.ix (.v 0) (.k (.int 1))) (.cons (.ix (.v 1) (.k (.int 1))) .nil))) .nil)))) .nil) .nil) (.cons (.ret [] (.tup (.cons (.k (.str "times")) (.cons (.v 0) (.cons (.v 1) .nil))))) .nil)))))⟩
def d_power_term : Def := ⟨2, 2, (.cons (.iff [] (.cmp .eq (.v 1) (.k (.int 0))) (.cons (.ret [] (.g 4)) .nil) .nil) (.cons (.iff [] (.cmp .eq (.v 1) (.k (.int 1))) (.cons (.ret [] (.v 0)) .nil) .nil) (.cons (.ret [] (.tup (.cons (.k (.str "power")) (.cons (.v 0) (.cons (.v 1) .nil))))) .nil)))⟩
def d_over_slope : Def := ⟨3, 4, (.cons (.asg 3 [] (.call 35 (.cons (.call 36 (.cons (.v 1) (.cons (.ix (.v 0) (.k (.int 2))) .nil))) (.cons (.call 36 (.cons (.ix (.v 0) (.k (.int 1))) (.cons (.v 2) .nil))) .nil)))) (.cons (.iff [] (.cmp .eq (.v 3) (.g 3)) (.cons (.ret [] (.g 3)) .nil) .nil) (.cons (.ret [] (.tup (.cons (.k (.str "over")) (.cons (.v 3) (.cons (.tup (.cons (.k (.str "power")) (.cons (.ix (.v 0) (.k (.int 2))) (.cons (.k (.int 2)) .nil)))) .nil))))) .nil)))⟩
def d_slope : Def := ⟨2, 5, (.cons (.asg 2 [] (.ix (.v 0) (.k (.int 0)))) (.cons (.iff [] (.cmp .eq (.v 2) (.k (.str "num"))) (.cons (.ret [] (.g 3)) .nil) .nil) (.cons (.iff [] (.cmp .eq (.v 2) (.k (.str "var"))) (.cons (.ret [] (.ife (.cmp .eq (.ix (.v 0) (.k (.int 1))) (.v 1)) (.g 4) (.g 3))) .nil) .nil) (.cons (.asg 3 [] (.call 39 (.cons (.ix (.v 0) (.k (.int 1))) (.cons (.v 1) .nil)))) (.cons (.iff [] (.cmp .eq (.v 2) (.k (.str "power"))) (.cons (.iff [] (.cmp .eq (.ix (.v 0) (.k (.int 2))) (.k (.int 0))) (.cons (.ret [] (.g 3)) .nil) .nil) (.cons (.ret [] (.call 36 (.cons (.tup (.cons (.k (.str "num")) (.cons (.tup (.cons (.ix (.v 0) (.k (.int 2))) (.cons (.k (.int 1)) .nil))) .nil))) (.cons (.call 36 (.cons (.call 37 (.cons (.ix (.v 0) (.k (.int 1))) (.cons (.bin .sub (.ix (.v 0) (.k (.int 2))) (.k (.int 1))) .nil))) (.cons (.v 3) .nil))) .nil)))) .nil)) .nil) (.cons (.asg 4 [] (.call 39 (.cons (.ix (.v 0) (.k (.int 2))) (.cons (.v 1) .nil)))) (.cons (.iff [] (.cmp .eq (.v 2) (.k (.str "sum"))) (.cons (.ret [] (.call 34 (.cons (.v 3) (.cons (.v 4) .nil)))) .nil) .nil) (.cons (.iff [] (.cmp .eq (.v 2) (.k (.str "less"))) (.cons (.ret [] (.call 35 (.cons (.v 3) (.cons (.v 4) .nil)))) .nil) .nil) (.cons (.iff [] (.cmp .eq (.v 2) (.k (.str "times"))) (.cons (.ret [] (.call 34 (.cons (.call 36 (.cons (.v 3) (.cons (.ix (.v 0) (.k (.int 2))) .nil))) (.cons (.call 36 (.cons (.ix (.v 0) (.k (.int 1))) (.cons (.v 4) .nil))) .nil)))) .nil) .nil) (.cons (.ret [] (.call 38 (.cons (.v 0) (.cons (.v 3) (.cons (.v 4) .nil))))) .nil))))))))))⟩
def b4 : List (Nat × Def) := [(34, d_sum_term), (35, d_less_term), (36, d_times_term), (37, d_power_term), (38, d_over_slope), (39, d_slope)]

/-! ### slopes -/
def Tm.isC (c : Rat) : Tm → Bool
  | .num q => decide (q = c)
  | _ => false
def sumT (a b : Tm) : Tm := if a.isC 0 = true then b else if b.isC 0 = true then a else match a, b with
  | .num p, .num q => .num (p + q)
  | a, b => .bin .sum a b
def lessT (a b : Tm) : Tm := if b.isC 0 = true then a else .bin .less a b
def timesT (a b : Tm) : Tm := if (a.isC 0 || b.isC 0) = true then .num 0 else if a.isC 1 = true then b else if b.isC 1 = true then a else match a, b with
  | .num p, .num q => .num (p * q)
  | a, b => .bin .times a b
def powT (a : Tm) (k : Nat) : Tm := if k = 0 then .num 1 else if k = 1 then a else .pow a k
def overT (a b a' b' : Tm) : Tm := if (lessT (timesT a' b) (timesT a b')).isC 0 = true then .num 0 else .bin .over (lessT (timesT a' b) (timesT a b')) (.pow b 2)
def slopeT (k : Nat) : Tm → Tm
  | .num _ => .num 0
  | .var i => if i = k then .num 1 else .num 0
  | .pow t n => if n = 0 then .num 0 else timesT (.num n) (timesT (powT t (n - 1)) (slopeT k t))
  | .bin .sum a b => sumT (slopeT k a) (slopeT k b)
  | .bin .less a b => lessT (slopeT k a) (slopeT k b)
  | .bin .times a b => sumT (timesT (slopeT k a) b) (timesT a (slopeT k b))
  | .bin .over a b => overT a b (slopeT k a) (slopeT k b)
theorem isC_num {c : Rat} : ∀ {t : Tm}, t.isC c = true → t = .num c
  | .num q, h => by
    have e : q = c := of_decide_eq_true h
    rw [e]
  | .var _, h => by cases h
  | .pow _ _, h => by cases h
  | .bin _ _ _, h => by cases h
/-! what the made terms are, whichever way they are made: a principle -/
theorem sum_ind {P : Tm → Prop} {a b : Tm} (h1 : a = .num 0 → P b) (h2 : b = .num 0 → P a) (h3 : ∀ p q, a = .num p → b = .num q → P (.num (p + q))) (h4 : P (.bin .sum a b)) : P (sumT a b) := by
  unfold sumT
  by_cases e1 : a.isC 0 = true
  · rw [if_pos e1]; exact h1 (isC_num e1)
  · rw [if_neg e1]
    by_cases e2 : b.isC 0 = true
    · rw [if_pos e2]; exact h2 (isC_num e2)
    · rw [if_neg e2]
      split
      · exact h3 _ _ rfl rfl
      · exact h4
theorem less_ind {P : Tm → Prop} {a b : Tm} (h2 : b = .num 0 → P a) (h4 : P (.bin .less a b)) : P (lessT a b) := by
  unfold lessT
  by_cases e2 : b.isC 0 = true
  · rw [if_pos e2]; exact h2 (isC_num e2)
  · rw [if_neg e2]; exact h4
theorem times_ind {P : Tm → Prop} {a b : Tm} (h0 : a = .num 0 ∨ b = .num 0 → P (.num 0)) (h1 : a = .num 1 → P b) (h2 : b = .num 1 → P a) (h3 : ∀ p q, a = .num p → b = .num q → P (.num (p * q))) (h4 : P (.bin .times a b)) : P (timesT a b) := by
  unfold timesT
  by_cases e0 : (a.isC 0 || b.isC 0) = true
  · rw [if_pos e0]
    rw [Bool.or_eq_true] at e0
    exact h0 (e0.elim (fun e => .inl (isC_num e)) fun e => .inr (isC_num e))
  · rw [if_neg e0]
    by_cases e1 : a.isC 1 = true
    · rw [if_pos e1]; exact h1 (isC_num e1)
    · rw [if_neg e1]
      by_cases e2 : b.isC 1 = true
      · rw [if_pos e2]; exact h2 (isC_num e2)
      · rw [if_neg e2]
        split
        · exact h3 _ _ rfl rfl
        · exact h4
theorem pow_ind {P : Tm → Prop} {a : Tm} {k : Nat} (h0 : k = 0 → P (.num 1)) (h1 : k = 1 → P a) (h2 : P (.pow a k)) : P (powT a k) := by
  unfold powT
  by_cases e0 : k = 0
  · rw [if_pos e0]; exact h0 e0
  · rw [if_neg e0]
    by_cases e1 : k = 1
    · rw [if_pos e1]; exact h1 e1
    · rw [if_neg e1]; exact h2
theorem over_ind {P : Tm → Prop} {a b a' b' : Tm} (h0 : lessT (timesT a' b) (timesT a b') = .num 0 → P (.num 0)) (h4 : P (.bin .over (lessT (timesT a' b) (timesT a b')) (.pow b 2))) : P (overT a b a' b') := by
  unfold overT
  by_cases e0 : (lessT (timesT a' b) (timesT a b')).isC 0 = true
  · rw [if_pos e0]; exact h0 (isC_num e0)
  · rw [if_neg e0]; exact h4
/-! sizes -/
theorem qb_pos (q : Rat) : 1 ≤ qb q := by unfold qb; omega
theorem qb_add (p q : Rat) : qb (p + q) ≤ qb p + qb q + 1 := qb_le ((qz_qb p).add (qz_qb q))
theorem qb_mul (p q : Rat) : qb (p * q) ≤ qb p + qb q := qb_le ((qz_qb p).mul (qz_qb q))
theorem qb_0 : qb 0 = 1 := by decide +kernel
theorem qb_1 : qb 1 = 1 := by decide +kernel
theorem sz_sum (m : Nat) (a b : Tm) : (sumT a b).sz m ≤ a.sz m + b.sz m + 1 :=
  sum_ind (P := fun t => t.sz m ≤ a.sz m + b.sz m + 1) (fun _ => by omega) (fun _ => by omega) (fun p q e1 e2 => by subst e1 e2; exact qb_add p q) (Nat.le_refl _)
theorem sz_less (m : Nat) (a b : Tm) : (lessT a b).sz m ≤ a.sz m + b.sz m + 1 :=
  less_ind (P := fun t => t.sz m ≤ a.sz m + b.sz m + 1) (fun _ => by omega) (Nat.le_refl _)
theorem sz_times (m : Nat) (a b : Tm) : (timesT a b).sz m ≤ a.sz m + b.sz m + 1 :=
  times_ind (P := fun t => t.sz m ≤ a.sz m + b.sz m + 1) (fun _ => by show qb 0 ≤ _; rw [qb_0]; omega) (fun _ => by omega) (fun _ => by omega) (fun p q e1 e2 => by subst e1 e2; exact Nat.le_trans (qb_mul p q) (by simp [Tm.sz])) (Nat.le_refl _)
theorem sz_powT (m : Nat) (a : Tm) (k : Nat) : (powT a k).sz m ≤ a.sz m * (k + 1) + 1 :=
  pow_ind (P := fun t => t.sz m ≤ a.sz m * (k + 1) + 1) (fun _ => by show qb 1 ≤ _; rw [qb_1]; omega) (fun e => by rw [Nat.mul_add]; omega) (Nat.le_refl _)
theorem sz_overT (m : Nat) (a b a' b' : Tm) : (overT a b a' b').sz m ≤ a'.sz m + b'.sz m + a.sz m + 4 * b.sz m + 5 := by
  have h1 := sz_less m (timesT a' b) (timesT a b')
  have h2 := sz_times m a' b
  have h3 := sz_times m a b'
  exact over_ind (P := fun t => t.sz m ≤ a'.sz m + b'.sz m + a.sz m + 4 * b.sz m + 5) (fun _ => by show qb 0 ≤ _; rw [qb_0]; omega) (by simp only [Tm.sz]; omega)
theorem qb_nat {n : Nat} (h : n ≤ 6) : qb (n : Rat) ≤ 3 := by
  refine qb_le ⟨?_, ?_⟩
  · unfold Sz; simp; omega
  · unfold Sz; simp
theorem slope_sz {m v : Nat} (k : Nat) : ∀ {t : Tm}, t.shp v → (slopeT k t).sz m ≤ 5 * t.dep * (t.sz m + 1)
  | .num q, _ => by simp only [slopeT, Tm.sz, Tm.dep, qb_0]; omega
  | .var i, _ => by
    simp only [slopeT]
    split <;> simp only [Tm.sz, Tm.dep, qb_0, qb_1] <;> omega
  | .pow t n, g => by
    have i := slope_sz (m := m) k g.1
    simp only [slopeT]
    split
    · simp only [Tm.sz, Tm.dep, qb_0]
      exact Nat.le_trans (by omega) (Nat.le_mul_of_pos_left _ (by omega))
    · have h1 := sz_times m (.num n) (timesT (powT t (n - 1)) (slopeT k t))
      have h2 := sz_times m (powT t (n - 1)) (slopeT k t)
      have h3 := sz_powT m t (n - 1)
      have h4 := qb_nat g.2
      rw [show n - 1 + 1 = n from by omega] at h3
      simp only [Tm.sz, Tm.dep] at h1 ⊢
      have e1 : 5 * (t.dep + 1) * (t.sz m * (n + 1) + 1 + 1) = 5 * t.dep * (t.sz m * (n + 1) + 1 + 1) + 5 * (t.sz m * (n + 1) + 1 + 1) := by rw [Nat.mul_add 5, Nat.add_mul]
      have e2 : 5 * t.dep * (t.sz m + 1) ≤ 5 * t.dep * (t.sz m * (n + 1) + 1 + 1) := Nat.mul_le_mul_left _ (by rw [Nat.mul_add]; omega)
      have e3 : t.sz m * n ≤ t.sz m * (n + 1) := Nat.mul_le_mul_left _ (by omega)
      omega
  | .bin o a b, g => by
    have i := slope_sz (m := m) k g.1
    have j := slope_sz (m := m) k g.2
    have ia : 5 * a.dep * (a.sz m + 1) ≤ 5 * max a.dep b.dep * (a.sz m + 1) := Nat.mul_le_mul_right _ (by omega)
    have ib : 5 * b.dep * (b.sz m + 1) ≤ 5 * max a.dep b.dep * (b.sz m + 1) := Nat.mul_le_mul_right _ (by omega)
    have e1 : 5 * (max a.dep b.dep + 1) * (a.sz m + b.sz m + 1 + 1) = 5 * max a.dep b.dep * (a.sz m + 1) + 5 * max a.dep b.dep * (b.sz m + 1) + 5 * (a.sz m + b.sz m + 1 + 1) := by
      rw [Nat.mul_add 5, Nat.add_mul, ← Nat.mul_add (5 * max a.dep b.dep)]
      congr 2 <;> omega
    simp only [Tm.sz, Tm.dep]
    rw [e1]
    cases o with
    | sum => have := sz_sum m (slopeT k a) (slopeT k b); simp only [slopeT]; omega
    | less => have := sz_less m (slopeT k a) (slopeT k b); simp only [slopeT]; omega
    | times =>
      have h1 := sz_sum m (timesT (slopeT k a) b) (timesT a (slopeT k b))
      have h2 := sz_times m (slopeT k a) b
      have h3 := sz_times m a (slopeT k b)
      simp only [slopeT]; omega
    | over => have := sz_overT m a b (slopeT k a) (slopeT k b); simp only [slopeT]; omega

/-! goodness: numbers of M bits (those of the term have m) -/
theorem Tm.good.mono {m n v : Nat} (h : m ≤ n) : ∀ {t : Tm}, t.good m v → t.good n v
  | .num _, g => Qz.mono g h
  | .var _, g => g
  | .pow _ _, g => ⟨g.1.mono h, g.2⟩
  | .bin _ _ _, g => ⟨g.1.mono h, g.2.mono h⟩
theorem good_of_sz {m v : Nat} : ∀ {t : Tm}, t.good m v → ∀ {p : Nat}, t.good (t.sz p) v
  | .num q, g, p => qz_qb q
  | .var _, g, p => g
  | .pow t k, g, p => ⟨(good_of_sz g.1 (p := p)).mono (by simp only [Tm.sz]; rw [Nat.mul_add]; omega), g.2⟩
  | .bin _ a b, g, p => ⟨(good_of_sz g.1 (p := p)).mono (by simp only [Tm.sz]; omega), (good_of_sz g.2 (p := p)).mono (by simp only [Tm.sz]; omega)⟩
theorem shp_sum {v : Nat} {a b : Tm} (ha : a.shp v) (hb : b.shp v) : (sumT a b).shp v := sum_ind (P := fun t => t.shp v) (fun _ => hb) (fun _ => ha) (fun _ _ _ _ => trivial) ⟨ha, hb⟩
theorem shp_less {v : Nat} {a b : Tm} (ha : a.shp v) (hb : b.shp v) : (lessT a b).shp v := less_ind (P := fun t => t.shp v) (fun _ => ha) ⟨ha, hb⟩
theorem shp_times {v : Nat} {a b : Tm} (ha : a.shp v) (hb : b.shp v) : (timesT a b).shp v := times_ind (P := fun t => t.shp v) (fun _ => trivial) (fun _ => hb) (fun _ => ha) (fun _ _ _ _ => trivial) ⟨ha, hb⟩
theorem shp_pow {v : Nat} {a : Tm} {k : Nat} (ha : a.shp v) (hk : k ≤ 6) : (powT a k).shp v := pow_ind (P := fun t => t.shp v) (fun _ => trivial) (fun _ => ha) ⟨ha, hk⟩
theorem shp_over {v : Nat} {a b a' b' : Tm} (ha : a.shp v) (hb : b.shp v) (ha' : a'.shp v) (hb' : b'.shp v) : (overT a b a' b').shp v :=
  over_ind (P := fun t => t.shp v) (fun _ => trivial) ⟨shp_less (shp_times ha' hb) (shp_times ha hb'), hb, by decide⟩
theorem shp_slope {v : Nat} (k : Nat) : ∀ {t : Tm}, t.shp v → (slopeT k t).shp v
  | .num _, _ => trivial
  | .var i, _ => by simp only [slopeT]; split <;> exact trivial
  | .pow t n, g => by
    simp only [slopeT]
    split
    · exact trivial
    · exact shp_times trivial (shp_times (shp_pow g.1 (by have := g.2; omega)) (shp_slope k g.1))
  | .bin .sum a b, g => shp_sum (shp_slope k g.1) (shp_slope k g.2)
  | .bin .less a b, g => shp_less (shp_slope k g.1) (shp_slope k g.2)
  | .bin .times a b, g => shp_sum (shp_times (shp_slope k g.1) g.2) (shp_times g.1 (shp_slope k g.2))
  | .bin .over a b, g => shp_over g.1 g.2 (shp_slope k g.1) (shp_slope k g.2)
/-! depths -/
theorem dep_sum {a b : Tm} {d : Nat} (ha : a.dep ≤ d) (hb : b.dep ≤ d) (hd : 1 ≤ d) : (sumT a b).dep ≤ d + 1 := sum_ind (P := fun t => t.dep ≤ d + 1) (fun _ => by omega) (fun _ => by omega) (fun _ _ _ _ => by simp [Tm.dep]) (by simp only [Tm.dep]; omega)
theorem dep_less {a b : Tm} {d : Nat} (ha : a.dep ≤ d) (hb : b.dep ≤ d) : (lessT a b).dep ≤ d + 1 := less_ind (P := fun t => t.dep ≤ d + 1) (fun _ => by omega) (by simp only [Tm.dep]; omega)
theorem dep_times {a b : Tm} {d : Nat} (ha : a.dep ≤ d) (hb : b.dep ≤ d) : (timesT a b).dep ≤ d + 1 := times_ind (P := fun t => t.dep ≤ d + 1) (fun _ => by simp [Tm.dep]) (fun _ => by omega) (fun _ => by omega) (fun _ _ _ _ => by simp [Tm.dep]) (by simp only [Tm.dep]; omega)
theorem dep_powT {a : Tm} {k d : Nat} (ha : a.dep ≤ d) : (powT a k).dep ≤ d + 1 := pow_ind (P := fun t => t.dep ≤ d + 1) (fun _ => by simp [Tm.dep]) (fun _ => by omega) (by simp only [Tm.dep]; omega)
theorem dep_over {a b a' b' : Tm} {d : Nat} (ha : a.dep ≤ d) (hb : b.dep ≤ d) (ha' : a'.dep ≤ d) (hb' : b'.dep ≤ d) : (overT a b a' b').dep ≤ d + 3 := by
  have h := dep_less (dep_times ha' hb) (dep_times ha hb')
  exact over_ind (P := fun t => t.dep ≤ d + 3) (fun _ => by simp [Tm.dep]) (by simp only [Tm.dep]; omega)
/-- what bounds the sizes of a term and its slopes -/
structure SB (t : Tm) (m B : Nat) : Prop where
  s : ∀ k, (slopeT k t).sz m + 2 * m + 10 ≤ B
  z : t.sz m + 2 * m + 11 ≤ B
  c : 5 * t.dep * (t.sz m + 1) ≤ 68000000
theorem SB.of {t : Tm} {m v B : Nat} (ht : t.shp v) (h : 5 * t.dep * (t.sz m + 1) + 2 * m + 10 ≤ B) (hB : 11 * B ≤ 134217728) : SB t m B := by
  have hp := t.dep_pos
  have hm : t.sz m + 1 ≤ 5 * t.dep * (t.sz m + 1) := Nat.le_mul_of_pos_left _ (by omega)
  exact ⟨fun k => by have := slope_sz (m := m) k ht; omega, by omega, by omega⟩
theorem slope_dep (k : Nat) : ∀ t : Tm, (slopeT k t).dep + 2 ≤ 3 * t.dep
  | .num _ => by simp [slopeT, Tm.dep]
  | .var i => by simp only [slopeT]; split <;> simp [Tm.dep]
  | .pow t n => by
    have i := slope_dep k t
    have p := t.dep_pos
    simp only [slopeT]
    split
    · simp only [Tm.dep]; omega
    · have h1 : (powT t (n - 1)).dep ≤ 3 * t.dep - 1 := Nat.le_trans (dep_powT (Nat.le_refl _)) (by omega)
      have h2 : (timesT (powT t (n - 1)) (slopeT k t)).dep ≤ 3 * t.dep := Nat.le_trans (dep_times h1 (show (slopeT k t).dep ≤ 3 * t.dep - 1 by omega)) (by omega)
      have h3 := dep_times (a := .num (n : Rat)) (d := 3 * t.dep) (by simp only [Tm.dep]; omega) h2
      simp only [Tm.dep]; omega
  | .bin o a b => by
    have i := slope_dep k a
    have j := slope_dep k b
    have p := a.dep_pos
    have q := b.dep_pos
    have hd : 1 ≤ 3 * max a.dep b.dep - 2 := by omega
    have ha : a.dep ≤ 3 * max a.dep b.dep - 2 := by omega
    have hb : b.dep ≤ 3 * max a.dep b.dep - 2 := by omega
    have ha' : (slopeT k a).dep ≤ 3 * max a.dep b.dep - 2 := by omega
    have hb' : (slopeT k b).dep ≤ 3 * max a.dep b.dep - 2 := by omega
    simp only [Tm.dep]
    cases o with
    | sum => have := dep_sum ha' hb' hd; simp only [slopeT]; omega
    | less => have := dep_less ha' hb'; simp only [slopeT]; omega
    | times => have := dep_sum (dep_times ha' hb) (dep_times ha hb') (by omega); simp only [slopeT]; omega
    | over => have := dep_over ha hb ha' hb'; simp only [slopeT]; omega
/-! worths -/
theorem w_sum {p : List Rat} {a b : Tm} {x y : Rat} (ha : a.w p = some x) (hb : b.w p = some y) : (sumT a b).w p = some (x + y) :=
  sum_ind (P := fun t => t.w p = some (x + y)) (fun e => by subst e; cases ha; rw [Rat.zero_add]; exact hb) (fun e => by subst e; cases hb; rw [Rat.add_zero]; exact ha) (fun s t e1 e2 => by subst e1 e2; cases ha; cases hb; rfl) (by simp only [Tm.w, ha, hb, Bo.ap])
theorem w_less {p : List Rat} {a b : Tm} {x y : Rat} (ha : a.w p = some x) (hb : b.w p = some y) : (lessT a b).w p = some (x - y) :=
  less_ind (P := fun t => t.w p = some (x - y)) (fun e => by subst e; cases hb; rw [Rat.sub_eq_add_neg, Rat.neg_zero, Rat.add_zero]; exact ha) (by simp only [Tm.w, ha, hb, Bo.ap])
theorem w_times {p : List Rat} {a b : Tm} {x y : Rat} (ha : a.w p = some x) (hb : b.w p = some y) : (timesT a b).w p = some (x * y) :=
  times_ind (P := fun t => t.w p = some (x * y)) (fun e => by rcases e with e | e <;> subst e <;> first | (cases ha; simp [Tm.w, Rat.zero_mul]; done) | (cases hb; simp [Tm.w, Rat.mul_zero]; done))
    (fun e => by subst e; cases ha; rw [Rat.one_mul]; exact hb) (fun e => by subst e; cases hb; rw [Rat.mul_one]; exact ha) (fun s t e1 e2 => by subst e1 e2; cases ha; cases hb; rfl) (by simp only [Tm.w, ha, hb, Bo.ap])
theorem w_powT {p : List Rat} {a : Tm} {k : Nat} {x : Rat} (ha : a.w p = some x) : (powT a k).w p = some (x ^ k) :=
  pow_ind (P := fun t => t.w p = some (x ^ k)) (fun e => by rw [e, Rat.pow_zero]; rfl) (fun e => by rw [e, Rat.pow_succ, Rat.pow_zero, Rat.one_mul]; exact ha) (by simp only [Tm.w, ha, Option.map_some])
theorem w_overT {p : List Rat} {a b a' b' : Tm} {x y s t : Rat} (ha : a.w p = some x) (hb : b.w p = some y) (ha' : a'.w p = some s) (hb' : b'.w p = some t) (h0 : y ≠ 0) : (overT a b a' b').w p = some ((s * y - x * t) / y ^ 2) := by
  have h := w_less (w_times ha' hb) (w_times ha hb')
  have hy : y ^ 2 ≠ 0 := by
    intro z
    rw [Rat.pow_succ, Rat.pow_succ, Rat.pow_zero, Rat.one_mul] at z
    rcases Rat.mul_eq_zero.mp z with z | z <;> exact h0 z
  exact over_ind (P := fun z => z.w p = some ((s * y - x * t) / y ^ 2)) (fun e => by
    rw [e] at h
    have h1 : (0 : Rat) = s * y - x * t := Option.some.inj h
    rw [← h1]
    rw [Rat.div_def, Rat.zero_mul]; rfl) (by simp only [Tm.w, h, hb, Option.map_some, Bo.ap, if_neg hy])
/-- a worth and a slope -/
def powS (x s : Rat) : Nat → Rat × Rat
  | 0 => (1, 0)
  | j + 1 => ((powS x s j).1 * x, (powS x s j).1 * s + (powS x s j).2 * x)
def Tm.ws (p : List Rat) (k : Nat) : Tm → Option (Rat × Rat)
  | .num q => some (q, 0)
  | .var i => (p[i]?).map fun x => (x, if i = k then 1 else 0)
  | .pow t n => (t.ws p k).map fun a => powS a.1 a.2 n
  | .bin o a b => match a.ws p k, b.ws p k with
    | some (x, s), some (y, t) => (match o with
      | .sum => some (x + y, s + t)
      | .less => some (x - y, s - t)
      | .times => some (x * y, x * t + s * y)
      | .over => if y = 0 then none else some (x * y⁻¹, x * (-t * (y⁻¹ * y⁻¹)) + s * y⁻¹))
    | _, _ => none
theorem powS_1 (x s : Rat) : ∀ n, (powS x s n).1 = x ^ n
  | 0 => by rw [Rat.pow_zero]; rfl
  | n + 1 => by rw [Rat.pow_succ]; show (powS x s n).1 * x = _; rw [powS_1 x s n]
theorem powS_2 (x s : Rat) : ∀ n, (powS x s (n + 1)).2 = ((n + 1 : Nat) : Rat) * (x ^ n * s)
  | 0 => by show (1 : Rat) * s + 0 * x = _; rw [Rat.pow_zero]; grind
  | n + 1 => by
    show (powS x s (n + 1)).1 * s + (powS x s (n + 1)).2 * x = _
    rw [powS_1, powS_2 x s n, Rat.natCast_add (n + 1) 1, Rat.pow_succ]
    generalize ((n + 1 : Nat) : Rat) = c
    have e1 : ((1 : Nat) : Rat) = 1 := rfl
    rw [e1]
    grind
theorem ws_ok (p : List Rat) (k : Nat) : ∀ {t : Tm} {x s : Rat}, t.ws p k = some (x, s) → t.w p = some x ∧ (slopeT k t).w p = some s
  | .num q, x, s, h => by cases h; exact ⟨rfl, rfl⟩
  | .var i, x, s, h => by
    simp only [Tm.ws] at h
    cases e : p[i]? with
    | none => rw [e] at h; cases h
    | some y =>
      rw [e] at h
      cases h
      refine ⟨e, ?_⟩
      simp only [slopeT]
      split <;> rfl
  | .pow t n, x, s, h => by
    simp only [Tm.ws] at h
    cases e : t.ws p k with
    | none => rw [e] at h; cases h
    | some a =>
      obtain ⟨y, u⟩ := a
      rw [e] at h
      obtain ⟨h1, h2⟩ := ws_ok p k e
      have h : powS y u n = (x, s) := Option.some.inj h
      have hx : (powS y u n).1 = x := by rw [h]
      have hs : (powS y u n).2 = s := by rw [h]
      refine ⟨by simp only [Tm.w, h1, Option.map_some]; rw [← powS_1 y u n, hx], ?_⟩
      simp only [slopeT]
      split
      · rename_i hn; subst hn; cases hs; rfl
      · rename_i hn
        obtain ⟨j, rfl⟩ : ∃ j, n = j + 1 := ⟨n - 1, by omega⟩
        rw [powS_2] at hs
        rw [← hs]
        exact w_times rfl (w_times (w_powT h1) h2)
  | .bin o a b, x, s, h => by
    simp only [Tm.ws] at h
    cases ea : a.ws p k with
    | none => rw [ea] at h; cases h
    | some va =>
      obtain ⟨xa, sa⟩ := va
      cases eb : b.ws p k with
      | none => rw [ea, eb] at h; cases h
      | some vb =>
        obtain ⟨xb, sb⟩ := vb
        rw [ea, eb] at h
        obtain ⟨a1, a2⟩ := ws_ok p k ea
        obtain ⟨b1, b2⟩ := ws_ok p k eb
        cases o with
        | sum => cases h; exact ⟨by simp only [Tm.w, a1, b1, Bo.ap], w_sum a2 b2⟩
        | less => cases h; exact ⟨by simp only [Tm.w, a1, b1, Bo.ap], w_less a2 b2⟩
        | times =>
          cases h
          refine ⟨by simp only [Tm.w, a1, b1, Bo.ap], ?_⟩
          have := w_sum (w_times a2 b1) (w_times a1 b2)
          rw [Rat.add_comm] at this
          exact this
        | over =>
          dsimp only at h
          split at h
          · cases h
          · rename_i h0
            cases h
            refine ⟨by simp only [Tm.w, a1, b1, Bo.ap, if_neg h0]; rw [Rat.div_def], ?_⟩
            have e := w_overT a1 b1 a2 b2 h0
            rw [show slopeT k (.bin .over a b) = overT a b (slopeT k a) (slopeT k b) from rfl, e]
            congr 1
            have e1 := Rat.mul_inv_cancel xb h0
            have hy : xb ^ 2 ≠ 0 := by
              intro z
              rw [Rat.pow_succ, Rat.pow_succ, Rat.pow_zero, Rat.one_mul] at z
              rcases Rat.mul_eq_zero.mp z with z | z <;> exact h0 z
            refine div_eq' hy ?_
            rw [Rat.pow_succ, Rat.pow_succ, Rat.pow_zero, Rat.one_mul]
            generalize xb⁻¹ = u at *
            have e2 : (xa * (-sb * (u * u)) + sa * u) * (xb * xb) = xa * (-sb) * ((xb * u) * (xb * u)) + sa * xb * (xb * u) := by grind
            rw [e2, e1]
            grind

/-! ### the walk -/
theorem dk_tm : ∀ t : Tm, Dk (t.dep + 1) (tmD t)
  | .num q => Dk.tuple (by
      intro x hx
      simp only [List.mem_cons, List.not_mem_nil, or_false] at hx
      rcases hx with rfl | rfl
      · exact Dk.str shw_num
      · exact dk_fr q)
  | .var i => Dk.mono (m := 1) (Dk.tuple (n := 0) (by
      intro x hx
      simp only [List.mem_cons, List.not_mem_nil, or_false] at hx
      rcases hx with rfl | rfl
      · exact Dk.str shw_var
      · exact Dk.int _)) (by simp [Tm.dep])
  | .pow t k => Dk.tuple (n := t.dep + 1) (by
      intro x hx
      simp only [List.mem_cons, List.not_mem_nil, or_false] at hx
      rcases hx with rfl | rfl | rfl
      · exact Dk.str shw_power
      · exact dk_tm t
      · exact Dk.int _)
  | .bin o a b => Dk.tuple (n := max a.dep b.dep + 1) (by
      intro x hx
      simp only [List.mem_cons, List.not_mem_nil, or_false] at hx
      rcases hx with rfl | rfl | rfl
      · cases o
        · exact Dk.str shw_sum
        · exact Dk.str shw_less
        · exact Dk.str shw_times
        · exact Dk.str shw_over
      · exact (dk_tm a).mono (by omega)
      · exact (dk_tm b).mono (by omega))
theorem cst3 : cst 3 = tmD (.num 0) := rfl
theorem cst4 : cst 4 = tmD (.num 1) := rfl
theorem eqw2 (a b : Str) (l : List D) : PyData.eqv (.tuple (.str a :: l)) (.tuple (.str b :: l)) = PyData.eqv (.tuple (.str a :: l)) (.tuple (.str b :: l)) := rfl
theorem eqv_isC (c : Rat) : ∀ t : Tm, PyData.eqv (tmD t) (tmD (.num c)) = t.isC c
  | .num q => by
    have e : PyData.eqv (tmD (.num q)) (tmD (.num c)) = (((("num" : Str) == ("num" : Str))) && (PyData.eqv (fr q) (fr c) && true)) := rfl
    rw [e, eqv_fr, beq_self_eq_true, Bool.true_and, Bool.and_true]
    rfl
  | .var i => by
    have e : PyData.eqv (tmD (.var i)) (tmD (.num c)) = (((("var" : Str) == ("num" : Str))) && (false && true)) := rfl
    rw [e, Bool.false_and, Bool.and_false]
    rfl
  | .pow t k => by
    have e : PyData.eqv (tmD (.pow t k)) (tmD (.num c)) = (((("power" : Str) == ("num" : Str))) && (PyData.eqv (tmD t) (fr c) && false)) := rfl
    rw [e, Bool.and_false, Bool.and_false]
    rfl
  | .bin o a b => by
    have e : PyData.eqv (tmD (.bin o a b)) (tmD (.num c)) = (((o.s == ("num" : Str))) && (PyData.eqv (tmD a) (fr c) && false)) := rfl
    rw [e, Bool.and_false, Bool.and_false]
    rfl
theorem eq_C (c : Rat) {t : Tm} (h : t.dep ≤ 60) : cmR .eq (tmD t) (tmD (.num c)) = .ok (.bool (t.isC c)) := by
  rw [eq_sh ((dk_tm t).sh (by omega)) ((dk_tm (.num c)).sh (by simp [Tm.dep])), eqv_isC]
local macro_rules | `(tactic| walk_at "cw") => `(tactic| simp -implicitDefEqProofs only [ss_nil, ss_cons, goSs_next, goSs_ret, goSs_exc, goSs_brk, goSs_cont, s_asg', s_asgL2, asgL_ok, see_cons, see1_ow, see1_fr, see1_no, see1_S, ow_0, ow_S, s_app', app_some, app_exc, s_asgT', s_par', s_ret', s_iff', s_whl', s_for', s_rais', s_expr', s_brk', s_cont', s_pass', s_try', s_tryW', tryW_ret, tryW_next, tryW_exc, tryN_ret, tryN_next, tryN_exc, e_k, e_v, e_g, e_tup', e_lst', e_bin', e_neg', e_not', e_and', e_or', e_cmp', e_cmp2', e_ife', e_ix', e_sl', e_call', e_bf', e_isi', e_lc', es_nil, es_cons, and_one, and_cons, or_one, or_cons, eo_no, eo_yes, ec_no, ec_yes, ei_seq, ei_rng1, ei_rng2, ei_zip, ei_enum, gv0, gvS, see0, fl_int, fl_bool, fl_str, fl_none, fl_tup, fl_lst, bind_ok, bind_bad, bind_exc, onR_ok, onR_exc, onR_bad, toB_bool, toB_exc, eq_int, ne_int, lt_int', le_int', gt_int', ge_int', add_int', sub_int', bf_abs, bf_max, bf_min, bf_len, bf_lenT, bf_int, bf_intB, startE, List.map_cons, List.map_nil, List.length_cons, List.length_map, List.length_nil, List.cons_append, List.nil_append, List.set_cons_zero, List.set_cons_succ, List.replicate, Nat.sub_self, Nat.reduceSub, Nat.reduceAdd, if_true, if_false, Bool.false_eq_true, reduceIte, ixT0, ixT1, ixT2, outR_ret, outR_next, outR_exc, setT, setMany, wipeE, rng1_ok, rng2_ok, not_ok, neg_ok, and_t, and_f, and_ok, and_x, or_t, or_f, or_ok, or_x, ife_b, Bool.not_true, Bool.not_false, Bool.true_and, Bool.and_true, Bool.false_and, Bool.and_false, Bool.true_or, Bool.or_true, Bool.false_or, Bool.or_false, decide_true, decide_false, beq_self_eq_true, Int.reduceBEq, Int.reduceLT, Int.reduceLE, Int.reduceAdd, Int.reduceSub, Int.reduceNeg, Int.cast_ofNat_Int, fl_fr, eq_fr, ne_fr, ix_fr0, ix_fr1, ite_self, lc_nil, lc_cons, consR_s, consR_n, bf_all, bf_any, bf_sum, bf_tup, ofO_some, bls_nil, bls_cons, ints_nil, ints_cons, Option.map_some, seq_lst, seq_tup, ixL0, ixL1, ixL2, ixL3, isi_bi, isi_bb, isi_ii, isi_ib, isi_tt, List.all_cons, List.all_nil, id, pw_10_11, pw_10_12, pw_10_13, pw_10_30, pw_10_40, pw_10_6, pw_10_9, pw_2_8, pw_2_10, pw_2_12, pw_2_13, pw_2_14, pw_2_15, pw_2_16, pw_2_17, pw_2_18, pw_2_20, pw_2_24, pw_2_25, pw_2_27, pw_2_28, pw_2_30, pw_2_32, pw_2_34, pw_2_36, pw_2_38, pw_2_40, pw_2_41, pw_2_42, pw_2_44, pw_2_50, pw_2_54, pw_2_56, pw_2_60, e_rev', e_mx0', e_ins', rev_lst, s_setC', mod_pos, fdiv_pos, mul_rl, mul_ll, fl_st, ix_st0, ix_st1, cell_ok, drawn_ok, Int.reduceMul, fl_tm, cst0, cst1, cst3, cst4, eqw_num_num, eqw_num_var, eqw_num_power, eqw_num_sum, eqw_num_less, eqw_num_times, eqw_num_over, eqw_var_num, eqw_var_var, eqw_var_power, eqw_var_sum, eqw_var_less, eqw_var_times, eqw_var_over, eqw_power_num, eqw_power_var, eqw_power_power, eqw_power_sum, eqw_power_less, eqw_power_times, eqw_power_over, eqw_sum_num, eqw_sum_var, eqw_sum_power, eqw_sum_sum, eqw_sum_less, eqw_sum_times, eqw_sum_over, eqw_less_num, eqw_less_var, eqw_less_power, eqw_less_sum, eqw_less_less, eqw_less_times, eqw_less_over, eqw_times_num, eqw_times_var, eqw_times_power, eqw_times_sum, eqw_times_less, eqw_times_times, eqw_times_over, eqw_over_num, eqw_over_var, eqw_over_power, eqw_over_sum, eqw_over_less, eqw_over_times, eqw_over_over])
local macro_rules | `(tactic| walk_at "cw*") => `(tactic| simp -implicitDefEqProofs only [*, ss_nil, ss_cons, goSs_next, goSs_ret, goSs_exc, goSs_brk, goSs_cont, s_asg', s_asgL2, asgL_ok, see_cons, see1_ow, see1_fr, see1_no, see1_S, ow_0, ow_S, s_app', app_some, app_exc, s_asgT', s_par', s_ret', s_iff', s_whl', s_for', s_rais', s_expr', s_brk', s_cont', s_pass', s_try', s_tryW', tryW_ret, tryW_next, tryW_exc, tryN_ret, tryN_next, tryN_exc, e_k, e_v, e_g, e_tup', e_lst', e_bin', e_neg', e_not', e_and', e_or', e_cmp', e_cmp2', e_ife', e_ix', e_sl', e_call', e_bf', e_isi', e_lc', es_nil, es_cons, and_one, and_cons, or_one, or_cons, eo_no, eo_yes, ec_no, ec_yes, ei_seq, ei_rng1, ei_rng2, ei_zip, ei_enum, gv0, gvS, see0, fl_int, fl_bool, fl_str, fl_none, fl_tup, fl_lst, bind_ok, bind_bad, bind_exc, onR_ok, onR_exc, onR_bad, toB_bool, toB_exc, eq_int, ne_int, lt_int', le_int', gt_int', ge_int', add_int', sub_int', bf_abs, bf_max, bf_min, bf_len, bf_lenT, bf_int, bf_intB, startE, List.map_cons, List.map_nil, List.length_cons, List.length_map, List.length_nil, List.cons_append, List.nil_append, List.set_cons_zero, List.set_cons_succ, List.replicate, Nat.sub_self, Nat.reduceSub, Nat.reduceAdd, if_true, if_false, Bool.false_eq_true, reduceIte, ixT0, ixT1, ixT2, outR_ret, outR_next, outR_exc, setT, setMany, wipeE, rng1_ok, rng2_ok, not_ok, neg_ok, and_t, and_f, and_ok, and_x, or_t, or_f, or_ok, or_x, ife_b, Bool.not_true, Bool.not_false, Bool.true_and, Bool.and_true, Bool.false_and, Bool.and_false, Bool.true_or, Bool.or_true, Bool.false_or, Bool.or_false, decide_true, decide_false, beq_self_eq_true, Int.reduceBEq, Int.reduceLT, Int.reduceLE, Int.reduceAdd, Int.reduceSub, Int.reduceNeg, Int.cast_ofNat_Int, fl_fr, eq_fr, ne_fr, ix_fr0, ix_fr1, ite_self, lc_nil, lc_cons, consR_s, consR_n, bf_all, bf_any, bf_sum, bf_tup, ofO_some, bls_nil, bls_cons, ints_nil, ints_cons, Option.map_some, seq_lst, seq_tup, ixL0, ixL1, ixL2, ixL3, isi_bi, isi_bb, isi_ii, isi_ib, isi_tt, List.all_cons, List.all_nil, id, pw_10_11, pw_10_12, pw_10_13, pw_10_30, pw_10_40, pw_10_6, pw_10_9, pw_2_8, pw_2_10, pw_2_12, pw_2_13, pw_2_14, pw_2_15, pw_2_16, pw_2_17, pw_2_18, pw_2_20, pw_2_24, pw_2_25, pw_2_27, pw_2_28, pw_2_30, pw_2_32, pw_2_34, pw_2_36, pw_2_38, pw_2_40, pw_2_41, pw_2_42, pw_2_44, pw_2_50, pw_2_54, pw_2_56, pw_2_60, e_rev', e_mx0', e_ins', rev_lst, s_setC', mod_pos, fdiv_pos, mul_rl, mul_ll, fl_st, ix_st0, ix_st1, cell_ok, drawn_ok, Int.reduceMul, fl_tm, cst0, cst1, cst3, cst4, eqw_num_num, eqw_num_var, eqw_num_power, eqw_num_sum, eqw_num_less, eqw_num_times, eqw_num_over, eqw_var_num, eqw_var_var, eqw_var_power, eqw_var_sum, eqw_var_less, eqw_var_times, eqw_var_over, eqw_power_num, eqw_power_var, eqw_power_power, eqw_power_sum, eqw_power_less, eqw_power_times, eqw_power_over, eqw_sum_num, eqw_sum_var, eqw_sum_power, eqw_sum_sum, eqw_sum_less, eqw_sum_times, eqw_sum_over, eqw_less_num, eqw_less_var, eqw_less_power, eqw_less_sum, eqw_less_less, eqw_less_times, eqw_less_over, eqw_times_num, eqw_times_var, eqw_times_power, eqw_times_sum, eqw_times_less, eqw_times_times, eqw_times_over, eqw_over_num, eqw_over_var, eqw_over_power, eqw_over_sum, eqw_over_less, eqw_over_times, eqw_over_over])

/-- the word of a term -/
def Tm.hd : Tm → Str
  | .num _ => "num"
  | .var _ => "var"
  | .pow _ _ => "power"
  | .bin o _ _ => o.s
def Tm.isN : Tm → Bool
  | .num _ => true
  | _ => false
theorem ix_tm0 (t : Tm) : ixR (tmD t) (.int 0) = .ok (.str t.hd) := by
  cases t <;> (simp only [tmD]; exact ixT0)
theorem hd_num (t : Tm) : cmR .eq (.str t.hd) (.str "num") = .ok (.bool t.isN) := by
  cases t with
  | num q => exact eqw_num_num
  | var i => exact eqw_var_num
  | pow t k => exact eqw_power_num
  | bin o a b => cases o <;> first | exact eqw_sum_num | exact eqw_less_num | exact eqw_times_num | exact eqw_over_num
section
variable {T : Nat → Option Def} [Lay b1 T] [Lay b2 T] [Lay b3 T] [Lay b4 T]
theorem sum_term_ok (n : Nat) {a b : Tm} {m : Nat} (ha : a.dep ≤ 60) (hb : b.dep ≤ 60) (hs : a.sz m + b.sz m ≤ 134217728) : evc T (n + 4) 34 [tmD a, tmD b] = .ok (tmD (sumT a b)) := by
  rw [evc_b b4 rfl rfl]
  unfold d_sum_term sumT
  walk_at "cw"
  rw [eq_C 0 ha]
  walk_at "cw"
  cases h1 : a.isC 0 with
  | true => walk_at "cw"
  | false =>
    walk_at "cw"
    rw [eq_C 0 hb]
    walk_at "cw"
    cases h2 : b.isC 0 with
    | true => walk_at "cw"
    | false =>
      walk_at "cw"
      rw [ix_tm0, ix_tm0]
      walk_at "cw"
      rw [hd_num, hd_num]
      walk_at "cw"
      cases a with
      | num p =>
        cases b with
        | num q =>
          have e := plus_ok (T := T) n (qz_qb p) (qz_qb q) hs
          simp only [Tm.isN, tmD]
          walk_at "cw"
          rw [e]
          walk_at "cw"
        | _ => simp only [Tm.isN, tmD, Bo.s]; walk_at "cw"
      | _ => simp only [Tm.isN, tmD, Bo.s]; walk_at "cw"
theorem less_term_ok (n : Nat) {a b : Tm} (hb : b.dep ≤ 60) : evc T (n + 1) 35 [tmD a, tmD b] = .ok (tmD (lessT a b)) := by
  rw [evc_b b4 rfl rfl]
  unfold d_less_term lessT
  walk_at "cw"
  rw [eq_C 0 hb]
  walk_at "cw"
  cases h1 : b.isC 0 with
  | true => walk_at "cw"
  | false =>
    walk_at "cw"
    try rfl
theorem times_term_ok (n : Nat) {a b : Tm} {m : Nat} (ha : a.dep ≤ 60) (hb : b.dep ≤ 60) (hs : a.sz m + b.sz m ≤ 134217728) : evc T (n + 4) 36 [tmD a, tmD b] = .ok (tmD (timesT a b)) := by
  rw [evc_b b4 rfl rfl]
  unfold d_times_term timesT
  walk_at "cw"
  rw [eq_C 0 ha, eq_C 0 hb]
  walk_at "cw"
  cases h0 : (a.isC 0 || b.isC 0) with
  | true => walk_at "cw"
  | false =>
    walk_at "cw"
    rw [eq_C 1 ha]
    walk_at "cw"
    cases h1 : a.isC 1 with
    | true => walk_at "cw"
    | false =>
      walk_at "cw"
      rw [eq_C 1 hb]
      walk_at "cw"
      cases h2 : b.isC 1 with
      | true => walk_at "cw"
      | false =>
        walk_at "cw"
        rw [ix_tm0, ix_tm0]
        walk_at "cw"
        rw [hd_num, hd_num]
        walk_at "cw"
        cases a with
        | num p =>
          cases b with
          | num q =>
            have e := times_ok (T := T) n (qz_qb p) (qz_qb q) hs
            simp only [Tm.isN, tmD]
            walk_at "cw"
            rw [e]
            walk_at "cw"
          | _ => simp only [Tm.isN, tmD, Bo.s]; walk_at "cw"
        | _ => simp only [Tm.isN, tmD, Bo.s]; walk_at "cw"
theorem power_term_ok (n : Nat) {a : Tm} {k : Nat} : evc T (n + 1) 37 [tmD a, .int k] = .ok (tmD (powT a k)) := by
  rw [evc_b b4 rfl rfl]
  unfold d_power_term powT
  walk_at "cw"
  by_cases h0 : k = 0
  · subst h0
    walk_at "cw"
    try rfl
  · have e0 : ((k : Int) == 0) = false := by rw [beq_eq_false_iff_ne]; omega
    rw [if_neg h0, e0]
    walk_at "cw"
    by_cases h1 : k = 1
    · subst h1
      walk_at "cw"
      try rfl
    · have e1 : ((k : Int) == 1) = false := by rw [beq_eq_false_iff_ne]; omega
      rw [if_neg h1, e1]
      simp only [tmD]
      walk_at "cw"
theorem over_slope_ok (n : Nat) {a b a' b' : Tm} {m : Nat} (ha : a.dep ≤ 57) (hb : b.dep ≤ 57) (ha' : a'.dep ≤ 57) (hb' : b'.dep ≤ 57) (h1 : a'.sz m + b.sz m ≤ 134217728) (h2 : a.sz m + b'.sz m ≤ 134217728) : evc T (n + 5) 38 [tmD (.bin .over a b), tmD a', tmD b'] = .ok (tmD (overT a b a' b')) := by
  have e1 := times_term_ok (T := T) n (a := a') (b := b) (by omega) (by omega) h1
  have e2 := times_term_ok (T := T) n (a := a) (b := b') (by omega) (by omega) h2
  have d1 := dep_times ha' hb
  have d2 := dep_times ha hb'
  have d3 := dep_less d1 d2
  have e3 := less_term_ok (T := T) (n + 3) (a := timesT a' b) (b := timesT a b') (by omega)
  have e4 := eq_C 0 (t := lessT (timesT a' b) (timesT a b')) (by omega)
  rw [evc_b b4 rfl rfl]
  unfold d_over_slope overT
  simp only [tmD, Bo.s]
  walk_at "cw"
  rw [e1, e2]
  walk_at "cw"
  rw [e3]
  walk_at "cw"
  rw [e4]
  walk_at "cw"
  cases h : (lessT (timesT a' b) (timesT a b')).isC 0 with
  | true => walk_at "cw"
  | false =>
    walk_at "cw"
    try rfl
theorem fr_nat (n : Nat) : (.tuple [.int n, .int 1] : D) = fr (n : Rat) := by
  unfold fr
  rw [Rat.num_natCast, Rat.den_natCast]
  rfl
theorem slope_ok {m v : Nat} (k : Nat) : ∀ (t : Tm) (n : Nat), t.shp v → 5 * t.dep * (t.sz m + 1) ≤ 68000000 → t.dep ≤ 18 → t.dep ≤ n → evc T (n + 5) 39 [tmD t, .int k] = .ok (tmD (slopeT k t))
  | .num q, n, g, hs, hd, hn => by
    rw [evc_b b4 rfl rfl]
    unfold d_slope
    simp only [tmD, slopeT]
    walk_at "cw"
    try rfl
  | .var i, n, g, hs, hd, hn => by
    rw [evc_b b4 rfl rfl]
    unfold d_slope
    simp only [tmD, slopeT]
    walk_at "cw"
    by_cases h : i = k
    · subst h
      walk_at "cw"
      try rfl
    · have e : ((i : Int) == k) = false := by rw [beq_eq_false_iff_ne]; omega
      rw [if_neg h, e]
      walk_at "cw"
      try rfl
  | .pow t j, n, g, hs, hd, hn => by
    obtain ⟨n, rfl⟩ : ∃ i, n = i + 1 := ⟨n - 1, by simp only [Tm.dep] at hn; omega⟩
    have hp := t.dep_pos
    have hsz := slope_sz (m := m) k g.1
    have hsz2 := slope_sz (m := m) k g
    have hm : 5 * t.dep * (t.sz m + 1) ≤ 5 * (t.dep + 1) * (t.sz m * (j + 1) + 1 + 1) := Nat.mul_le_mul (by omega) (by rw [Nat.mul_add]; omega)
    simp only [Tm.sz, Tm.dep] at hs hd hn
    have ih := slope_ok (m := m) k t n g.1 (by omega) (by omega) (by omega)
    have sd := slope_dep k t
    have hb : t.sz m * (j + 1) + 1 + 1 ≤ 5 * (t.dep + 1) * (t.sz m * (j + 1) + 1 + 1) := Nat.le_mul_of_pos_left _ (by omega)
    have hc1 : 5 * (t.dep + 1) * (t.sz m * (j + 1) + 1 + 1) = 5 * t.dep * (t.sz m * (j + 1) + 1 + 1) + 5 * (t.sz m * (j + 1) + 1 + 1) := by rw [Nat.mul_add 5, Nat.add_mul]
    have hc2 : 5 * t.dep * (t.sz m + 1) ≤ 5 * t.dep * (t.sz m * (j + 1) + 1 + 1) := Nat.mul_le_mul_left _ (by rw [Nat.mul_add]; omega)
    rw [evc_b b4 rfl rfl]
    unfold d_slope
    simp only [tmD, slopeT]
    walk_at "cw"
    rw [ih]
    walk_at "cw"
    by_cases h0 : j = 0
    · subst h0
      walk_at "cw"
      try rfl
    · have e0 : ((j : Int) == 0) = false := by rw [beq_eq_false_iff_ne]; omega
      have e1 : (j : Int) - 1 = ((j - 1 : Nat) : Int) := by omega
      have pt := power_term_ok (T := T) (n + 4) (a := t) (k := j - 1)
      have hpz := sz_powT m t (j - 1)
      have hpd := dep_powT (a := t) (k := j - 1) (Nat.le_refl _)
      have htz := sz_times m (powT t (j - 1)) (slopeT k t)
      rw [show j - 1 + 1 = j from by omega] at hpz
      have hjj : t.sz m * j ≤ t.sz m * (j + 1) := Nat.mul_le_mul_left _ (by omega)
      have hq := qb_nat g.2
      have tt := times_term_ok (T := T) (n + 1) (a := powT t (j - 1)) (b := slopeT k t) (m := m) (by omega) (by omega) (by omega)
      have htd := dep_times (a := powT t (j - 1)) (b := slopeT k t) (d := 55) (by omega) (by omega)
      have t2 := times_term_ok (T := T) (n + 1) (a := .num (j : Rat)) (b := timesT (powT t (j - 1)) (slopeT k t)) (m := m) (by simp [Tm.dep]) (by omega) (by simp only [Tm.sz]; omega)
      rw [if_neg h0, e0]
      walk_at "cw"
      rw [e1, pt]
      walk_at "cw"
      rw [tt, fr_nat]
      walk_at "cw"
      simp only [tmD] at t2
      rw [t2]
      walk_at "cw"
  | .bin o a b, n, g, hs, hd, hn => by
    obtain ⟨n, rfl⟩ : ∃ i, n = i + 1 := ⟨n - 1, by simp only [Tm.dep] at hn; omega⟩
    have pa := a.dep_pos
    have pb := b.dep_pos
    have sa := slope_sz (m := m) k g.1
    have sb := slope_sz (m := m) k g.2
    have ma : 5 * a.dep * (a.sz m + 1) + 5 * b.dep * (b.sz m + 1) + 5 * (a.sz m + b.sz m + 1 + 1) ≤ 5 * (max a.dep b.dep + 1) * (a.sz m + b.sz m + 1 + 1) := by
      have ia : 5 * a.dep * (a.sz m + 1) ≤ 5 * max a.dep b.dep * (a.sz m + 1) := Nat.mul_le_mul_right _ (by omega)
      have ib : 5 * b.dep * (b.sz m + 1) ≤ 5 * max a.dep b.dep * (b.sz m + 1) := Nat.mul_le_mul_right _ (by omega)
      have e1 : 5 * (max a.dep b.dep + 1) * (a.sz m + b.sz m + 1 + 1) = 5 * max a.dep b.dep * (a.sz m + 1) + 5 * max a.dep b.dep * (b.sz m + 1) + 5 * (a.sz m + b.sz m + 1 + 1) := by
        rw [Nat.mul_add 5, Nat.add_mul, ← Nat.mul_add (5 * max a.dep b.dep)]
        congr 2 <;> omega
      omega
    simp only [Tm.sz, Tm.dep] at hs hd hn
    have ih1 := slope_ok (m := m) k a n g.1 (by omega) (by omega) (by omega)
    have ih2 := slope_ok (m := m) k b n g.2 (by omega) (by omega) (by omega)
    have d1 := slope_dep k a
    have d2 := slope_dep k b
    rw [evc_b b4 rfl rfl]
    unfold d_slope
    cases o with
    | sum =>
      have z := sum_term_ok (T := T) (n + 1) (a := slopeT k a) (b := slopeT k b) (m := m) (by omega) (by omega) (by omega)
      simp only [tmD, slopeT, Bo.s]
      walk_at "cw"; rw [ih1]; walk_at "cw"; rw [ih2]; walk_at "cw"; rw [z]; walk_at "cw"
    | less =>
      have z := less_term_ok (T := T) (n + 4) (a := slopeT k a) (b := slopeT k b) (by omega)
      simp only [tmD, slopeT, Bo.s]
      walk_at "cw"; rw [ih1]; walk_at "cw"; rw [ih2]; walk_at "cw"; rw [z]; walk_at "cw"
    | times =>
      have t1 := times_term_ok (T := T) (n + 1) (a := slopeT k a) (b := b) (m := m) (by omega) (by omega) (by omega)
      have t2 := times_term_ok (T := T) (n + 1) (a := a) (b := slopeT k b) (m := m) (by omega) (by omega) (by omega)
      have q1 := sz_times m (slopeT k a) b
      have q2 := sz_times m a (slopeT k b)
      have w1 := dep_times (a := slopeT k a) (b := b) (d := 55) (by omega) (by omega)
      have w2 := dep_times (a := a) (b := slopeT k b) (d := 55) (by omega) (by omega)
      have z := sum_term_ok (T := T) (n + 1) (a := timesT (slopeT k a) b) (b := timesT a (slopeT k b)) (m := m) (by omega) (by omega) (by omega)
      simp only [tmD, slopeT, Bo.s]
      walk_at "cw"; rw [ih1]; walk_at "cw"; rw [ih2]; walk_at "cw"; rw [t1, t2]; walk_at "cw"; rw [z]; walk_at "cw"
    | over =>
      have z := over_slope_ok (T := T) n (a := a) (b := b) (a' := slopeT k a) (b' := slopeT k b) (m := m) (by omega) (by omega) (by omega) (by omega) (by omega) (by omega)
      simp only [tmD, slopeT, Bo.s] at z ⊢
      walk_at "cw"; rw [ih1]; walk_at "cw"; rw [ih2]; walk_at "cw"; rw [z]; walk_at "cw"
end
end Cw

set_option Elab.async false
set_option linter.all false
set_option maxRecDepth 100000
set_option maxHeartbeats 4000000
namespace Cw
open PySem
def d_is_in : Def := ⟨2, 4, (.cons (.ret [] (.bf .all (.cons (.lc [2, 3] (.call 26 (.cons (.v 3) (.cons (.v 2) .nil))) (.many [2, 3]) (.zip (.v 0) (.v 1)) .no) .nil))) .nil)⟩
def d_is_within : Def := ⟨2, 4, (.cons (.ret [] (.bf .all (.cons (.lc [2, 3] (.and (.cons (.call 26 (.cons (.v 3) (.cons (.ix (.v 2) (.k (.int 0))) .nil))) (.cons (.call 26 (.cons (.v 3) (.cons (.ix (.v 2) (.k (.int 1))) .nil))) .nil))) (.many [2, 3]) (.zip (.v 0) (.v 1)) .no) .nil))) .nil)⟩
def d_met : Def := ⟨2, 7, (.cons (.asgL 2 [] (.lst .nil)) (.cons (.for_ [] (.many [3, 4]) (.zip (.v 0) (.v 1)) (.cons (.asg 5 [] (.call 24 (.cons (.lst (.cons (.ix (.v 3) (.k (.int 0))) (.cons (.ix (.v 4) (.k (.int 0))) .nil))) .nil))) (.cons (.asg 6 [] (.call 23 (.cons (.lst (.cons (.ix (.v 3) (.k (.int 1))) (.cons (.ix (.v 4) (.k (.int 1))) .nil))) .nil))) (.cons (.iff [] (.cmp .gt (.call 22 (.cons (.v 5) (.cons (.v 6) .nil))) (.k (.int 0))) (.cons (.ret [] (.k .none)) .nil) .nil) (.cons (.app 2 [] (.tup (.cons (.v 5) (.cons (.v 6) .nil)))) .nil))))) (.cons (.ret [2] (.bf .tuple (.cons (.v 2) .nil))) .nil)))⟩
def d_hull : Def := ⟨2, 4, (.cons (.ret [] (.bf .tuple (.cons (.lc [2, 3] (.tup (.cons (.call 23 (.cons (.lst (.cons (.ix (.v 2) (.k (.int 0))) (.cons (.ix (.v 3) (.k (.int 0))) .nil))) .nil)) (.cons (.call 24 (.cons (.lst (.cons (.ix (.v 2) (.k (.int 1))) (.cons (.ix (.v 3) (.k (.int 1))) .nil))) .nil)) .nil))) (.many [2, 3]) (.zip (.v 0) (.v 1)) .no) .nil))) .nil)⟩
def d_with_side : Def := ⟨3, 3, (.cons (.ret [] (.bin .add (.bin .add (.sl (.v 0) .no (.yes (.v 1))) (.tup (.cons (.v 2) .nil))) (.sl (.v 0) (.yes (.bin .add (.v 1) (.k (.int 1)))) .no))) .nil)⟩
def d_halves : Def := ⟨3, 3, (.cons (.iff [] (.not (.call 26 (.cons (.ix (.v 0) (.v 1)) (.cons (.v 2) .nil)))) (.cons (.rais "NoStretch") .nil) .nil) (.cons (.ret [] (.tup (.cons (.call 44 (.cons (.v 0) (.cons (.v 1) (.cons (.tup (.cons (.ix (.ix (.v 0) (.v 1)) (.k (.int 0))) (.cons (.v 2) .nil))) .nil)))) (.cons (.call 44 (.cons (.v 0) (.cons (.v 1) (.cons (.tup (.cons (.v 2) (.cons (.ix (.ix (.v 0) (.v 1)) (.k (.int 1))) .nil))) .nil)))) .nil)))) .nil))⟩
def d_middle_of : Def := ⟨1, 2, (.cons (.ret [] (.bf .tuple (.cons (.lc [1] (.call 20 (.cons (.call 17 (.cons (.ix (.v 1) (.k (.int 0))) (.cons (.ix (.v 1) (.k (.int 1))) .nil))) (.cons (.g 2) .nil))) (.one 1) (.seq (.v 0)) .no) .nil))) .nil)⟩
def d_corners : Def := ⟨1, 7, (.cons (.asg 1 [] (.lst (.cons (.tup .nil) .nil))) (.cons (.for_ [] (.one 2) (.seq (.v 0)) (.cons (.asg 3 [] (.ife (.cmp .eq (.ix (.v 2) (.k (.int 0))) (.ix (.v 2) (.k (.int 1)))) (.lst (.cons (.ix (.v 2) (.k (.int 0))) .nil)) (.lst (.cons (.ix (.v 2) (.k (.int 0))) (.cons (.ix (.v 2) (.k (.int 1))) .nil))))) (.cons (.asgL 4 [] (.lst .nil)) (.cons (.for_ [] (.one 5) (.seq (.v 1)) (.cons (.ext 4 [] (.lc [6] (.bin .add (.v 5) (.tup (.cons (.v 6) .nil))) (.one 6) (.seq (.v 3)) .no)) .nil)) (.cons (.asg 1 [4] (.v 4)) .nil))))) (.cons (.ret [] (.v 1)) .nil)))⟩
def d_widest : Def := ⟨1, 4, (.cons (.asg 1 [] (.k (.int 0))) (.cons (.for_ [] (.many [2, 3]) (.enum (.v 0)) (.cons (.iff [] (.cmp .gt (.call 22 (.cons (.call 18 (.cons (.ix (.v 3) (.k (.int 1))) (.cons (.ix (.v 3) (.k (.int 0))) .nil))) (.cons (.call 18 (.cons (.ix (.ix (.v 0) (.v 1)) (.k (.int 1))) (.cons (.ix (.ix (.v 0) (.v 1)) (.k (.int 0))) .nil))) .nil))) (.k (.int 0))) (.cons (.asg 1 [] (.v 2)) .nil) .nil) .nil)) (.cons (.ret [] (.v 1)) .nil)))⟩
def d_at_point : Def := ⟨1, 2, (.cons (.ret [] (.bf .tuple (.cons (.lc [1] (.tup (.cons (.v 1) (.cons (.v 1) .nil))) (.one 1) (.seq (.v 0)) .no) .nil))) .nil)⟩
def b5 : List (Nat × Def) := [(40, d_is_in), (41, d_is_within), (42, d_met), (43, d_hull), (44, d_with_side), (45, d_halves), (46, d_middle_of), (47, d_corners), (48, d_widest), (49, d_at_point)]

/-! ### comprehensions over what is given as a list of Lean's -/
theorem lc_fun {A : Type} {F : Nat → List D → R D} {own : List Nat} {elt : E} {tg : Tg} {env : List Sl} (g f : A → D) : ∀ {l : List A}, (∀ a ∈ l, ∃ e2, setT (wipeE env own) tg (g a) = .ok e2 ∧ ev F e2 elt = .ok (f a)) → lcS F own elt tg .no env (l.map g) = .ok (l.map f)
  | [], _ => lc_nil
  | a :: l, h => by
    obtain ⟨e2, h1, h2⟩ := h a List.mem_cons_self
    rw [List.map_cons, lc_cons, h1, lc_fun g f fun a ha => h a (List.mem_cons_of_mem _ ha)]
    simp only [bind_ok, ec_no, if_true, h2, consR_s, List.map_cons]
theorem lc_if {A : Type} {F : Nat → List D → R D} {own : List Nat} {elt c : E} {tg : Tg} {env : List Sl} (g f : A → D) (φ : A → Bool) : ∀ {l : List A}, (∀ a ∈ l, ∃ e2, setT (wipeE env own) tg (g a) = .ok e2 ∧ ev F e2 c = .ok (.bool (φ a)) ∧ ev F e2 elt = .ok (f a)) → lcS F own elt tg (.yes c) env (l.map g) = .ok ((l.filter φ).map f)
  | [], _ => lc_nil
  | a :: l, h => by
    obtain ⟨e2, h1, h2, h3⟩ := h a List.mem_cons_self
    rw [List.map_cons, lc_cons, h1, lc_if g f φ fun a ha => h a (List.mem_cons_of_mem _ ha), List.filter_cons]
    simp only [bind_ok, ec_yes, h2, h3]
    cases φ a with
    | true => simp only [if_true, consR_s, List.map_cons]
    | false => simp only [if_false, Bool.false_eq_true, consR_n]
theorem rngL_eq (n : Nat) : rngL 0 n = (List.range n).map fun (k : Nat) => (.int (k : Int) : D) := by
  unfold rngL
  congr 1
  funext k
  rw [Int.zero_add]
theorem range_get {A B : Type} (l : List A) (f : A → B) (d : A) : (List.range l.length).map (fun j => f (l.getD j d)) = l.map f := by
  apply List.ext_getElem
  · simp
  · intro i h1 h2
    simp only [List.length_map, List.length_range] at h1
    simp [h1]
/-- a comprehension over a range of a list's places -/
theorem lc_rng {A : Type} [Inhabited A] {F : Nat → List D → R D} {own : List Nat} {elt : E} {tg : Tg} {env : List Sl} (l : List A) (f : A → D) (h : ∀ (j : Nat) a, l[j]? = some a → ∃ e2, setT (wipeE env own) tg (.int (j : Int)) = .ok e2 ∧ ev F e2 elt = .ok (f a)) : lcS F own elt tg .no env (rngL 0 l.length) = .ok (l.map f) := by
  rw [rngL_eq, lc_fun _ (fun j => f (l.getD j default)) (fun j hj => by
    have hj : j < l.length := by simpa using hj
    obtain ⟨e2, h1, h2⟩ := h j l[j] (List.getElem?_eq_getElem hj)
    refine ⟨e2, h1, ?_⟩
    rw [h2]
    simp [hj]), range_get]
theorem zipL_map {A B : Type} (f : A → D) (g : B → D) : ∀ (a : List A) (b : List B), zipL (a.map f) (b.map g) = (a.zip b).map fun p => .tuple [f p.1, g p.2]
  | [], _ => by simp [zipL]
  | _ :: _, [] => by simp [zipL]
  | a :: as, b :: bs => by simp only [List.map_cons, zipL, List.zip_cons_cons]; rw [zipL_map f g as bs]
theorem bls_map {A : Type} (φ : A → Bool) : ∀ l : List A, blsOf (l.map fun a => .bool (φ a)) = some (l.map φ)
  | [] => rfl
  | a :: l => by rw [List.map_cons, bls_cons, bls_map φ l]; rfl
theorem all_map {A : Type} (φ : A → Bool) (l : List A) : bfR .all [.list (l.map fun a => .bool (φ a))] = .ok (.bool (l.all φ)) := by
  rw [bf_all, bls_map]
  show R.ok (PyData.bool _) = _
  rw [List.all_map]
  rfl
theorem any_map {A : Type} (φ : A → Bool) (l : List A) : bfR .any [.list (l.map fun a => .bool (φ a))] = .ok (.bool (l.any φ)) := by
  rw [bf_any, bls_map]
  show R.ok (PyData.bool _) = _
  rw [List.any_map]
  rfl
def extO (o : Option (List D)) (env env2 : List Sl) (i : Nat) (r : R D) : Out := match o with
  | some ds => onR env r fun d => match d with
    | .list l => if ds.length + l.length ≤ sizeLine then .next (env2.set i (.ow (ds ++ l))) else .bad
    | _ => .bad
  | none => .bad
theorem s_ext' {F : Nat → List D → R D} {env : List Sl} {i : Nat} {ms : List Nat} {e : E} : evS F env (.ext i ms e) = extO (owOf env i) env (see env ms) i (ev F (see env ms) e) := by
  simp only [evS] <;> (unfold owOf extO; (cases env[i]? with
  | none => rfl
  | some y => cases y <;> rfl))
theorem ext_some {env env2 : List Sl} {ds l : List D} {i : Nat} : extO (some ds) env env2 i (.ok (.list l)) = if ds.length + l.length ≤ sizeLine then .next (env2.set i (.ow (ds ++ l))) else .bad := rfl
theorem zip_tup {a b : List D} (h : a.length ≤ sizeLine) : zipR (.tuple a) (.tuple b) = .ok (zipL a b) := by
  show (if _ then _ else _) = _
  rw [if_pos h]
theorem enum_tup {a : List D} (h : a.length ≤ sizeLine) : enumR (.tuple a) = .ok (enumL 0 a) := by
  show (if _ then _ else _) = _
  rw [if_pos h]
theorem add_tup {a b : List D} (h : a.length + b.length ≤ sizeLine) : opR .add (.tuple a) (.tuple b) = .ok (.tuple (a ++ b)) := by
  show (if _ then _ else _) = _
  rw [if_pos h]
/-! ### boxes -/
abbrev Sd := Rat × Rat
def sd (s : Sd) : D := st s.1 s.2
def boxD (b : List Sd) : D := .tuple (b.map sd)
def Bz (a : Nat) (b : List Sd) : Prop := ∀ s ∈ b, Qz a s.1 ∧ Qz a s.2
def hasB (s : Sd) (x : Rat) : Bool := decide (s.1 ≤ x) && decide (x ≤ s.2)
def inB (p : List Rat) (b : List Sd) : Bool := (p.zip b).all fun q => hasB q.2 q.1
def withinB (b c : List Sd) : Bool := (b.zip c).all fun q => hasB q.2 q.1.1 && hasB q.2 q.1.2
def meetS (s t : Sd) : Sd := (maxQ [s.1, t.1], minQ [s.2, t.2])
def hullS (s t : Sd) : Sd := (minQ [s.1, t.1], maxQ [s.2, t.2])
def metB (b c : List Sd) : Option (List Sd) := if (b.zip c).any (fun q => decide ((meetS q.1 q.2).2 < (meetS q.1 q.2).1)) = true then none else some ((b.zip c).map fun q => meetS q.1 q.2)
def hullB (b c : List Sd) : List Sd := (b.zip c).map fun q => hullS q.1 q.2
def midB (b : List Sd) : List Rat := b.map fun s => (s.1 + s.2) / 2
def endsS (s : Sd) : List Rat := if s.1 = s.2 then [s.1] else [s.1, s.2]
def cornB (b : List Sd) : List (List Rat) := b.foldl (fun l s => l.flatMap fun p => (endsS s).map fun e => p ++ [e]) [[]]
def obD : Option (List Sd) → D
  | some b => boxD b
  | none => .none
theorem fl_box {b : List Sd} : flatD (boxD b) = false := rfl
theorem fl_pt {p : List Rat} : flatD (ptD p) = false := rfl
theorem fl_sd {s : Sd} : flatD (sd s) = false := rfl
theorem ix_sd0 {s : Sd} : ixR (sd s) (.int 0) = .ok (fr s.1) := rfl
theorem ix_sd1 {s : Sd} : ixR (sd s) (.int 1) = .ok (fr s.2) := rfl
theorem tup_sd {a b : Rat} : (.tuple [fr a, fr b] : D) = sd (a, b) := rfl
theorem ixb_ok {b : List Sd} {i : Nat} {s : Sd} (h : b[i]? = some s) : ixR (boxD b) (.int i) = .ok (sd s) := by
  unfold boxD; rw [ixT_nat, List.getElem?_map, h]; rfl
theorem mem_zip {A B : Type} {a : A} {b : B} {l : List A} {m : List B} (h : (a, b) ∈ l.zip m) : a ∈ l ∧ b ∈ m := List.of_mem_zip h
local macro_rules | `(tactic| walk_at "cw") => `(tactic| simp -implicitDefEqProofs only [ss_nil, ss_cons, goSs_next, goSs_ret, goSs_exc, goSs_brk, goSs_cont, s_asg', s_asgL2, asgL_ok, see_cons, see1_ow, see1_fr, see1_no, see1_S, ow_0, ow_S, s_app', app_some, app_exc, s_asgT', s_par', s_ret', s_iff', s_whl', s_for', s_rais', s_expr', s_brk', s_cont', s_pass', s_try', s_tryW', tryW_ret, tryW_next, tryW_exc, tryN_ret, tryN_next, tryN_exc, e_k, e_v, e_g, e_tup', e_lst', e_bin', e_neg', e_not', e_and', e_or', e_cmp', e_cmp2', e_ife', e_ix', e_sl', e_call', e_bf', e_isi', e_lc', es_nil, es_cons, and_one, and_cons, or_one, or_cons, eo_no, eo_yes, ec_no, ec_yes, ei_seq, ei_rng1, ei_rng2, ei_zip, ei_enum, gv0, gvS, see0, fl_int, fl_bool, fl_str, fl_none, fl_tup, fl_lst, bind_ok, bind_bad, bind_exc, onR_ok, onR_exc, onR_bad, toB_bool, toB_exc, eq_int, ne_int, lt_int', le_int', gt_int', ge_int', add_int', sub_int', bf_abs, bf_max, bf_min, bf_len, bf_lenT, bf_int, bf_intB, startE, List.map_cons, List.map_nil, List.length_cons, List.length_map, List.length_nil, List.cons_append, List.nil_append, List.set_cons_zero, List.set_cons_succ, List.replicate, Nat.sub_self, Nat.reduceSub, Nat.reduceAdd, if_true, if_false, Bool.false_eq_true, reduceIte, ixT0, ixT1, ixT2, outR_ret, outR_next, outR_exc, setT, setMany, wipeE, rng1_ok, rng2_ok, not_ok, neg_ok, and_t, and_f, and_ok, and_x, or_t, or_f, or_ok, or_x, ife_b, Bool.not_true, Bool.not_false, Bool.true_and, Bool.and_true, Bool.false_and, Bool.and_false, Bool.true_or, Bool.or_true, Bool.false_or, Bool.or_false, decide_true, decide_false, beq_self_eq_true, Int.reduceBEq, Int.reduceLT, Int.reduceLE, Int.reduceAdd, Int.reduceSub, Int.reduceNeg, Int.cast_ofNat_Int, fl_fr, eq_fr, ne_fr, ix_fr0, ix_fr1, ite_self, lc_nil, lc_cons, consR_s, consR_n, bf_all, bf_any, bf_sum, bf_tup, ofO_some, bls_nil, bls_cons, ints_nil, ints_cons, Option.map_some, seq_lst, seq_tup, ixL0, ixL1, ixL2, ixL3, isi_bi, isi_bb, isi_ii, isi_ib, isi_tt, List.all_cons, List.all_nil, id, pw_10_11, pw_10_12, pw_10_13, pw_10_30, pw_10_40, pw_10_6, pw_10_9, pw_2_8, pw_2_10, pw_2_12, pw_2_13, pw_2_14, pw_2_15, pw_2_16, pw_2_17, pw_2_18, pw_2_20, pw_2_24, pw_2_25, pw_2_27, pw_2_28, pw_2_30, pw_2_32, pw_2_34, pw_2_36, pw_2_38, pw_2_40, pw_2_41, pw_2_42, pw_2_44, pw_2_50, pw_2_54, pw_2_56, pw_2_60, e_rev', e_mx0', e_ins', rev_lst, s_setC', mod_pos, fdiv_pos, mul_rl, mul_ll, fl_st, ix_st0, ix_st1, cell_ok, drawn_ok, Int.reduceMul, fl_tm, cst0, cst1, fl_box, fl_pt, fl_sd, ix_sd0, ix_sd1, s_ext', eqw_num_num, eqw_num_var, eqw_num_power, eqw_num_sum, eqw_num_less, eqw_num_times, eqw_num_over, eqw_var_num, eqw_var_var, eqw_var_power, eqw_var_sum, eqw_var_less, eqw_var_times, eqw_var_over, eqw_power_num, eqw_power_var, eqw_power_power, eqw_power_sum, eqw_power_less, eqw_power_times, eqw_power_over, eqw_sum_num, eqw_sum_var, eqw_sum_power, eqw_sum_sum, eqw_sum_less, eqw_sum_times, eqw_sum_over, eqw_less_num, eqw_less_var, eqw_less_power, eqw_less_sum, eqw_less_less, eqw_less_times, eqw_less_over, eqw_times_num, eqw_times_var, eqw_times_power, eqw_times_sum, eqw_times_less, eqw_times_times, eqw_times_over, eqw_over_num, eqw_over_var, eqw_over_power, eqw_over_sum, eqw_over_less, eqw_over_times, eqw_over_over])
local macro_rules | `(tactic| walk_at "cw*") => `(tactic| simp -implicitDefEqProofs only [*, ss_nil, ss_cons, goSs_next, goSs_ret, goSs_exc, goSs_brk, goSs_cont, s_asg', s_asgL2, asgL_ok, see_cons, see1_ow, see1_fr, see1_no, see1_S, ow_0, ow_S, s_app', app_some, app_exc, s_asgT', s_par', s_ret', s_iff', s_whl', s_for', s_rais', s_expr', s_brk', s_cont', s_pass', s_try', s_tryW', tryW_ret, tryW_next, tryW_exc, tryN_ret, tryN_next, tryN_exc, e_k, e_v, e_g, e_tup', e_lst', e_bin', e_neg', e_not', e_and', e_or', e_cmp', e_cmp2', e_ife', e_ix', e_sl', e_call', e_bf', e_isi', e_lc', es_nil, es_cons, and_one, and_cons, or_one, or_cons, eo_no, eo_yes, ec_no, ec_yes, ei_seq, ei_rng1, ei_rng2, ei_zip, ei_enum, gv0, gvS, see0, fl_int, fl_bool, fl_str, fl_none, fl_tup, fl_lst, bind_ok, bind_bad, bind_exc, onR_ok, onR_exc, onR_bad, toB_bool, toB_exc, eq_int, ne_int, lt_int', le_int', gt_int', ge_int', add_int', sub_int', bf_abs, bf_max, bf_min, bf_len, bf_lenT, bf_int, bf_intB, startE, List.map_cons, List.map_nil, List.length_cons, List.length_map, List.length_nil, List.cons_append, List.nil_append, List.set_cons_zero, List.set_cons_succ, List.replicate, Nat.sub_self, Nat.reduceSub, Nat.reduceAdd, if_true, if_false, Bool.false_eq_true, reduceIte, ixT0, ixT1, ixT2, outR_ret, outR_next, outR_exc, setT, setMany, wipeE, rng1_ok, rng2_ok, not_ok, neg_ok, and_t, and_f, and_ok, and_x, or_t, or_f, or_ok, or_x, ife_b, Bool.not_true, Bool.not_false, Bool.true_and, Bool.and_true, Bool.false_and, Bool.and_false, Bool.true_or, Bool.or_true, Bool.false_or, Bool.or_false, decide_true, decide_false, beq_self_eq_true, Int.reduceBEq, Int.reduceLT, Int.reduceLE, Int.reduceAdd, Int.reduceSub, Int.reduceNeg, Int.cast_ofNat_Int, fl_fr, eq_fr, ne_fr, ix_fr0, ix_fr1, ite_self, lc_nil, lc_cons, consR_s, consR_n, bf_all, bf_any, bf_sum, bf_tup, ofO_some, bls_nil, bls_cons, ints_nil, ints_cons, Option.map_some, seq_lst, seq_tup, ixL0, ixL1, ixL2, ixL3, isi_bi, isi_bb, isi_ii, isi_ib, isi_tt, List.all_cons, List.all_nil, id, pw_10_11, pw_10_12, pw_10_13, pw_10_30, pw_10_40, pw_10_6, pw_10_9, pw_2_8, pw_2_10, pw_2_12, pw_2_13, pw_2_14, pw_2_15, pw_2_16, pw_2_17, pw_2_18, pw_2_20, pw_2_24, pw_2_25, pw_2_27, pw_2_28, pw_2_30, pw_2_32, pw_2_34, pw_2_36, pw_2_38, pw_2_40, pw_2_41, pw_2_42, pw_2_44, pw_2_50, pw_2_54, pw_2_56, pw_2_60, e_rev', e_mx0', e_ins', rev_lst, s_setC', mod_pos, fdiv_pos, mul_rl, mul_ll, fl_st, ix_st0, ix_st1, cell_ok, drawn_ok, Int.reduceMul, fl_tm, cst0, cst1, fl_box, fl_pt, fl_sd, ix_sd0, ix_sd1, s_ext', eqw_num_num, eqw_num_var, eqw_num_power, eqw_num_sum, eqw_num_less, eqw_num_times, eqw_num_over, eqw_var_num, eqw_var_var, eqw_var_power, eqw_var_sum, eqw_var_less, eqw_var_times, eqw_var_over, eqw_power_num, eqw_power_var, eqw_power_power, eqw_power_sum, eqw_power_less, eqw_power_times, eqw_power_over, eqw_sum_num, eqw_sum_var, eqw_sum_power, eqw_sum_sum, eqw_sum_less, eqw_sum_times, eqw_sum_over, eqw_less_num, eqw_less_var, eqw_less_power, eqw_less_sum, eqw_less_less, eqw_less_times, eqw_less_over, eqw_times_num, eqw_times_var, eqw_times_power, eqw_times_sum, eqw_times_less, eqw_times_times, eqw_times_over, eqw_over_num, eqw_over_var, eqw_over_power, eqw_over_sum, eqw_over_less, eqw_over_times, eqw_over_over])

section
variable {T : Nat → Option Def} [Lay b1 T] [Lay b2 T] [Lay b5 T]
theorem hasd_ok (n : Nat) {s : Sd} {q : Rat} {a b : Nat} (h1 : Qz a s.1) (h2 : Qz a s.2) (hq : Qz b q) (hab : a + b ≤ 134217728) : evc T (n + 2) 26 [sd s, fr q] = .ok (.bool (hasB s q)) := has_ok n h1 h2 hq hab
theorem is_in_ok (n : Nat) {p : List Rat} {b : List Sd} {a c : Nat} (hp : ∀ x ∈ p, Qz a x) (hb : Bz c b) (hac : a + c ≤ 134217728) (hl : p.length ≤ 1000) : evc T (n + 3) 40 [ptD p, boxD b] = .ok (.bool (inB p b)) := by
  rw [evc_b b5 rfl rfl]
  unfold d_is_in ptD boxD
  walk_at "cw"
  rw [zip_tup (by simp [sizeLine_eq]; omega), zipL_map]
  walk_at "cw"
  rw [lc_fun _ (fun q => .bool (hasB q.2 q.1)) (by
    rintro ⟨x, s⟩ hq
    obtain ⟨h1, h2⟩ := mem_zip hq
    refine ⟨_, rfl, ?_⟩
    walk_at "cw"
    exact hasd_ok n (hb s h2).1 (hb s h2).2 (hp x h1) (by omega))]
  simp only [bind_ok]
  rw [all_map]
  walk_at "cw"
  rfl
theorem is_within_ok (n : Nat) {b c : List Sd} {a a' : Nat} (hb : Bz a b) (hc : Bz a' c) (hac : a + a' ≤ 134217728) (hl : b.length ≤ 1000) : evc T (n + 3) 41 [boxD b, boxD c] = .ok (.bool (withinB b c)) := by
  rw [evc_b b5 rfl rfl]
  unfold d_is_within boxD
  walk_at "cw"
  rw [zip_tup (by simp [sizeLine_eq]; omega), zipL_map]
  walk_at "cw"
  rw [lc_fun _ (fun q => .bool (hasB q.2 q.1.1 && hasB q.2 q.1.2)) (by
    rintro ⟨x, s⟩ hq
    obtain ⟨h1, h2⟩ := mem_zip hq
    refine ⟨_, rfl, ?_⟩
    walk_at "cw"
    rw [hasd_ok n (hc s h2).1 (hc s h2).2 (hb x h1).1 (by omega), hasd_ok n (hc s h2).1 (hc s h2).2 (hb x h1).2 (by omega)]
    walk_at "cw")]
  simp only [bind_ok]
  rw [all_map]
  walk_at "cw"
  rfl
theorem least2_ok (n : Nat) {x y : Rat} {a : Nat} (ha : a + a ≤ 134217728) (hx : Qz a x) (hy : Qz a y) : evc T (n + 2) 23 [.list [fr x, fr y]] = .ok (fr (minQ [x, y])) :=
  least_ok n (x := x) (xs := [y]) ha (by intro z hz; simp only [List.mem_cons, List.not_mem_nil, or_false] at hz; rcases hz with rfl | rfl <;> assumption)
theorem greatest2_ok (n : Nat) {x y : Rat} {a : Nat} (ha : a + a ≤ 134217728) (hx : Qz a x) (hy : Qz a y) : evc T (n + 2) 24 [.list [fr x, fr y]] = .ok (fr (maxQ [x, y])) :=
  greatest_ok n (x := x) (xs := [y]) ha (by intro z hz; simp only [List.mem_cons, List.not_mem_nil, or_false] at hz; rcases hz with rfl | rfl <;> assumption)
theorem qz_min {a : Nat} {x y : Rat} (hx : Qz a x) (hy : Qz a y) : Qz a (minQ [x, y]) := by
  show Qz a (if y < x then y else x)
  split <;> assumption
theorem qz_max {a : Nat} {x y : Rat} (hx : Qz a x) (hy : Qz a y) : Qz a (maxQ [x, y]) := by
  show Qz a (if x < y then y else x)
  split <;> assumption
theorem hull_ok (n : Nat) {b c : List Sd} {a : Nat} (hb : Bz a b) (hc : Bz a c) (hac : a + a ≤ 134217728) (hl : b.length ≤ 1000) : evc T (n + 3) 43 [boxD b, boxD c] = .ok (boxD (hullB b c)) := by
  rw [evc_b b5 rfl rfl]
  unfold d_hull
  unfold boxD
  walk_at "cw"
  rw [zip_tup (by simp [sizeLine_eq]; omega), zipL_map]
  walk_at "cw"
  rw [lc_fun _ (fun q => sd (hullS q.1 q.2)) (by
    rintro ⟨x, s⟩ hq
    obtain ⟨h1, h2⟩ := mem_zip hq
    refine ⟨_, rfl, ?_⟩
    walk_at "cw"
    rw [least2_ok _ hac (hb x h1).1 (hc s h2).1, greatest2_ok _ hac (hb x h1).2 (hc s h2).2]
    walk_at "cw"
    rfl)]
  walk_at "cw"
  unfold hullB
  rw [List.map_map]
  rfl
theorem middle_ok (n : Nat) {b : List Sd} {a : Nat} (hb : Bz a b) (hac : a + a + 3 ≤ 134217728) : evc T (n + 5) 46 [boxD b] = .ok (ptD (midB b)) := by
  rw [evc_b b5 rfl rfl]
  unfold d_middle_of boxD
  walk_at "cw"
  have q2 : Qz 2 (2 : Rat) := ⟨by unfold Sz; decide, by unfold Sz; decide⟩
  have c2 : cst 2 = fr 2 := rfl
  rw [lc_fun sd (fun s => fr ((s.1 + s.2) / 2)) (by
    intro s hs
    refine ⟨_, rfl, ?_⟩
    walk_at "cw"
    rw [plus_ok _ (hb s hs).1 (hb s hs).2 (by omega), c2]
    walk_at "cw"
    rw [over_ok _ ((hb s hs).1.add (hb s hs).2) q2 (by omega) (by decide)])]
  walk_at "cw"
  unfold ptD midB
  rw [List.map_map]
  rfl
def metB' (l : List (Sd × Sd)) : Bool := l.any fun q => decide ((meetS q.1 q.2).2 < (meetS q.1 q.2).1)
theorem met_loop (n : Nat) {a : Nat} (hac : a + a ≤ 134217728) (s0 s1 : Sl) : ∀ (l : List (Sd × Sd)) (acc : List D) (s3 s4 s5 s6 : Sl), (∀ q ∈ l, (Qz a q.1.1 ∧ Qz a q.1.2) ∧ (Qz a q.2.1 ∧ Qz a q.2.2)) → acc.length + l.length ≤ 1000 →
    if metB' l = true then forS (evc T (n + 2)) (.many [3, 4]) (.cons (.asg 5 [] (.call 24 (.cons (.lst (.cons (.ix (.v 3) (.k (.int 0))) (.cons (.ix (.v 4) (.k (.int 0))) .nil))) .nil))) (.cons (.asg 6 [] (.call 23 (.cons (.lst (.cons (.ix (.v 3) (.k (.int 1))) (.cons (.ix (.v 4) (.k (.int 1))) .nil))) .nil))) (.cons (.iff [] (.cmp .gt (.call 22 (.cons (.v 5) (.cons (.v 6) .nil))) (.k (.int 0))) (.cons (.ret [] (.k .none)) .nil) .nil) (.cons (.app 2 [] (.tup (.cons (.v 5) (.cons (.v 6) .nil)))) .nil)))) (l.map fun p => .tuple [sd p.1, sd p.2]) [s0, s1, .ow acc, s3, s4, s5, s6] = .ret .none
    else ∃ s3' s4' s5' s6', forS (evc T (n + 2)) (.many [3, 4]) (.cons (.asg 5 [] (.call 24 (.cons (.lst (.cons (.ix (.v 3) (.k (.int 0))) (.cons (.ix (.v 4) (.k (.int 0))) .nil))) .nil))) (.cons (.asg 6 [] (.call 23 (.cons (.lst (.cons (.ix (.v 3) (.k (.int 1))) (.cons (.ix (.v 4) (.k (.int 1))) .nil))) .nil))) (.cons (.iff [] (.cmp .gt (.call 22 (.cons (.v 5) (.cons (.v 6) .nil))) (.k (.int 0))) (.cons (.ret [] (.k .none)) .nil) .nil) (.cons (.app 2 [] (.tup (.cons (.v 5) (.cons (.v 6) .nil)))) .nil)))) (l.map fun p => .tuple [sd p.1, sd p.2]) [s0, s1, .ow acc, s3, s4, s5, s6] = .next [s0, s1, .ow (acc ++ l.map fun q => sd (meetS q.1 q.2)), s3', s4', s5', s6']
  | [], acc, s3, s4, s5, s6, _, _ => by
    rw [if_neg (by unfold metB'; simp)]
    exact ⟨s3, s4, s5, s6, by rw [List.map_nil, List.map_nil, List.append_nil, for_nil]⟩
  | (x, y) :: l, acc, s3, s4, s5, s6, hl, hz => by
    have hq := hl (x, y) List.mem_cons_self
    have g1 := greatest2_ok (T := T) n hac hq.1.1 hq.2.1
    have g2 := least2_ok (T := T) n hac hq.1.2 hq.2.2
    have g3 := order_ok (T := T) (n + 1) (qz_max hq.1.1 hq.2.1) (qz_min hq.1.2 hq.2.2) (by omega)
    have ih := met_loop n hac s0 s1 l (acc ++ [sd (meetS x y)]) (.fr (sd x)) (.fr (sd y)) (.fr (fr (meetS x y).1)) (.fr (fr (meetS x y).2)) (fun q hq => hl q (List.mem_cons_of_mem _ hq)) (by simp at hz ⊢; omega)
    by_cases h : (meetS x y).2 < (meetS x y).1
    · have e : metB' ((x, y) :: l) = true := by unfold metB'; rw [List.any_cons, decide_eq_true h]; rfl
      rw [if_pos e, List.map_cons]
      refine for_ret (e2 := [s0, s1, .ow acc, .fr (sd x), .fr (sd y), s5, s6]) rfl ?_
      walk_at "cw"
      rw [g1]
      walk_at "cw"
      rw [g2]
      walk_at "cw"
      rw [g3]
      walk_at "cw"
      rw [ord_gt]
      have h' : minQ [x.2, y.2] < maxQ [x.1, y.1] := h
      simp only [h']
      walk_at "cw"
    · have e : metB' ((x, y) :: l) = metB' l := by unfold metB'; rw [List.any_cons, decide_eq_false h]; rfl
      rw [e]
      have stp : ∀ r, forS (evc T (n + 2)) (.many [3, 4]) (.cons (.asg 5 [] (.call 24 (.cons (.lst (.cons (.ix (.v 3) (.k (.int 0))) (.cons (.ix (.v 4) (.k (.int 0))) .nil))) .nil))) (.cons (.asg 6 [] (.call 23 (.cons (.lst (.cons (.ix (.v 3) (.k (.int 1))) (.cons (.ix (.v 4) (.k (.int 1))) .nil))) .nil))) (.cons (.iff [] (.cmp .gt (.call 22 (.cons (.v 5) (.cons (.v 6) .nil))) (.k (.int 0))) (.cons (.ret [] (.k .none)) .nil) .nil) (.cons (.app 2 [] (.tup (.cons (.v 5) (.cons (.v 6) .nil)))) .nil)))) (.tuple [sd x, sd y] :: r) [s0, s1, .ow acc, s3, s4, s5, s6] =
          forS (evc T (n + 2)) (.many [3, 4]) (.cons (.asg 5 [] (.call 24 (.cons (.lst (.cons (.ix (.v 3) (.k (.int 0))) (.cons (.ix (.v 4) (.k (.int 0))) .nil))) .nil))) (.cons (.asg 6 [] (.call 23 (.cons (.lst (.cons (.ix (.v 3) (.k (.int 1))) (.cons (.ix (.v 4) (.k (.int 1))) .nil))) .nil))) (.cons (.iff [] (.cmp .gt (.call 22 (.cons (.v 5) (.cons (.v 6) .nil))) (.k (.int 0))) (.cons (.ret [] (.k .none)) .nil) .nil) (.cons (.app 2 [] (.tup (.cons (.v 5) (.cons (.v 6) .nil)))) .nil)))) r [s0, s1, .ow (acc ++ [sd (meetS x y)]), .fr (sd x), .fr (sd y), .fr (fr (meetS x y).1), .fr (fr (meetS x y).2)] := by
        intro r
        refine for_step (e2 := [s0, s1, .ow acc, .fr (sd x), .fr (sd y), s5, s6]) rfl ?_
        walk_at "cw"
        rw [g1]
        walk_at "cw"
        rw [g2]
        walk_at "cw"
        rw [g3]
        walk_at "cw"
        rw [ord_gt]
        have h' : ¬ (minQ [x.2, y.2] < maxQ [x.1, y.1]) := h
        simp only [h']
        walk_at "cw"
        rw [if_pos (by rw [sizeLine_eq]; simp at hz; omega)]
        walk_at "cw"
        rfl
      rw [List.map_cons]
      dsimp only
      rw [stp]
      simp only [List.append_assoc, List.cons_append, List.nil_append] at ih
      exact ih
theorem met_ok (n : Nat) {b c : List Sd} {a : Nat} (hb : Bz a b) (hc : Bz a c) (hac : a + a ≤ 134217728) (hl : b.length ≤ 1000) : evc T (n + 3) 42 [boxD b, boxD c] = .ok (obD (metB b c)) := by
  rw [evc_b b5 rfl rfl]
  have z := met_loop (T := T) n hac (.fr (boxD b)) (.fr (boxD c)) (b.zip c) [] .no .no .no .no (by
    rintro ⟨x, y⟩ hq
    obtain ⟨h1, h2⟩ := mem_zip hq
    exact ⟨hb x h1, hc y h2⟩) (by simp; omega)
  unfold d_met
  unfold metB
  change if metB' (b.zip c) = true then _ else _ at z
  walk_at "cw"
  rw [show zipR (boxD b) (boxD c) = .ok ((b.zip c).map fun p => .tuple [sd p.1, sd p.2]) from by unfold boxD; rw [zip_tup (by simp [sizeLine_eq]; omega), zipL_map]]
  walk_at "cw"
  by_cases h : metB' (b.zip c) = true
  · rw [if_pos h] at z
    rw [if_pos (show (b.zip c).any _ = true from h), z]
    walk_at "cw"
    rfl
  · rw [if_neg h] at z
    obtain ⟨s3, s4, s5, s6, z⟩ := z
    rw [if_neg (show ¬ (b.zip c).any _ = true from h), z]
    walk_at "cw"
    simp only [obD, boxD, List.map_map]
    rfl
theorem slT_to {b : List Sd} {i : Nat} (hi : i < b.length) : slR (boxD b) none (some (i : Int)) = .ok (.tuple ((b.take i).map sd)) := by
  unfold boxD
  show (if HT.sIx (b.map sd).length 0 none = 0 ∧ HT.sIx (b.map sd).length (b.map sd).length (some (i : Int)) = (b.map sd).length then (R.bad : R D) else R.ok (PyData.tuple (cutD (b.map sd) none (some (i : Int))))) = _
  rw [if_neg (by rw [HT.sIx_nat, List.length_map]; omega)]
  unfold cutD
  rw [HT.sIx_nat, HT.sIx_none, List.length_map, List.drop_zero, Nat.sub_zero, Nat.min_eq_left (by omega), List.map_take]
theorem slT_from {b : List Sd} {i : Nat} (hi : i < b.length) : slR (boxD b) (some ((i : Int) + 1)) none = .ok (.tuple ((b.drop (i + 1)).map sd)) := by
  unfold boxD
  rw [show (i : Int) + 1 = ((i + 1 : Nat) : Int) from by omega]
  show (if HT.sIx (b.map sd).length 0 (some ((i + 1 : Nat) : Int)) = 0 ∧ HT.sIx (b.map sd).length (b.map sd).length none = (b.map sd).length then (R.bad : R D) else R.ok (PyData.tuple (cutD (b.map sd) (some ((i + 1 : Nat) : Int)) none))) = _
  rw [if_neg (by rw [HT.sIx_nat, List.length_map]; omega)]
  unfold cutD
  rw [HT.sIx_nat, HT.sIx_none, List.length_map, Nat.min_eq_left (by omega), List.take_of_length_le (by simp), List.map_drop]
theorem set_cut {b : List Sd} {i : Nat} (hi : i < b.length) (s : Sd) : (b.take i).map sd ++ [sd s] ++ (b.drop (i + 1)).map sd = (b.set i s).map sd := by
  rw [List.set_eq_take_append_cons_drop, if_pos hi]
  simp
theorem with_side_ok (n : Nat) {b : List Sd} {i : Nat} (hi : i < b.length) (s : Sd) (hl : b.length ≤ 1000) : evc T (n + 1) 44 [boxD b, .int i, sd s] = .ok (boxD (b.set i s)) := by
  rw [evc_b b5 rfl rfl]
  unfold d_with_side
  have e1 : slR (boxD b) none (some (i : Int)) = .ok (.tuple ((b.take i).map sd)) := by
    unfold boxD
    show (if HT.sIx (b.map sd).length 0 none = 0 ∧ HT.sIx (b.map sd).length (b.map sd).length (some (i : Int)) = (b.map sd).length then (R.bad : R D) else R.ok (PyData.tuple (cutD (b.map sd) none (some (i : Int))))) = _
    rw [if_neg (by rw [HT.sIx_nat, List.length_map]; omega)]
    unfold cutD
    rw [HT.sIx_nat, HT.sIx_none, List.length_map, List.drop_zero, Nat.sub_zero, Nat.min_eq_left (by omega), List.map_take]
  have e2 : slR (boxD b) (some ((i : Int) + 1)) none = .ok (.tuple ((b.drop (i + 1)).map sd)) := by
    unfold boxD
    rw [show (i : Int) + 1 = ((i + 1 : Nat) : Int) from by omega]
    show (if HT.sIx (b.map sd).length 0 (some ((i + 1 : Nat) : Int)) = 0 ∧ HT.sIx (b.map sd).length (b.map sd).length none = (b.map sd).length then (R.bad : R D) else R.ok (PyData.tuple (cutD (b.map sd) (some ((i + 1 : Nat) : Int)) none))) = _
    rw [if_neg (by rw [HT.sIx_nat, List.length_map]; omega)]
    unfold cutD
    rw [HT.sIx_nat, HT.sIx_none, List.length_map, Nat.min_eq_left (by omega), List.take_of_length_le (by simp), List.map_drop]
  walk_at "cw"
  rw [e1, e2]
  walk_at "cw"
  rw [add_tup (by simp [sizeLine_eq]; omega)]
  walk_at "cw"
  rw [add_tup (by simp [sizeLine_eq]; omega)]
  walk_at "cw"
  unfold boxD
  rw [List.set_eq_take_append_cons_drop, if_pos hi]
  simp
theorem halves_ok (n : Nat) {b : List Sd} {i : Nat} {s : Sd} (hi : b[i]? = some s) {at_ : Rat} {a c : Nat} (hb : Bz a b) (hq : Qz c at_) (hac : a + c ≤ 134217728) (hl : b.length ≤ 1000) :
    evc T (n + 3) 45 [boxD b, .int i, fr at_] = if hasB s at_ = true then .ok (.tuple [boxD (b.set i (s.1, at_)), boxD (b.set i (at_, s.2))]) else .exc "NoStretch" := by
  have hm := List.mem_of_getElem? hi
  have hlt := (List.getElem?_eq_some_iff.mp hi).1
  rw [evc_b b5 rfl rfl]
  unfold d_halves
  walk_at "cw"
  rw [ixb_ok hi]
  walk_at "cw"
  rw [hasd_ok n (hb s hm).1 (hb s hm).2 hq hac]
  walk_at "cw"
  cases h : hasB s at_ with
  | true =>
    walk_at "cw"
    rw [ixb_ok hi]
    walk_at "cw"
    rw [tup_sd, tup_sd, with_side_ok _ hlt _ hl, with_side_ok _ hlt _ hl]
    walk_at "cw"
  | false => walk_at "cw"
theorem corners_ok (n : Nat) {b : List Sd} (hl : b.length ≤ 8) : evc T (n + 1) 47 [boxD b] = .ok (.list ((cornB b).map ptD)) := by
  rw [evc_b b5 rfl rfl]
  unfold d_corners boxD
  walk_at "cw"
  have key : ∀ (l : List Sd) (acc : List (List Rat)) (s2 s3 s4 s5 s6 : Sl), (∀ q ∈ acc, q.length + l.length ≤ 8) → acc.length * 2 ^ l.length ≤ 256 →
      ∃ s2' s3' s4' s5' s6', forS (evc T n) (.one 2) (.cons (.asg 3 [] (.ife (.cmp .eq (.ix (.v 2) (.k (.int 0))) (.ix (.v 2) (.k (.int 1)))) (.lst (.cons (.ix (.v 2) (.k (.int 0))) .nil)) (.lst (.cons (.ix (.v 2) (.k (.int 0))) (.cons (.ix (.v 2) (.k (.int 1))) .nil))))) (.cons (.asgL 4 [] (.lst .nil)) (.cons (.for_ [] (.one 5) (.seq (.v 1)) (.cons (.ext 4 [] (.lc [6] (.bin .add (.v 5) (.tup (.cons (.v 6) .nil))) (.one 6) (.seq (.v 3)) .no)) .nil)) (.cons (.asg 1 [4] (.v 4)) .nil)))) (l.map sd) [.fr (.tuple (b.map sd)), .fr (.list (acc.map ptD)), s2, s3, s4, s5, s6] =
        .next [.fr (.tuple (b.map sd)), .fr (.list ((l.foldl (fun l s => l.flatMap fun p => (endsS s).map fun e => p ++ [e]) acc).map ptD)), s2', s3', s4', s5', s6'] := by
    intro l
    induction l with
    | nil => intro acc s2 s3 s4 s5 s6 _ _; exact ⟨s2, s3, s4, s5, s6, by rw [List.map_nil, for_nil]; rfl⟩
    | cons s l ih =>
      intro acc s2 s3 s4 s5 s6 ha hz
      have hend : (endsS s).length ≤ 2 := by unfold endsS; split <;> simp
      have hfl : ∀ ac : List (List Rat), (ac.flatMap fun p => (endsS s).map fun e => p ++ [e]).length ≤ ac.length * 2 := by
        intro ac
        induction ac with
        | nil => simp
        | cons x ac ih2 => simp only [List.flatMap_cons, List.length_append, List.length_map, List.length_cons]; omega
      have inner : ∀ (done todo : List (List Rat)) (s5 s6 : Sl), (∀ q ∈ todo, q.length ≤ 8) → done.length + todo.length * 2 ≤ 1000 →
          ∃ s5' s6', forS (evc T n) (.one 5) (.cons (.ext 4 [] (.lc [6] (.bin .add (.v 5) (.tup (.cons (.v 6) .nil))) (.one 6) (.seq (.v 3)) .no)) .nil) (todo.map ptD) [.fr (.tuple (b.map sd)), .fr (.list (acc.map ptD)), .fr (sd s), .fr (.list ((endsS s).map fr)), .ow (done.map ptD), s5, s6] =
            .next [.fr (.tuple (b.map sd)), .fr (.list (acc.map ptD)), .fr (sd s), .fr (.list ((endsS s).map fr)), .ow ((done ++ todo.flatMap fun p => (endsS s).map fun e => p ++ [e]).map ptD), s5', s6'] := by
        intro done todo
        induction todo generalizing done with
        | nil => intro s5 s6 _ _; exact ⟨s5, s6, by rw [List.map_nil, for_nil, List.flatMap_nil, List.append_nil]⟩
        | cons x todo ih2 =>
          intro s5 s6 hq hz2
          obtain ⟨s5', s6', z⟩ := ih2 (done ++ (endsS s).map fun e => x ++ [e]) (.fr (ptD x)) s6 (fun q h => hq q (List.mem_cons_of_mem _ h)) (by simp at hz2 ⊢; omega)
          refine ⟨s5', s6', ?_⟩
          rw [List.map_cons, List.flatMap_cons, ← List.append_assoc, ← z]
          refine for_step (e2 := [.fr (.tuple (b.map sd)), .fr (.list (acc.map ptD)), .fr (sd s), .fr (.list ((endsS s).map fr)), .ow (done.map ptD), .fr (ptD x), s6]) rfl ?_
          walk_at "cw"
          rw [lc_fun fr (fun e => ptD (x ++ [e])) (by
            intro e he
            refine ⟨_, rfl, ?_⟩
            walk_at "cw"
            unfold ptD
            rw [add_tup (by have := hq x List.mem_cons_self; simp [sizeLine_eq]; omega)]
            simp)]
          walk_at "cw"
          rw [ext_some, if_pos (by simp at hz2 ⊢; rw [sizeLine_eq]; omega)]
          walk_at "cw"
          simp [List.map_append, List.map_map, Function.comp_def]
      have hacc : acc.length * 2 ≤ 256 := by
        have h1 : 2 ^ (l.length + 1) = 2 ^ l.length * 2 := Nat.pow_succ ..
        have h2 : 1 ≤ 2 ^ l.length := Nat.one_le_two_pow
        have h3 : acc.length * 2 ≤ acc.length * 2 ^ (l.length + 1) := Nat.mul_le_mul_left _ (by omega)
        simp only [List.length_cons] at hz
        omega
      obtain ⟨t5, t6, z⟩ := inner [] acc s5 s6 (fun q h => by have := ha q h; omega) (by simp; omega)
      obtain ⟨r2, r3, r4, r5, r6, y⟩ := ih (acc.flatMap fun p => (endsS s).map fun e => p ++ [e]) (.fr (sd s)) (.fr (.list ((endsS s).map fr))) (.fr (.list ((acc.flatMap fun p => (endsS s).map fun e => p ++ [e]).map ptD))) t5 t6 (by
        intro q hq
        obtain ⟨p0, hp0, hq0⟩ := List.mem_flatMap.mp hq
        obtain ⟨e0, _, rfl⟩ := List.mem_map.mp hq0
        have := ha p0 hp0
        simp at this ⊢
        omega) (by
        have := hfl acc
        have h1 : 2 ^ (l.length + 1) = 2 ^ l.length * 2 := Nat.pow_succ ..
        have h3 : (acc.flatMap fun p => (endsS s).map fun e => p ++ [e]).length * 2 ^ l.length ≤ acc.length * 2 * 2 ^ l.length := Nat.mul_le_mul_right _ this
        have h4 : acc.length * 2 * 2 ^ l.length = acc.length * 2 ^ (l.length + 1) := by rw [h1, Nat.mul_assoc, Nat.mul_comm 2]
        simp only [List.length_cons] at hz
        omega)
      refine ⟨r2, r3, r4, r5, r6, ?_⟩
      rw [List.map_cons, List.foldl_cons, ← y]
      refine for_step (e2 := [.fr (.tuple (b.map sd)), .fr (.list (acc.map ptD)), .fr (sd s), s3, s4, s5, s6]) rfl ?_
      walk_at "cw"
      have he : (if decide (s.1 = s.2) = true then (R.ok (.list [fr s.1]) : R D) else .ok (.list [fr s.1, fr s.2])) = .ok (.list ((endsS s).map fr)) := by
        unfold endsS
        by_cases h : s.1 = s.2
        · rw [decide_eq_true h, if_pos rfl, if_pos h]; rfl
        · rw [decide_eq_false h, if_neg h, if_neg (by decide)]; rfl
      rw [he]
      walk_at "cw"
      simp only [List.map_nil, List.nil_append] at z
      rw [z]
      walk_at "cw"
  obtain ⟨s2, s3, s4, s5, s6, z⟩ := key b [[]] .no .no .no .no .no (by simpa using hl) (by
    have : 2 ^ b.length ≤ 2 ^ 8 := Nat.pow_le_pow_right (by decide) hl
    simp; omega)
  rw [show (.list [.tuple []] : D) = .list ([[]].map ptD) from rfl, z]
  walk_at "cw"
  rfl
theorem at_point_ok (n : Nat) {p : List Rat} : evc T (n + 1) 49 [ptD p] = .ok (boxD (p.map fun x => (x, x))) := by
  rw [evc_b b5 rfl rfl]
  unfold d_at_point ptD boxD
  walk_at "cw"
  rw [lc_fun fr (fun x => sd (x, x)) (by
    intro x hx
    exact ⟨_, rfl, by walk_at "cw"; rfl⟩)]
  walk_at "cw"
  rw [List.map_map]
  rfl
def lenS (s : Sd) : Rat := s.2 - s.1
def widGo (b : List Sd) : Nat → List Sd → Nat → Nat
  | _, [], f => f
  | k, s :: r, f => widGo b (k + 1) r (if lenS (b.getD f (0, 0)) < lenS s then k else f)
def widB (b : List Sd) : Nat := widGo b 0 b 0
theorem widGo_ok (n : Nat) {b : List Sd} {a : Nat} (hb : Bz a b) (hac : 2 * (2 * a + 1) ≤ 134217728) : ∀ (r : List Sd) (k f : Nat) (s2 s3 : Sl), f < b.length → (∀ j s, r[j]? = some s → b[k + j]? = some s) →
    ∃ s2' s3', forS (evc T (n + 5)) (.many [2, 3]) (.cons (.iff [] (.cmp .gt (.call 22 (.cons (.call 18 (.cons (.ix (.v 3) (.k (.int 1))) (.cons (.ix (.v 3) (.k (.int 0))) .nil))) (.cons (.call 18 (.cons (.ix (.ix (.v 0) (.v 1)) (.k (.int 1))) (.cons (.ix (.ix (.v 0) (.v 1)) (.k (.int 0))) .nil))) .nil))) (.k (.int 0))) (.cons (.asg 1 [] (.v 2)) .nil) .nil) .nil) (enumL k (r.map sd)) [.fr (boxD b), .fr (.int f), s2, s3] = .next [.fr (boxD b), .fr (.int (widGo b k r f : Nat)), s2', s3'] ∧ widGo b k r f < b.length
  | [], k, f, s2, s3, hf, _ => ⟨s2, s3, by simp only [List.map_nil, enumL, widGo]; rw [for_nil], hf⟩
  | s :: r, k, f, s2, s3, hf, hr => by
    have hk : b[k]? = some s := hr 0 s rfl
    have hkl : k < b.length := (List.getElem?_eq_some_iff.mp hk).1
    have hfe : b[f]? = some (b.getD f (0, 0)) := by simp [hf]
    have z1 := hb s (List.mem_of_getElem? hk)
    have z2 := hb _ (List.mem_of_getElem? hfe)
    obtain ⟨s2', s3', z, zl⟩ := widGo_ok n hb hac r (k + 1) (if lenS (b.getD f (0, 0)) < lenS s then k else f) (.fr (.int (k : Int))) (.fr (sd s)) (by split <;> assumption) (fun j x hj => by
      have := hr (j + 1) x (by simpa using hj)
      rw [show k + 1 + j = k + (j + 1) from by omega]; exact this)
    refine ⟨s2', s3', ?_, zl⟩
    simp only [List.map_cons, enumL, widGo]
    rw [← z]
    refine for_step (e2 := [.fr (boxD b), .fr (.int f), .fr (.int (k : Int)), .fr (sd s)]) rfl ?_
    walk_at "cw"
    rw [ixb_ok hfe]
    walk_at "cw"
    rw [minus_ok _ z1.2 z1.1 (by omega), minus_ok _ z2.2 z2.1 (by omega)]
    walk_at "cw"
    rw [order_ok _ (z1.2.sub z1.1) (z2.2.sub z2.1) (by omega)]
    walk_at "cw"
    rw [ord_gt]
    by_cases h : lenS (b.getD f (0, 0)) < lenS s
    · have h' : (b.getD f (0, 0)).2 - (b.getD f (0, 0)).1 < s.2 - s.1 := h
      rw [if_pos h]
      simp only [h']
      walk_at "cw"
    · have h' : ¬ ((b.getD f (0, 0)).2 - (b.getD f (0, 0)).1 < s.2 - s.1) := h
      rw [if_neg h]
      simp only [h']
      walk_at "cw"
theorem widest_ok (n : Nat) {b : List Sd} {a : Nat} (hb : Bz a b) (hac : 2 * (2 * a + 1) ≤ 134217728) (h0 : b ≠ []) (hl : b.length ≤ 1000) : evc T (n + 6) 48 [boxD b] = .ok (.int (widB b : Nat)) ∧ widB b < b.length := by
  obtain ⟨s2, s3, z, zl⟩ := widGo_ok (T := T) n hb hac b 0 0 .no .no (List.length_pos_iff.mpr h0) (fun j s h => by rw [Nat.zero_add]; exact h)
  refine ⟨?_, zl⟩
  rw [evc_b b5 rfl rfl]
  unfold d_widest
  walk_at "cw"
  rw [show enumR (boxD b) = .ok (enumL 0 (b.map sd)) from enum_tup (by simp [sizeLine_eq]; omega)]
  walk_at "cw"
  rw [show ((0 : Nat) : Int) = 0 from rfl] at z
  rw [z]
  walk_at "cw"
  rfl
theorem widGo_spec (b : List Sd) : ∀ (r : List Sd) (k f : Nat), (∀ j s, r[j]? = some s → b[k + j]? = some s) → k + r.length = b.length → (f < k ∨ f = 0) → (∀ j s, j < k → b[j]? = some s → lenS s ≤ lenS (b.getD f (0, 0))) → (∀ j s, j < f → b[j]? = some s → lenS s < lenS (b.getD f (0, 0))) →
    (∀ (j : Nat) s, b[j]? = some s → lenS s ≤ lenS (b.getD (widGo b k r f) (0, 0))) ∧ (∀ (j : Nat) s, j < widGo b k r f → b[j]? = some s → lenS s < lenS (b.getD (widGo b k r f) (0, 0)))
  | [], k, f, hr, hk, hf, h1, h2 => by
    refine ⟨fun j s hj => h1 j s ?_ hj, h2⟩
    have := (List.getElem?_eq_some_iff.mp hj).1
    simp at hk; omega
  | x :: r, k, f, hr, hk, hf, h1, h2 => by
    have hkx : b[k]? = some x := hr 0 x rfl
    have hkg : b.getD k (0, 0) = x := by simp [hkx]
    simp only [widGo]
    by_cases h : lenS (b.getD f (0, 0)) < lenS x
    · rw [if_pos h]
      refine widGo_spec b r (k + 1) k (fun j s hj => by rw [show k + 1 + j = k + (j + 1) from by omega]; exact hr (j + 1) s (by simpa using hj)) (by simp at hk; omega) (.inl (by omega)) (fun j s hj hs => ?_) (fun j s hj hs => ?_)
      · rw [hkg]
        by_cases e : j = k
        · subst e; rw [hkx] at hs; cases hs; exact Rat.le_refl
        · exact Rat.le_trans (h1 j s (by omega) hs) (Rat.le_of_lt h)
      · rw [hkg]
        have := h1 j s hj hs
        grind
    · rw [if_neg h]
      refine widGo_spec b r (k + 1) f (fun j s hj => by rw [show k + 1 + j = k + (j + 1) from by omega]; exact hr (j + 1) s (by simpa using hj)) (by simp at hk; omega) (by omega) (fun j s hj hs => ?_) h2
      by_cases e : j = k
      · subst e; rw [hkx] at hs; cases hs; exact Rat.not_lt.mp h
      · exact h1 j s (by omega) hs
theorem wid_spec (b : List Sd) : (∀ (j : Nat) s, b[j]? = some s → lenS s ≤ lenS (b.getD (widB b) (0, 0))) ∧ (∀ (j : Nat) s, j < widB b → b[j]? = some s → lenS s < lenS (b.getD (widB b) (0, 0))) :=
  widGo_spec b b 0 0 (fun j s h => by rw [Nat.zero_add]; exact h) (by simp) (.inr rfl) (fun j s h => by omega) (fun j s h => by omega)
end
/-! ### more about lists of one's own reckoning -/
theorem ixm_ok {A : Type} {l : List A} {f : A → D} {j : Nat} {a : A} (h : l[j]? = some a) : ixR (.list (l.map f)) (.int j) = .ok (f a) := by
  rw [ix_nat, List.getElem?_map, h]; rfl
theorem pick2 {u v : D} {b : Bool} : ixR (.list [u, v]) (.int (if b = true then 1 else 0)) = .ok (if b = true then v else u) := by cases b <;> rfl
theorem dk_nats (l : List Nat) : Dk 1 (.list (l.map fun (j : Nat) => (.int (j : Int) : D))) := Dk.list (by
  intro x hx
  obtain ⟨y, _, rfl⟩ := List.mem_map.mp hx
  exact Dk.int _)
theorem ne_nilL {l : List Nat} : cmR .ne (.list (l.map fun (j : Nat) => (.int (j : Int) : D))) (.list []) = .ok (.bool (!l.isEmpty)) := by
  rw [ne_sh ((dk_nats l).sh (by decide)) rfl]
  cases l <;> rfl
theorem filt_any {A : Type} (z : List A) (ψ : A → Bool) (d : A) : ((List.range z.length).filter fun j => ψ (z.getD j d)).isEmpty = !(z.any ψ) := by
  rw [Bool.eq_iff_iff, List.isEmpty_iff, List.filter_eq_nil_iff]
  simp only [List.mem_range, Bool.not_eq_true', List.any_eq_false]
  constructor
  · intro h x hx
    obtain ⟨i, hi, rfl⟩ := List.getElem_of_mem hx
    have := h i hi
    simpa [hi] using this
  · intro h j hj
    have := h z[j] (List.getElem_mem hj)
    simpa [hj] using this
theorem dk_pt (p : List Rat) : Dk 2 (ptD p) := Dk.tuple (by
  intro x hx
  obtain ⟨y, _, rfl⟩ := List.mem_map.mp hx
  exact dk_fr y)
theorem dk_sd (s : Sd) : Dk 2 (sd s) := dk_st _ _
theorem dk_box (b : List Sd) : Dk 3 (boxD b) := Dk.tuple (by
  intro x hx
  obtain ⟨y, _, rfl⟩ := List.mem_map.mp hx
  exact dk_sd y)
theorem dk_ob (o : Option (List Sd)) : Dk 3 (obD o) := by
  cases o with
  | none => exact Dk.none
  | some b => exact dk_box b
end Cw

set_option Elab.async false
set_option linter.all false
set_option maxRecDepth 100000
set_option maxHeartbeats 4000000
namespace Cw
open PySem
def d_joined : Def := ⟨3, 3, (.cons (.iff [] (.cmp .eq (.v 0) (.k (.str "sum"))) (.cons (.ret [] (.call 27 (.cons (.v 1) (.cons (.v 2) .nil)))) .nil) .nil) (.cons (.iff [] (.cmp .eq (.v 0) (.k (.str "less"))) (.cons (.ret [] (.call 28 (.cons (.v 1) (.cons (.v 2) .nil)))) .nil) .nil) (.cons (.iff [] (.cmp .eq (.v 0) (.k (.str "times"))) (.cons (.ret [] (.call 29 (.cons (.v 1) (.cons (.v 2) .nil)))) .nil) .nil) (.cons (.ret [] (.call 31 (.cons (.v 1) (.cons (.v 2) .nil)))) .nil))))⟩
def d_cover : Def := ⟨2, 5, (.cons (.asg 2 [] (.ix (.v 0) (.k (.int 0)))) (.cons (.iff [] (.cmp .eq (.v 2) (.k (.str "num"))) (.cons (.ret [] (.tup (.cons (.ix (.v 0) (.k (.int 1))) (.cons (.ix (.v 0) (.k (.int 1))) .nil)))) .nil) .nil) (.cons (.iff [] (.cmp .eq (.v 2) (.k (.str "var"))) (.cons (.ret [] (.ix (.v 1) (.ix (.v 0) (.k (.int 1))))) .nil) .nil) (.cons (.asg 3 [] (.call 51 (.cons (.ix (.v 0) (.k (.int 1))) (.cons (.v 1) .nil)))) (.cons (.iff [] (.cmp .is (.v 3) (.k .none)) (.cons (.ret [] (.k .none)) .nil) .nil) (.cons (.iff [] (.cmp .eq (.v 2) (.k (.str "power"))) (.cons (.ret [] (.call 30 (.cons (.v 3) (.cons (.ix (.v 0) (.k (.int 2))) .nil)))) .nil) .nil) (.cons (.asg 4 [] (.call 51 (.cons (.ix (.v 0) (.k (.int 2))) (.cons (.v 1) .nil)))) (.cons (.iff [] (.cmp .is (.v 4) (.k .none)) (.cons (.ret [] (.k .none)) .nil) .nil) (.cons (.ret [] (.call 50 (.cons (.v 2) (.cons (.v 3) (.cons (.v 4) .nil))))) .nil)))))))))⟩
def d_sloped : Def := ⟨3, 9, (.cons (.asg 3 [] (.call 51 (.cons (.v 0) (.cons (.call 49 (.cons (.v 2) .nil)) .nil)))) (.cons (.iff [] (.cmp .is (.v 3) (.k .none)) (.cons (.ret [] (.k .none)) .nil) .nil) (.cons (.asg 4 [] (.call 43 (.cons (.v 1) (.cons (.call 49 (.cons (.v 2) .nil)) .nil)))) (.cons (.iff [] (.cmp .is (.call 51 (.cons (.v 0) (.cons (.v 4) .nil))) (.k .none)) (.cons (.ret [] (.k .none)) .nil) .nil) (.cons (.for_ [] (.many [5, 6]) (.enum (.v 1)) (.cons (.asg 7 [] (.call 51 (.cons (.call 39 (.cons (.v 0) (.cons (.v 5) .nil))) (.cons (.v 4) .nil)))) (.cons (.iff [] (.cmp .is (.v 7) (.k .none)) (.cons (.ret [] (.k .none)) .nil) .nil) (.cons (.asg 8 [] (.tup (.cons (.call 18 (.cons (.ix (.v 6) (.k (.int 0))) (.cons (.ix (.v 2) (.v 5)) .nil))) (.cons (.call 18 (.cons (.ix (.v 6) (.k (.int 1))) (.cons (.ix (.v 2) (.v 5)) .nil))) .nil)))) (.cons (.asg 3 [] (.call 27 (.cons (.v 3) (.cons (.call 29 (.cons (.v 7) (.cons (.v 8) .nil))) .nil)))) .nil))))) (.cons (.ret [] (.v 3)) .nil))))))⟩
def d_law_side : Def := ⟨1, 3, (.cons (.asg 1 [] (.call 1002 (.cons (.bin .sub (.bin .mod (.v 0) (.k (.int 41))) (.k (.int 20))) (.cons (.bin .add (.k (.int 1)) (.bin .mod (.bin .fdiv (.v 0) (.k (.int 64))) (.k (.int 4)))) .nil)))) (.cons (.asg 2 [] (.ix (.lst (.cons (.tup (.cons (.k (.int 0)) (.cons (.k (.int 1)) .nil))) (.cons (.call 1002 (.cons (.k (.int 1)) (.cons (.bin .add (.k (.int 1)) (.bin .mod (.bin .fdiv (.v 0) (.k (.int 512))) (.k (.int 50)))) .nil))) (.cons (.call 1002 (.cons (.bin .mod (.bin .fdiv (.v 0) (.k (.int 512))) (.k (.int 30))) (.cons (.k (.int 1)) .nil))) .nil)))) (.bin .mod (.bin .fdiv (.v 0) (.bin .pow (.k (.int 2)) (.k (.int 16)))) (.k (.int 3))))) (.cons (.ret [] (.tup (.cons (.v 1) (.cons (.call 1002 (.cons (.bin .add (.bin .mul (.ix (.v 1) (.k (.int 0))) (.ix (.v 2) (.k (.int 1)))) (.bin .mul (.ix (.v 2) (.k (.int 0))) (.ix (.v 1) (.k (.int 1))))) (.cons (.bin .mul (.ix (.v 1) (.k (.int 1))) (.ix (.v 2) (.k (.int 1)))) .nil))) .nil)))) .nil)))⟩
def d_law_corners : Def := ⟨1, 4, (.cons (.asg 1 [] (.lst (.cons (.tup .nil) .nil))) (.cons (.for_ [] (.one 2) (.seq (.v 0)) (.cons (.asg 1 [] (.bin .add (.lc [3] (.bin .add (.v 3) (.tup (.cons (.ix (.v 2) (.k (.int 0))) .nil))) (.one 3) (.seq (.v 1)) .no) (.lc [3] (.bin .add (.v 3) (.tup (.cons (.ix (.v 2) (.k (.int 1))) .nil))) (.one 3) (.seq (.v 1)) .no))) .nil)) (.cons (.ret [] (.v 1)) .nil)))⟩
def b6 : List (Nat × Def) := [(50, d_joined), (51, d_cover), (52, d_sloped), (1036, d_law_side), (1037, d_law_corners)]

/-! ### least and greatest -/
theorem minQ_mem (x : Rat) (xs : List Rat) : minQ (x :: xs) ∈ x :: xs := (min_fold xs x).1
theorem minQ_le {x : Rat} {xs : List Rat} {y : Rat} (h : y ∈ x :: xs) : minQ (x :: xs) ≤ y := (min_fold xs x).2 y h
theorem maxQ_mem (x : Rat) (xs : List Rat) : maxQ (x :: xs) ∈ x :: xs := (max_fold xs x).1
theorem le_maxQ {x : Rat} {xs : List Rat} {y : Rat} (h : y ∈ x :: xs) : y ≤ maxQ (x :: xs) := (max_fold xs x).2 y h
/-- a number of a stretch -/
def Sd.Has (s : Sd) (x : Rat) : Prop := s.1 ≤ x ∧ x ≤ s.2
/-- a stretch in a stretch -/
def Sd.In (s t : Sd) : Prop := t.1 ≤ s.1 ∧ s.2 ≤ t.2
theorem hasB_iff {s : Sd} {x : Rat} : hasB s x = true ↔ s.Has x := by unfold hasB Sd.Has; rw [Bool.and_eq_true, decide_eq_true_eq, decide_eq_true_eq]
theorem Sd.Has.in {s t : Sd} {x : Rat} (h : s.Has x) (i : s.In t) : t.Has x := ⟨Rat.le_trans i.1 h.1, Rat.le_trans h.2 i.2⟩
def arS (l : List Rat) : Sd := (minQ l, maxQ l)
theorem ar_has {x : Rat} {xs : List Rat} {y : Rat} (h : y ∈ x :: xs) : (arS (x :: xs)).Has y := ⟨minQ_le h, le_maxQ h⟩
def powR (s : Sd) (k : Nat) : Sd := if k = 0 then (1, 1) else arS (powL s.1 s.2 k)
def joinS : Bo → Sd → Sd → Option Sd
  | .sum, s, t => some (s.1 + t.1, s.2 + t.2)
  | .less, s, t => some (s.1 - t.2, s.2 - t.1)
  | .times, s, t => some (arS [s.1 * t.1, s.1 * t.2, s.2 * t.1, s.2 * t.2])
  | .over, s, t => if hasB t 0 = true then none else some (arS [s.1 / t.1, s.1 / t.2, s.2 / t.1, s.2 / t.2])
def cov (b : List Sd) : Tm → Option Sd
  | .num q => some (q, q)
  | .var i => b[i]?
  | .pow t k => (cov b t).map fun s => powR s k
  | .bin o x y => match cov b x, cov b y with
    | some s, some t => joinS o s t
    | _, _ => none
theorem powL_cons (a b : Rat) (k : Nat) : ∃ r, powL a b k = a ^ k :: r ∧ b ^ k ∈ r ∧ (∀ y ∈ r, y = b ^ k ∨ (y = 0 ∧ k % 2 = 0 ∧ a ≤ 0 ∧ 0 ≤ b)) ∧ (k % 2 = 0 → a ≤ 0 → 0 ≤ b → (0 : Rat) ∈ r) := by
  unfold powL
  by_cases hc : k % 2 = 0 ∧ a ≤ 0 ∧ 0 ≤ b
  · rw [if_pos hc]
    exact ⟨_, rfl, by simp, by simp [hc.1, hc.2.1, hc.2.2], by simp⟩
  · rw [if_neg hc]
    exact ⟨_, rfl, by simp, by simp, fun x y z => (hc ⟨x, y, z⟩).elim⟩
theorem pow_has {s : Sd} {k : Nat} {x : Rat} (h : s.Has x) : (powR s k).Has (x ^ k) := by
  unfold powR
  split
  · rename_i h0; subst h0; rw [Rat.pow_zero]; exact ⟨Rat.le_refl, Rat.le_refl⟩
  · obtain ⟨r, hr, h1, h2, h3⟩ := powL_cons s.1 s.2 k
    rw [hr]
    exact ⟨pow_lo (minQ_le List.mem_cons_self) (minQ_le (List.mem_cons_of_mem _ h1)) (fun z1 z2 z3 => minQ_le (List.mem_cons_of_mem _ (h3 z1 z2 z3))) h.1 h.2, pow_hi (le_maxQ List.mem_cons_self) (le_maxQ (List.mem_cons_of_mem _ h1)) h.1 h.2⟩
/-- where all of a list lies in a stretch -/
theorem ar_in {x : Rat} {xs : List Rat} {t : Sd} (h : ∀ y ∈ x :: xs, t.Has y) : (arS (x :: xs)).In t := ⟨(h _ (minQ_mem _ _)).1, (h _ (maxQ_mem _ _)).2⟩
def Sd.Ok (s : Sd) : Prop := s.1 ≤ s.2
theorem ar_ok {x : Rat} {xs : List Rat} : (arS (x :: xs)).Ok := Rat.le_trans (minQ_le List.mem_cons_self) (le_maxQ List.mem_cons_self)
theorem pow_mono' {s t : Sd} (hs : s.Ok) (h : s.In t) (k : Nat) : (powR s k).In (powR t k) := by
  by_cases h0 : k = 0
  · subst h0; exact ⟨Rat.le_refl, Rat.le_refl⟩
  · have e : powR s k = arS (powL s.1 s.2 k) := by unfold powR; rw [if_neg h0]
    rw [e]
    obtain ⟨r, hr, h1, h2, h3⟩ := powL_cons s.1 s.2 k
    rw [hr]
    refine ar_in ?_
    intro y hy
    rcases List.mem_cons.mp hy with e | hy
    · rw [e]; exact pow_has ⟨h.1, Rat.le_trans hs h.2⟩
    · rcases h2 y hy with e | ⟨e, _, e1, e2⟩
      · rw [e]; exact pow_has ⟨Rat.le_trans h.1 hs, h.2⟩
      · have := pow_has (s := t) (k := k) (x := 0) ⟨Rat.le_trans h.1 e1, Rat.le_trans e2 h.2⟩
        rw [zero_pow' h0] at this
        rw [e]; exact this
theorem pow_ok' {s : Sd} {k : Nat} : (powR s k).Ok := by
  unfold powR
  split
  · exact Rat.le_refl
  · obtain ⟨r, hr, _⟩ := powL_cons s.1 s.2 k
    rw [hr]; exact ar_ok
theorem join_has {o : Bo} {s t u : Sd} {x y : Rat} (hj : joinS o s t = some u) (hx : s.Has x) (hy : t.Has y) : ∃ z, o.ap x y = some z ∧ u.Has z := by
  cases o with
  | sum => cases hj; exact ⟨_, rfl, by constructor <;> grind [Sd.Has]⟩
  | less => cases hj; exact ⟨_, rfl, by constructor <;> grind [Sd.Has]⟩
  | times =>
    cases hj
    exact ⟨_, rfl, prod_lo (minQ_le (by simp)) (minQ_le (by simp)) (minQ_le (by simp)) (minQ_le (by simp)) hx.1 hx.2 hy.1 hy.2, prod_hi (le_maxQ (by simp)) (le_maxQ (by simp)) (le_maxQ (by simp)) (le_maxQ (by simp)) hx.1 hx.2 hy.1 hy.2⟩
  | over =>
    unfold joinS at hj
    dsimp only at hj
    split at hj
    · cases hj
    · rename_i h0
      cases hj
      have h0' : ¬ (t.1 ≤ 0 ∧ 0 ≤ t.2) := fun z => h0 (hasB_iff.mpr z)
      have hy0 : y ≠ 0 := by intro z; subst z; exact h0' hy
      refine ⟨x / y, by simp only [Bo.ap, if_neg hy0], ?_⟩
      exact ⟨quot_lo h0' (minQ_le (by simp)) (minQ_le (by simp)) (minQ_le (by simp)) (minQ_le (by simp)) hx.1 hx.2 hy.1 hy.2, quot_hi h0' (le_maxQ (by simp)) (le_maxQ (by simp)) (le_maxQ (by simp)) (le_maxQ (by simp)) hx.1 hx.2 hy.1 hy.2⟩
theorem join_mono {o : Bo} {s t s' t' u : Sd} (hs : s'.Ok) (ht : t'.Ok) (is : s'.In s) (it : t'.In t) (hj : joinS o s t = some u) : ∃ u', joinS o s' t' = some u' ∧ u'.In u := by
  have ha : s.Has s'.1 := ⟨is.1, Rat.le_trans hs is.2⟩
  have hb : s.Has s'.2 := ⟨Rat.le_trans is.1 hs, is.2⟩
  have hc : t.Has t'.1 := ⟨it.1, Rat.le_trans ht it.2⟩
  have hd : t.Has t'.2 := ⟨Rat.le_trans it.1 ht, it.2⟩
  cases o with
  | sum => cases hj; exact ⟨_, rfl, by constructor <;> grind [Sd.In]⟩
  | less => cases hj; exact ⟨_, rfl, by constructor <;> grind [Sd.In]⟩
  | times =>
    refine ⟨_, rfl, ar_in ?_⟩
    simp only [List.forall_mem_cons, List.not_mem_nil, false_imp_iff, implies_true, and_true]
    refine ⟨?_, ?_, ?_, ?_⟩
    · obtain ⟨z, e, h⟩ := join_has hj ha hc; cases e; exact h
    · obtain ⟨z, e, h⟩ := join_has hj ha hd; cases e; exact h
    · obtain ⟨z, e, h⟩ := join_has hj hb hc; cases e; exact h
    · obtain ⟨z, e, h⟩ := join_has hj hb hd; cases e; exact h
  | over =>
    have h0 : ¬ hasB t 0 = true := by
      intro z
      unfold joinS at hj
      dsimp only at hj
      rw [if_pos z] at hj
      cases hj
    have h1 : ¬ hasB t' 0 = true := fun z => h0 (hasB_iff.mpr ((hasB_iff.mp z).in it))
    have nz : ∀ {y}, t.Has y → y ≠ 0 := fun h z => h0 (hasB_iff.mpr (z ▸ h))
    refine ⟨arS [s'.1 / t'.1, s'.1 / t'.2, s'.2 / t'.1, s'.2 / t'.2], by simp only [joinS, if_neg h1], ar_in ?_⟩
    simp only [List.forall_mem_cons, List.not_mem_nil, false_imp_iff, implies_true, and_true]
    refine ⟨?_, ?_, ?_, ?_⟩
    · obtain ⟨z, e, h⟩ := join_has hj ha hc; simp only [Bo.ap, if_neg (nz hc)] at e; cases e; exact h
    · obtain ⟨z, e, h⟩ := join_has hj ha hd; simp only [Bo.ap, if_neg (nz hd)] at e; cases e; exact h
    · obtain ⟨z, e, h⟩ := join_has hj hb hc; simp only [Bo.ap, if_neg (nz hc)] at e; cases e; exact h
    · obtain ⟨z, e, h⟩ := join_has hj hb hd; simp only [Bo.ap, if_neg (nz hd)] at e; cases e; exact h
theorem join_ok {o : Bo} {s t u : Sd} (hs : s.Ok) (ht : t.Ok) (hj : joinS o s t = some u) : u.Ok := by
  cases o with
  | sum => cases hj; show s.1 + t.1 ≤ s.2 + t.2; grind [Sd.Ok]
  | less => cases hj; show s.1 - t.2 ≤ s.2 - t.1; grind [Sd.Ok]
  | times => cases hj; exact ar_ok
  | over =>
    unfold joinS at hj
    dsimp only at hj
    split at hj
    · cases hj
    · cases hj; exact ar_ok
/-- a point in a box -/
def PIn (p : List Rat) (b : List Sd) : Prop := ∀ (i : Nat) (s : Sd), b[i]? = some s → ∃ x, p[i]? = some x ∧ s.Has x
def BIn (c b : List Sd) : Prop := ∀ (i : Nat) (s : Sd), b[i]? = some s → ∃ t, c[i]? = some t ∧ t.In s
def BOk (b : List Sd) : Prop := ∀ s ∈ b, s.Ok
theorem cov_ok {b : List Sd} (hb : BOk b) : ∀ {t : Tm} {s : Sd}, cov b t = some s → s.Ok
  | .num q, s, h => by cases h; exact Rat.le_refl
  | .var i, s, h => hb s (List.mem_of_getElem? h)
  | .pow t k, s, h => by
    simp only [cov] at h
    cases e : cov b t with
    | none => rw [e] at h; cases h
    | some u => rw [e] at h; cases h; exact pow_ok'
  | .bin o x y, s, h => by
    simp only [cov] at h
    cases ex : cov b x with
    | none => rw [ex] at h; cases h
    | some u =>
      cases ey : cov b y with
      | none => rw [ex, ey] at h; cases h
      | some v => rw [ex, ey] at h; exact join_ok (cov_ok hb ex) (cov_ok hb ey) h
theorem cov_sound {b : List Sd} {p : List Rat} (hp : PIn p b) : ∀ {t : Tm} {s : Sd}, cov b t = some s → ∃ q, t.w p = some q ∧ s.Has q
  | .num q, s, h => by cases h; exact ⟨q, rfl, Rat.le_refl, Rat.le_refl⟩
  | .var i, s, h => hp i s h
  | .pow t k, s, h => by
    simp only [cov] at h
    cases e : cov b t with
    | none => rw [e] at h; cases h
    | some u =>
      rw [e] at h
      cases h
      obtain ⟨q, h1, h2⟩ := cov_sound hp e
      exact ⟨q ^ k, by simp only [Tm.w, h1, Option.map_some], pow_has h2⟩
  | .bin o x y, s, h => by
    simp only [cov] at h
    cases ex : cov b x with
    | none => rw [ex] at h; cases h
    | some u =>
      cases ey : cov b y with
      | none => rw [ex, ey] at h; cases h
      | some v =>
        rw [ex, ey] at h
        obtain ⟨q, h1, h2⟩ := cov_sound hp ex
        obtain ⟨r, h3, h4⟩ := cov_sound hp ey
        obtain ⟨z, z1, z2⟩ := join_has h h2 h4
        exact ⟨z, by simp only [Tm.w, h1, h3, z1], z2⟩
theorem cov_mono {b c : List Sd} (hc : BOk c) (hbc : BIn c b) : ∀ {t : Tm} {s : Sd}, cov b t = some s → ∃ s', cov c t = some s' ∧ s'.In s
  | .num q, s, h => by cases h; exact ⟨_, rfl, Rat.le_refl, Rat.le_refl⟩
  | .var i, s, h => hbc i s h
  | .pow t k, s, h => by
    simp only [cov] at h
    cases e : cov b t with
    | none => rw [e] at h; cases h
    | some u =>
      rw [e] at h
      cases h
      obtain ⟨q, h1, h2⟩ := cov_mono hc hbc e
      exact ⟨powR q k, by simp only [cov, h1, Option.map_some], pow_mono' (cov_ok hc h1) h2 k⟩
  | .bin o x y, s, h => by
    simp only [cov] at h
    cases ex : cov b x with
    | none => rw [ex] at h; cases h
    | some u =>
      cases ey : cov b y with
      | none => rw [ex, ey] at h; cases h
      | some v =>
        rw [ex, ey] at h
        obtain ⟨q, h1, h2⟩ := cov_mono hc hbc ex
        obtain ⟨r, h3, h4⟩ := cov_mono hc hbc ey
        obtain ⟨z, z1, z2⟩ := join_mono (cov_ok hc h1) (cov_ok hc h3) h2 h4 h
        exact ⟨z, by simp only [cov, h1, h3, z1], z2⟩
theorem ar_same (x : Rat) {l : List Rat} (h : ∀ y ∈ l, y = x) : arS (x :: l) = (x, x) := by
  have a : ∀ y ∈ x :: l, y = x := by
    intro y hy
    rcases List.mem_cons.mp hy with e | hy
    · exact e
    · exact h y hy
  unfold arS
  rw [a _ (minQ_mem x l), a _ (maxQ_mem x l)]
theorem pow_pt (x : Rat) (k : Nat) : powR (x, x) k = (x ^ k, x ^ k) := by
  unfold powR
  by_cases h0 : k = 0
  · subst h0; rw [if_pos rfl, Rat.pow_zero]
  · rw [if_neg h0]
    obtain ⟨r, hr, _, h2, _⟩ := powL_cons x x k
    show arS (powL x x k) = _
    rw [hr]
    refine ar_same _ fun y hy => ?_
    rcases h2 y hy with e | ⟨e, _, e1, e2⟩
    · exact e
    · have : x = 0 := by grind
      rw [e, this, zero_pow' h0]
theorem cov_pt (p : List Rat) : ∀ t : Tm, cov (p.map fun x => (x, x)) t = (t.w p).map fun q => (q, q)
  | .num q => rfl
  | .var i => by simp only [cov, Tm.w, List.getElem?_map]
  | .pow t k => by
    simp only [cov, Tm.w, cov_pt p t]
    cases t.w p with
    | none => rfl
    | some q => simp only [Option.map_some, pow_pt]
  | .bin o x y => by
    simp only [cov, Tm.w, cov_pt p x, cov_pt p y]
    cases x.w p with
    | none => rfl
    | some q =>
      cases y.w p with
      | none => rfl
      | some r =>
        simp only [Option.map_some]
        cases o with
        | sum => rfl
        | less => rfl
        | times => simp only [joinS, Bo.ap, Option.map_some]; rw [ar_same _ (by simp)]
        | over =>
          simp only [joinS, Bo.ap]
          by_cases h0 : r = 0
          · subst h0
            rw [if_pos (by decide), if_pos rfl]; rfl
          · rw [if_neg (fun z => h0 (by have := hasB_iff.mp z; have h1 := this.1; have h2 := this.2; grind)), if_neg h0, Option.map_some, ar_same _ (by simp)]
/-! ### sizes and the walk -/
theorem ar_qz {n : Nat} {x : Rat} {xs : List Rat} (h : ∀ y ∈ x :: xs, Qz n y) : Qz n (arS (x :: xs)).1 ∧ Qz n (arS (x :: xs)).2 := ⟨h _ (minQ_mem _ _), h _ (maxQ_mem _ _)⟩
theorem pow_qz {n : Nat} {s : Sd} {k : Nat} (h1 : Qz n s.1) (h2 : Qz n s.2) : Qz (n * k + 1) (powR s k).1 ∧ Qz (n * k + 1) (powR s k).2 := by
  unfold powR
  split
  · exact ⟨qz1.mono (by omega), qz1.mono (by omega)⟩
  · obtain ⟨r, hr, _, h, _⟩ := powL_cons s.1 s.2 k
    rw [hr]
    refine ar_qz fun y hy => ?_
    rcases List.mem_cons.mp hy with e | hy
    · rw [e]; exact h1.pow k
    · rcases h y hy with e | ⟨e, _⟩
      · rw [e]; exact h2.pow k
      · rw [e]; exact qz0.mono (by omega)
theorem join_qz {m n : Nat} {o : Bo} {s t u : Sd} (hs : Qz m s.1 ∧ Qz m s.2) (ht : Qz n t.1 ∧ Qz n t.2) (hj : joinS o s t = some u) : Qz (m + n + 1) u.1 ∧ Qz (m + n + 1) u.2 := by
  cases o with
  | sum => cases hj; exact ⟨hs.1.add ht.1, hs.2.add ht.2⟩
  | less => cases hj; exact ⟨hs.1.sub ht.2, hs.2.sub ht.1⟩
  | times =>
    cases hj
    refine ar_qz ?_
    simp only [List.forall_mem_cons, List.not_mem_nil, false_imp_iff, implies_true, and_true]
    exact ⟨(hs.1.mul ht.1).mono (by omega), (hs.1.mul ht.2).mono (by omega), (hs.2.mul ht.1).mono (by omega), (hs.2.mul ht.2).mono (by omega)⟩
  | over =>
    unfold joinS at hj
    dsimp only at hj
    split at hj
    · cases hj
    · cases hj
      refine ar_qz ?_
      simp only [List.forall_mem_cons, List.not_mem_nil, false_imp_iff, implies_true, and_true]
      exact ⟨(hs.1.div ht.1).mono (by omega), (hs.1.div ht.2).mono (by omega), (hs.2.div ht.1).mono (by omega), (hs.2.div ht.2).mono (by omega)⟩
theorem cov_qz {m : Nat} {b : List Sd} (hb : Bz m b) : ∀ {t : Tm} {s : Sd}, cov b t = some s → Qz (t.sz m) s.1 ∧ Qz (t.sz m) s.2
  | .num q, s, h => by cases h; exact ⟨qz_qb q, qz_qb q⟩
  | .var i, s, h => hb s (List.mem_of_getElem? h)
  | .pow t k, s, h => by
    simp only [cov] at h
    cases e : cov b t with
    | none => rw [e] at h; cases h
    | some u =>
      rw [e] at h
      cases h
      obtain ⟨h1, h2⟩ := cov_qz hb e
      obtain ⟨z1, z2⟩ := pow_qz (k := k) h1 h2
      simp only [Tm.sz]
      exact ⟨z1.mono (by rw [Nat.mul_add]; omega), z2.mono (by rw [Nat.mul_add]; omega)⟩
  | .bin o x y, s, h => by
    simp only [cov] at h
    cases ex : cov b x with
    | none => rw [ex] at h; cases h
    | some u =>
      cases ey : cov b y with
      | none => rw [ex, ey] at h; cases h
      | some v =>
        rw [ex, ey] at h
        simp only [Tm.sz]
        exact join_qz (cov_qz hb ex) (cov_qz hb ey) h
def osD : Option Sd → D
  | some s => sd s
  | none => .none
theorem is_sd {s : Sd} : cmR .is (sd s) .none = .ok (.bool false) := rfl
theorem isn_sd {s : Sd} : cmR .isn (sd s) .none = .ok (.bool true) := rfl
local macro_rules | `(tactic| walk_at "cw") => `(tactic| simp -implicitDefEqProofs only [ss_nil, ss_cons, goSs_next, goSs_ret, goSs_exc, goSs_brk, goSs_cont, s_asg', s_asgL2, asgL_ok, see_cons, see1_ow, see1_fr, see1_no, see1_S, ow_0, ow_S, s_app', app_some, app_exc, s_asgT', s_par', s_ret', s_iff', s_whl', s_for', s_rais', s_expr', s_brk', s_cont', s_pass', s_try', s_tryW', tryW_ret, tryW_next, tryW_exc, tryN_ret, tryN_next, tryN_exc, e_k, e_v, e_g, e_tup', e_lst', e_bin', e_neg', e_not', e_and', e_or', e_cmp', e_cmp2', e_ife', e_ix', e_sl', e_call', e_bf', e_isi', e_lc', es_nil, es_cons, and_one, and_cons, or_one, or_cons, eo_no, eo_yes, ec_no, ec_yes, ei_seq, ei_rng1, ei_rng2, ei_zip, ei_enum, gv0, gvS, see0, fl_int, fl_bool, fl_str, fl_none, fl_tup, fl_lst, bind_ok, bind_bad, bind_exc, onR_ok, onR_exc, onR_bad, toB_bool, toB_exc, eq_int, ne_int, lt_int', le_int', gt_int', ge_int', add_int', sub_int', bf_abs, bf_max, bf_min, bf_len, bf_lenT, bf_int, bf_intB, startE, List.map_cons, List.map_nil, List.length_cons, List.length_map, List.length_nil, List.cons_append, List.nil_append, List.set_cons_zero, List.set_cons_succ, List.replicate, Nat.sub_self, Nat.reduceSub, Nat.reduceAdd, if_true, if_false, Bool.false_eq_true, reduceIte, ixT0, ixT1, ixT2, outR_ret, outR_next, outR_exc, setT, setMany, wipeE, rng1_ok, rng2_ok, not_ok, neg_ok, and_t, and_f, and_ok, and_x, or_t, or_f, or_ok, or_x, ife_b, Bool.not_true, Bool.not_false, Bool.true_and, Bool.and_true, Bool.false_and, Bool.and_false, Bool.true_or, Bool.or_true, Bool.false_or, Bool.or_false, decide_true, decide_false, beq_self_eq_true, Int.reduceBEq, Int.reduceLT, Int.reduceLE, Int.reduceAdd, Int.reduceSub, Int.reduceNeg, Int.cast_ofNat_Int, fl_fr, eq_fr, ne_fr, ix_fr0, ix_fr1, ite_self, lc_nil, lc_cons, consR_s, consR_n, bf_all, bf_any, bf_sum, bf_tup, ofO_some, bls_nil, bls_cons, ints_nil, ints_cons, Option.map_some, seq_lst, seq_tup, ixL0, ixL1, ixL2, ixL3, isi_bi, isi_bb, isi_ii, isi_ib, isi_tt, List.all_cons, List.all_nil, id, pw_10_11, pw_10_12, pw_10_13, pw_10_30, pw_10_40, pw_10_6, pw_10_9, pw_2_8, pw_2_10, pw_2_12, pw_2_13, pw_2_14, pw_2_15, pw_2_16, pw_2_17, pw_2_18, pw_2_20, pw_2_24, pw_2_25, pw_2_27, pw_2_28, pw_2_30, pw_2_32, pw_2_34, pw_2_36, pw_2_38, pw_2_40, pw_2_41, pw_2_42, pw_2_44, pw_2_50, pw_2_54, pw_2_56, pw_2_60, e_rev', e_mx0', e_ins', rev_lst, s_setC', mod_pos, fdiv_pos, mul_rl, mul_ll, fl_st, ix_st0, ix_st1, cell_ok, drawn_ok, Int.reduceMul, fl_tm, cst0, cst1, fl_box, fl_pt, fl_sd, ix_sd0, ix_sd1, s_ext', is_sd, isn_sd, is_non, isn_non, eqw_num_num, eqw_num_var, eqw_num_power, eqw_num_sum, eqw_num_less, eqw_num_times, eqw_num_over, eqw_var_num, eqw_var_var, eqw_var_power, eqw_var_sum, eqw_var_less, eqw_var_times, eqw_var_over, eqw_power_num, eqw_power_var, eqw_power_power, eqw_power_sum, eqw_power_less, eqw_power_times, eqw_power_over, eqw_sum_num, eqw_sum_var, eqw_sum_power, eqw_sum_sum, eqw_sum_less, eqw_sum_times, eqw_sum_over, eqw_less_num, eqw_less_var, eqw_less_power, eqw_less_sum, eqw_less_less, eqw_less_times, eqw_less_over, eqw_times_num, eqw_times_var, eqw_times_power, eqw_times_sum, eqw_times_less, eqw_times_times, eqw_times_over, eqw_over_num, eqw_over_var, eqw_over_power, eqw_over_sum, eqw_over_less, eqw_over_times, eqw_over_over])
local macro_rules | `(tactic| walk_at "cw*") => `(tactic| simp -implicitDefEqProofs only [*, ss_nil, ss_cons, goSs_next, goSs_ret, goSs_exc, goSs_brk, goSs_cont, s_asg', s_asgL2, asgL_ok, see_cons, see1_ow, see1_fr, see1_no, see1_S, ow_0, ow_S, s_app', app_some, app_exc, s_asgT', s_par', s_ret', s_iff', s_whl', s_for', s_rais', s_expr', s_brk', s_cont', s_pass', s_try', s_tryW', tryW_ret, tryW_next, tryW_exc, tryN_ret, tryN_next, tryN_exc, e_k, e_v, e_g, e_tup', e_lst', e_bin', e_neg', e_not', e_and', e_or', e_cmp', e_cmp2', e_ife', e_ix', e_sl', e_call', e_bf', e_isi', e_lc', es_nil, es_cons, and_one, and_cons, or_one, or_cons, eo_no, eo_yes, ec_no, ec_yes, ei_seq, ei_rng1, ei_rng2, ei_zip, ei_enum, gv0, gvS, see0, fl_int, fl_bool, fl_str, fl_none, fl_tup, fl_lst, bind_ok, bind_bad, bind_exc, onR_ok, onR_exc, onR_bad, toB_bool, toB_exc, eq_int, ne_int, lt_int', le_int', gt_int', ge_int', add_int', sub_int', bf_abs, bf_max, bf_min, bf_len, bf_lenT, bf_int, bf_intB, startE, List.map_cons, List.map_nil, List.length_cons, List.length_map, List.length_nil, List.cons_append, List.nil_append, List.set_cons_zero, List.set_cons_succ, List.replicate, Nat.sub_self, Nat.reduceSub, Nat.reduceAdd, if_true, if_false, Bool.false_eq_true, reduceIte, ixT0, ixT1, ixT2, outR_ret, outR_next, outR_exc, setT, setMany, wipeE, rng1_ok, rng2_ok, not_ok, neg_ok, and_t, and_f, and_ok, and_x, or_t, or_f, or_ok, or_x, ife_b, Bool.not_true, Bool.not_false, Bool.true_and, Bool.and_true, Bool.false_and, Bool.and_false, Bool.true_or, Bool.or_true, Bool.false_or, Bool.or_false, decide_true, decide_false, beq_self_eq_true, Int.reduceBEq, Int.reduceLT, Int.reduceLE, Int.reduceAdd, Int.reduceSub, Int.reduceNeg, Int.cast_ofNat_Int, fl_fr, eq_fr, ne_fr, ix_fr0, ix_fr1, ite_self, lc_nil, lc_cons, consR_s, consR_n, bf_all, bf_any, bf_sum, bf_tup, ofO_some, bls_nil, bls_cons, ints_nil, ints_cons, Option.map_some, seq_lst, seq_tup, ixL0, ixL1, ixL2, ixL3, isi_bi, isi_bb, isi_ii, isi_ib, isi_tt, List.all_cons, List.all_nil, id, pw_10_11, pw_10_12, pw_10_13, pw_10_30, pw_10_40, pw_10_6, pw_10_9, pw_2_8, pw_2_10, pw_2_12, pw_2_13, pw_2_14, pw_2_15, pw_2_16, pw_2_17, pw_2_18, pw_2_20, pw_2_24, pw_2_25, pw_2_27, pw_2_28, pw_2_30, pw_2_32, pw_2_34, pw_2_36, pw_2_38, pw_2_40, pw_2_41, pw_2_42, pw_2_44, pw_2_50, pw_2_54, pw_2_56, pw_2_60, e_rev', e_mx0', e_ins', rev_lst, s_setC', mod_pos, fdiv_pos, mul_rl, mul_ll, fl_st, ix_st0, ix_st1, cell_ok, drawn_ok, Int.reduceMul, fl_tm, cst0, cst1, fl_box, fl_pt, fl_sd, ix_sd0, ix_sd1, s_ext', is_sd, isn_sd, is_non, isn_non, eqw_num_num, eqw_num_var, eqw_num_power, eqw_num_sum, eqw_num_less, eqw_num_times, eqw_num_over, eqw_var_num, eqw_var_var, eqw_var_power, eqw_var_sum, eqw_var_less, eqw_var_times, eqw_var_over, eqw_power_num, eqw_power_var, eqw_power_power, eqw_power_sum, eqw_power_less, eqw_power_times, eqw_power_over, eqw_sum_num, eqw_sum_var, eqw_sum_power, eqw_sum_sum, eqw_sum_less, eqw_sum_times, eqw_sum_over, eqw_less_num, eqw_less_var, eqw_less_power, eqw_less_sum, eqw_less_less, eqw_less_times, eqw_less_over, eqw_times_num, eqw_times_var, eqw_times_power, eqw_times_sum, eqw_times_less, eqw_times_times, eqw_times_over, eqw_over_num, eqw_over_var, eqw_over_power, eqw_over_sum, eqw_over_less, eqw_over_times, eqw_over_over])

section
variable {T : Nat → Option Def} [Lay b1 T] [Lay b2 T] [Lay b3 T] [Lay b4 T] [Lay b5 T] [Lay b6 T]
theorem joined_ok (n : Nat) {o : Bo} {s t : Sd} {m k : Nat} (hs : Qz m s.1 ∧ Qz m s.2) (ht : Qz k t.1 ∧ Qz k t.2) (h : 2 * (m + k) + 1 ≤ 134217728) (hok : t.Ok) : evc T (n + 6) 50 [.str o.s, sd s, sd t] = .ok (osD (joinS o s t)) := by
  rw [evc_b b6 rfl rfl]
  unfold d_joined
  cases o with
  | sum =>
    simp only [Bo.s, joinS]
    walk_at "cw"
    rw [show evc T (n + 5) 27 [sd s, sd t] = _ from sum_of_ok (n + 1) hs.1 hs.2 ht.1 ht.2 (by omega)]
    rfl
  | less =>
    simp only [Bo.s, joinS]
    walk_at "cw"
    rw [show evc T (n + 5) 28 [sd s, sd t] = _ from less_of_ok n hs.1 hs.2 ht.1 ht.2 (by omega)]
    rfl
  | times =>
    simp only [Bo.s, joinS]
    walk_at "cw"
    rw [show evc T (n + 5) 29 [sd s, sd t] = _ from product_of_ok (n + 1) hs.1 hs.2 ht.1 ht.2 (by omega)]
    rfl
  | over =>
    simp only [Bo.s, joinS]
    walk_at "cw"
    by_cases h0 : hasB t 0 = true
    · rw [if_pos h0, show evc T (n + 5) 31 [sd s, sd t] = _ from quotient_of_none (n + 1) (m := m) ht.1 ht.2 (by omega) (hasB_iff.mp h0)]
      rfl
    · have h1 : ¬ (t.1 ≤ 0 ∧ 0 ≤ t.2) := fun z => h0 (hasB_iff.mpr z)
      rw [if_neg h0]
      have hok' : t.1 ≤ t.2 := hok
      rw [show evc T (n + 5) 31 [sd s, sd t] = _ from quotient_of_ok (n + 1) hs.1 hs.2 ht.1 ht.2 (by omega) h1 (by grind) (by grind)]
      rfl
theorem cover_ok {m v : Nat} {b : List Sd} (hb : Bz m b) (hok : BOk b) (hv : v ≤ b.length) : ∀ (t : Tm) (n : Nat), t.shp v → 2 * t.sz m + 4 ≤ 134217728 → t.dep ≤ n → evc T (n + 6) 51 [tmD t, boxD b] = .ok (osD (cov b t))
  | .num q, n, g, hs, hn => by
    rw [evc_b b6 rfl rfl]
    unfold d_cover
    simp only [tmD, cov]
    walk_at "cw"
    rfl
  | .var i, n, g, hs, hn => by
    have hi : i < b.length := Nat.lt_of_lt_of_le g hv
    have e := List.getElem?_eq_getElem hi
    rw [evc_b b6 rfl rfl]
    unfold d_cover
    simp only [tmD, cov]
    walk_at "cw"
    rw [ixb_ok e, e]
    walk_at "cw"
    rfl
  | .pow t k, n, g, hs, hn => by
    obtain ⟨n, rfl⟩ : ∃ j, n = j + 1 := ⟨n - 1, by simp only [Tm.dep] at hn; omega⟩
    simp only [Tm.sz] at hs
    have hk := g.2
    have hm : t.sz m * (k + 1) = t.sz m * k + t.sz m := Nat.mul_succ _ _
    have ih := cover_ok hb hok hv t n g.1 (by omega) (by simp only [Tm.dep] at hn; omega)
    rw [evc_b b6 rfl rfl]
    unfold d_cover
    simp only [tmD, cov]
    walk_at "cw"
    rw [ih]
    cases e : cov b t with
    | none =>
      simp only [osD, Option.map_none]
      walk_at "cw"
    | some u =>
      obtain ⟨z1, z2⟩ := cov_qz hb e
      simp only [osD, Option.map_some]
      walk_at "cw"
      unfold powR
      by_cases h0 : k = 0
      · subst h0
        rw [if_pos rfl, show evc T (n + 6) 30 [sd u, .int ((0 : Nat) : Int)] = _ from power_of_zero (n + 2)]
        rfl
      · rw [if_neg h0, show evc T (n + 6) 30 [sd u, .int (k : Int)] = _ from power_of_ok (n + 2) z1 z2 h0 (by omega) (by omega)]
        rfl
  | .bin o x y, n, g, hs, hn => by
    obtain ⟨n, rfl⟩ : ∃ j, n = j + 1 := ⟨n - 1, by simp only [Tm.dep] at hn; omega⟩
    simp only [Tm.sz] at hs
    have i1 := cover_ok hb hok hv x n g.1 (by omega) (by simp only [Tm.dep] at hn; omega)
    have i2 := cover_ok hb hok hv y n g.2 (by omega) (by simp only [Tm.dep] at hn; omega)
    rw [evc_b b6 rfl rfl]
    unfold d_cover
    simp only [tmD, cov]
    cases ex : cov b x with
    | none =>
      rw [ex] at i1
      simp only [osD] at i1 ⊢
      cases o <;> simp only [Bo.s] <;> walk_at "cw" <;> rw [i1] <;> walk_at "cw"
    | some u =>
      rw [ex] at i1
      cases ey : cov b y with
      | none =>
        rw [ey] at i2
        simp only [osD] at i1 i2 ⊢
        cases o <;> simp only [Bo.s] <;> walk_at "cw" <;> rw [i1] <;> walk_at "cw" <;> rw [i2] <;> walk_at "cw"
      | some w =>
        rw [ey] at i2
        have jo := joined_ok (T := T) n (o := o) (cov_qz hb ex) (cov_qz hb ey) (by omega) (cov_ok hok ey)
        simp only [osD] at i1 i2 jo ⊢
        cases o <;> simp only [Bo.s] at jo ⊢ <;> walk_at "cw" <;> rw [i1] <;> walk_at "cw" <;> rw [i2] <;> walk_at "cw" <;> rw [jo] <;> walk_at "cw"
end
end Cw

set_option Elab.async false
set_option linter.all false
set_option maxRecDepth 100000
set_option maxHeartbeats 4000000
namespace Cw
open PySem
/-! ### the way from a centre to a point -/
theorem pow_step {a b : Rat} (ha : 0 ≤ a) (hab : a ≤ b) : ∀ n : Nat, ((n + 1 : Nat) : Rat) * a ^ n * (b - a) ≤ b ^ (n + 1) - a ^ (n + 1) ∧ b ^ (n + 1) - a ^ (n + 1) ≤ ((n + 1 : Nat) : Rat) * b ^ n * (b - a)
  | 0 => by
    rw [Rat.pow_zero, Rat.pow_zero, Rat.pow_succ, Rat.pow_succ, Rat.pow_zero, Rat.pow_zero]
    rw [show ((0 + 1 : Nat) : Rat) = 1 from rfl]
    constructor <;> grind
  | n + 1 => by
    obtain ⟨i1, i2⟩ := pow_step ha hab n
    have hb : 0 ≤ b := Rat.le_trans ha hab
    have pa := pow_nn ha n
    have pb := pow_nn hb n
    have pm := pow_mono ha hab n
    have cn : ((n + 1 + 1 : Nat) : Rat) = ((n + 1 : Nat) : Rat) + 1 := by rw [Rat.natCast_add]; rfl
    have cp : (0 : Rat) ≤ ((n + 1 : Nat) : Rat) := by exact_mod_cast Nat.zero_le _
    rw [cn, Rat.pow_succ b (n + 1), Rat.pow_succ a (n + 1), Rat.pow_succ b n, Rat.pow_succ a n] at *
    generalize ((n + 1 : Nat) : Rat) = c at *
    generalize a ^ n = u at *
    generalize b ^ n = w at *
    have hd : 0 ≤ b - a := by grind
    constructor
    · have k1 := Rat.mul_nonneg (show 0 ≤ w * b - u * a - c * u * (b - a) by grind) ha
      have k2 := Rat.mul_nonneg (Rat.mul_nonneg pb hb) hd
      have k3 := Rat.mul_nonneg (show 0 ≤ (w - u) * b by exact Rat.mul_nonneg (by grind) hb) hd
      have k4 := Rat.mul_nonneg (Rat.mul_nonneg pa hd) hd
      grind
    · have k1 := Rat.mul_nonneg (show 0 ≤ c * w * (b - a) - (w * b - u * a) by grind) hb
      have k3 := Rat.mul_nonneg (show 0 ≤ (w - u) * a by exact Rat.mul_nonneg (by grind) ha) hd
      have k4 := Rat.mul_nonneg (Rat.mul_nonneg pb hd) hd
      grind
theorem le_mul3 {c x y d : Rat} (hc : 0 ≤ c) (hd : 0 ≤ d) (h : x ≤ y) : c * x * d ≤ c * y * d := by
  have := Rat.mul_nonneg (Rat.mul_nonneg hc (show 0 ≤ y - x by grind)) hd
  grind
theorem pow_mvt0 {m M a b : Rat} {n : Nat} (hab : a ≤ b) (h0 : 0 ≤ a ∨ b ≤ 0) (ma : m ≤ a ^ n ∧ a ^ n ≤ M) (mb : m ≤ b ^ n ∧ b ^ n ≤ M) :
    ((n + 1 : Nat) : Rat) * m * (b - a) ≤ b ^ (n + 1) - a ^ (n + 1) ∧ b ^ (n + 1) - a ^ (n + 1) ≤ ((n + 1 : Nat) : Rat) * M * (b - a) := by
  have cp : (0 : Rat) ≤ ((n + 1 : Nat) : Rat) := by exact_mod_cast Nat.zero_le _
  have hd : 0 ≤ b - a := by grind
  rcases h0 with h0 | h0
  · obtain ⟨i1, i2⟩ := pow_step h0 hab n
    exact ⟨Rat.le_trans (le_mul3 cp hd ma.1) i1, Rat.le_trans i2 (le_mul3 cp hd mb.2)⟩
  · obtain ⟨i1, i2⟩ := pow_step (a := -b) (b := -a) (by grind) (by grind) n
    have e : -a - -b = b - a := by grind
    rw [e] at i1 i2
    rcases Nat.mod_two_eq_zero_or_one n with hn | hn
    · rw [neg_pow_even b hn, neg_pow_odd a (show (n + 1) % 2 = 1 by omega), neg_pow_odd b (show (n + 1) % 2 = 1 by omega)] at i1
      rw [neg_pow_even a hn, neg_pow_odd a (show (n + 1) % 2 = 1 by omega), neg_pow_odd b (show (n + 1) % 2 = 1 by omega)] at i2
      have j1 := le_mul3 cp hd mb.1
      have j2 := le_mul3 cp hd ma.2
      constructor <;> grind
    · rw [neg_pow_odd b hn, neg_pow_even a (show (n + 1) % 2 = 0 by omega), neg_pow_even b (show (n + 1) % 2 = 0 by omega)] at i1
      rw [neg_pow_odd a hn, neg_pow_even a (show (n + 1) % 2 = 0 by omega), neg_pow_even b (show (n + 1) % 2 = 0 by omega)] at i2
      have j1 := le_mul3 cp hd ma.1
      have j2 := le_mul3 cp hd mb.2
      constructor <;> grind
theorem pow_mvt {m M a b : Rat} {n : Nat} (hab : a ≤ b) (h : ∀ y, a ≤ y → y ≤ b → m ≤ y ^ n ∧ y ^ n ≤ M) :
    ((n + 1 : Nat) : Rat) * m * (b - a) ≤ b ^ (n + 1) - a ^ (n + 1) ∧ b ^ (n + 1) - a ^ (n + 1) ≤ ((n + 1 : Nat) : Rat) * M * (b - a) := by
  by_cases h0 : 0 ≤ a ∨ b ≤ 0
  · exact pow_mvt0 hab h0 (h a Rat.le_refl hab) (h b hab Rat.le_refl)
  · have ha : a ≤ 0 := by grind
    have hb : 0 ≤ b := by grind
    obtain ⟨i1, i2⟩ := pow_mvt0 (n := n) ha (.inr Rat.le_refl) (h a Rat.le_refl hab) (h 0 ha hb)
    obtain ⟨j1, j2⟩ := pow_mvt0 (n := n) hb (.inl Rat.le_refl) (h 0 ha hb) (h b hab Rat.le_refl)
    constructor <;> grind
/-- the mean place of a power -/
theorem pow_mean {P : Sd} {x c : Rat} {n : Nat} {s : Sd} (hx : s.Has x) (hc : s.Has c) (h : ∀ y, s.Has y → P.Has (y ^ n)) : ∃ ξ, P.Has ξ ∧ x ^ (n + 1) - c ^ (n + 1) = ((n + 1 : Nat) : Rat) * ξ * (x - c) := by
  have cp : (0 : Rat) < ((n + 1 : Nat) : Rat) := by exact_mod_cast Nat.succ_pos n
  have key : ∀ a b : Rat, s.Has a → s.Has b → a < b → ∃ ξ, P.Has ξ ∧ b ^ (n + 1) - a ^ (n + 1) = ((n + 1 : Nat) : Rat) * ξ * (b - a) := by
    intro a b ha hb hab
    obtain ⟨i1, i2⟩ := pow_mvt (m := P.1) (M := P.2) (n := n) (Rat.le_of_lt hab) (fun y y1 y2 => h y ⟨Rat.le_trans ha.1 y1, Rat.le_trans y2 hb.2⟩)
    generalize ((n + 1 : Nat) : Rat) = k at *
    generalize b ^ (n + 1) - a ^ (n + 1) = d at *
    have hk : 0 < k * (b - a) := Rat.mul_pos cp (by grind)
    have hkn : k * (b - a) ≠ 0 := fun z => by rw [z] at hk; exact Rat.lt_irrefl hk
    have e : d / (k * (b - a)) * (k * (b - a)) = d := Rat.div_mul_cancel hkn
    refine ⟨d / (k * (b - a)), ⟨?_, ?_⟩, ?_⟩
    · refine Rat.not_lt.mp fun z => ?_
      have := Rat.mul_pos (show 0 < P.1 - d / (k * (b - a)) by grind) hk
      grind
    · refine Rat.not_lt.mp fun z => ?_
      have := Rat.mul_pos (show 0 < d / (k * (b - a)) - P.2 by grind) hk
      grind
    · grind
  rcases (Rat.le_total (a := x) (b := c)) with hxc | hxc
  · by_cases e : x = c
    · subst e
      exact ⟨x ^ n, h x hx, by grind⟩
    · obtain ⟨ξ, h1, h2⟩ := key x c hx hc (by grind)
      exact ⟨ξ, h1, by grind⟩
  · by_cases e : x = c
    · subst e
      exact ⟨x ^ n, h x hx, by grind⟩
    · obtain ⟨ξ, h1, h2⟩ := key c x hc hx (by grind)
      exact ⟨ξ, h1, h2⟩
/-! ### numbers of covers of made terms -/
section
variable {W : List Sd}
def CHas (W : List Sd) (t : Tm) (α : Rat) : Prop := ∃ P, cov W t = some P ∧ P.Has α
theorem CHas.num (q : Rat) : CHas W (.num q) q := ⟨_, rfl, Rat.le_refl, Rat.le_refl⟩
theorem CHas.eq {q α : Rat} (h : CHas W (.num q) α) : α = q := by
  obtain ⟨P, h1, h2⟩ := h
  cases h1
  have a := h2.1
  have b := h2.2
  grind
theorem CHas.bin {o : Bo} {a b : Tm} {α β γ : Rat} (ha : CHas W a α) (hb : CHas W b β) (ho : o ≠ .over) (h : o.ap α β = some γ) : CHas W (.bin o a b) γ := by
  obtain ⟨P, h1, h2⟩ := ha
  obtain ⟨Q, h3, h4⟩ := hb
  have : ∃ u, joinS o P Q = some u := by cases o <;> first | exact ⟨_, rfl⟩ | exact (ho rfl).elim
  obtain ⟨u, hu⟩ := this
  obtain ⟨z, z1, z2⟩ := join_has hu h2 h4
  rw [h] at z1
  cases z1
  exact ⟨u, by simp only [cov, h1, h3, hu], z2⟩
theorem in_sum {a b : Tm} {α β : Rat} (ha : CHas W a α) (hb : CHas W b β) : CHas W (sumT a b) (α + β) :=
  sum_ind (P := fun t => CHas W t (α + β)) (fun e => by subst e; rw [ha.eq, Rat.zero_add]; exact hb) (fun e => by subst e; rw [hb.eq, Rat.add_zero]; exact ha) (fun p q e1 e2 => by subst e1 e2; rw [ha.eq, hb.eq]; exact .num _) (CHas.bin ha hb (by decide) rfl)
theorem in_less {a b : Tm} {α β : Rat} (ha : CHas W a α) (hb : CHas W b β) : CHas W (lessT a b) (α - β) :=
  less_ind (P := fun t => CHas W t (α - β)) (fun e => by subst e; rw [hb.eq, Rat.sub_eq_add_neg, Rat.neg_zero, Rat.add_zero]; exact ha) (CHas.bin ha hb (by decide) rfl)
theorem in_times {a b : Tm} {α β : Rat} (ha : CHas W a α) (hb : CHas W b β) : CHas W (timesT a b) (α * β) :=
  times_ind (P := fun t => CHas W t (α * β)) (fun e => by
      have : α * β = 0 := by
        rcases e with e | e
        · subst e; rw [ha.eq, Rat.zero_mul]
        · subst e; rw [hb.eq, Rat.mul_zero]
      rw [this]; exact .num _)
    (fun e => by subst e; rw [ha.eq, Rat.one_mul]; exact hb) (fun e => by subst e; rw [hb.eq, Rat.mul_one]; exact ha) (fun p q e1 e2 => by subst e1 e2; rw [ha.eq, hb.eq]; exact .num _) (CHas.bin ha hb (by decide) rfl)
theorem in_powT {a : Tm} {S : Sd} (k : Nat) (ha : cov W a = some S) : ∃ P, cov W (powT a k) = some P ∧ ∀ y, S.Has y → P.Has (y ^ k) :=
  pow_ind (P := fun t => ∃ P, cov W t = some P ∧ ∀ y, S.Has y → P.Has (y ^ k)) (fun e => ⟨_, rfl, fun y _ => by rw [e, Rat.pow_zero]; exact ⟨Rat.le_refl, Rat.le_refl⟩⟩) (fun e => ⟨S, ha, fun y hy => by rw [e, Rat.pow_succ, Rat.pow_zero, Rat.one_mul]; exact hy⟩) ⟨powR S k, by simp only [cov, ha, Option.map_some], fun y hy => pow_has hy⟩
theorem sq_has {S : Sd} {y z : Rat} (h0 : ¬ S.Has 0) (hy : S.Has y) (hz : S.Has z) : (powR S 2).Has (y * z) ∧ ¬ (powR S 2).Has 0 := by
  have e : powR S 2 = arS [S.1 ^ 2, S.2 ^ 2] := by
    unfold powR powL
    rw [if_neg (by decide), if_neg (fun q => h0 ⟨q.2.1, q.2.2⟩)]
  have e1 : S.1 ^ 2 = S.1 * S.1 := by rw [Rat.pow_succ, Rat.pow_succ, Rat.pow_zero, Rat.one_mul]
  have e2 : S.2 ^ 2 = S.2 * S.2 := by rw [Rat.pow_succ, Rat.pow_succ, Rat.pow_zero, Rat.one_mul]
  rw [e, e1, e2]
  have y1 := hy.1
  have y2 := hy.2
  have z1 := hz.1
  have z2 := hz.2
  have hs : 0 < S.1 ∨ S.2 < 0 := by
    by_cases a : 0 < S.1
    · exact .inl a
    · exact .inr (by
        have : ¬ (0 ≤ S.2) := fun q => h0 ⟨by grind, q⟩
        grind)
  have hp : ∀ q ∈ [S.1 * S.1, S.2 * S.2], 0 < q := by
    intro q hq
    simp only [List.mem_cons, List.not_mem_nil, or_false] at hq
    rcases hs with hs | hs
    · have p2 : 0 < S.2 := by grind
      rcases hq with e | e
      · rw [e]; exact Rat.mul_pos hs hs
      · rw [e]; exact Rat.mul_pos p2 p2
    · have p1 : 0 < -S.1 := by grind
      have p2 : 0 < -S.2 := by grind
      rcases hq with e | e
      · have := Rat.mul_pos p1 p1; rw [e]; grind
      · have := Rat.mul_pos p2 p2; rw [e]; grind
  refine ⟨⟨?_, ?_⟩, fun q => ?_⟩
  · rcases hs with hs | hs
    · refine Rat.le_trans (minQ_le (y := S.1 * S.1) (by simp)) ?_
      have a := Rat.mul_nonneg (show 0 ≤ y - S.1 by grind) (show 0 ≤ z by grind)
      have b := Rat.mul_nonneg (show 0 ≤ S.1 by grind) (show 0 ≤ z - S.1 by grind)
      grind
    · refine Rat.le_trans (minQ_le (y := S.2 * S.2) (by simp)) ?_
      have a := Rat.mul_nonneg (show 0 ≤ S.2 - y by grind) (show 0 ≤ -z by grind)
      have b := Rat.mul_nonneg (show 0 ≤ -S.2 by grind) (show 0 ≤ S.2 - z by grind)
      grind
  · rcases hs with hs | hs
    · refine Rat.le_trans ?_ (le_maxQ (y := S.2 * S.2) (by simp))
      have a := Rat.mul_nonneg (show 0 ≤ S.2 - y by grind) (show 0 ≤ z by grind)
      have b := Rat.mul_nonneg (show 0 ≤ S.2 by grind) (show 0 ≤ S.2 - z by grind)
      grind
    · refine Rat.le_trans ?_ (le_maxQ (y := S.1 * S.1) (by simp))
      have a := Rat.mul_nonneg (show 0 ≤ y - S.1 by grind) (show 0 ≤ -z by grind)
      have b := Rat.mul_nonneg (show 0 ≤ -S.1 by grind) (show 0 ≤ z - S.1 by grind)
      grind
  · have := hp _ (minQ_mem (S.1 * S.1) [S.2 * S.2])
    have q1 : minQ [S.1 * S.1, S.2 * S.2] ≤ 0 := q.1
    grind
theorem in_over {a b a' b' : Tm} {S : Sd} {x y z s t : Rat} (hb : cov W b = some S) (h0 : ¬ S.Has 0) (hy : S.Has y) (hz : S.Has z) (ha : CHas W a x) (ha' : CHas W a' s) (hb' : CHas W b' t) : CHas W (overT a b a' b') ((s * z - x * t) / (y * z)) := by
  obtain ⟨q1, q2⟩ := sq_has h0 hy hz
  have hbz : CHas W b z := ⟨S, hb, hz⟩
  have top := in_less (in_times ha' hbz) (in_times ha hb')
  refine over_ind (P := fun u => CHas W u ((s * z - x * t) / (y * z))) (fun e => ?_) ?_
  · rw [e] at top
    rw [top.eq, Rat.div_def, Rat.zero_mul]; exact .num _
  · obtain ⟨P, h1, h2⟩ := top
    have hn : ¬ hasB (powR S 2) 0 = true := fun z => q2 (hasB_iff.mp z)
    have hj : joinS .over P (powR S 2) = some (arS [P.1 / (powR S 2).1, P.1 / (powR S 2).2, P.2 / (powR S 2).1, P.2 / (powR S 2).2]) := by simp only [joinS, if_neg hn]
    obtain ⟨u, u1, u2⟩ := join_has hj h2 q1
    have hyz : y * z ≠ 0 := fun e => q2 (e ▸ q1)
    simp only [Bo.ap, if_neg hyz] at u1
    cases u1
    exact ⟨_, by simp only [cov, h1, hb, Option.map_some, hj], u2⟩
/-! ### sums over the places -/
def dot (s : Nat → Rat) (x c : List Rat) : Nat → Rat
  | 0 => 0
  | n + 1 => dot s x c n + s n * (x.getD n 0 - c.getD n 0)
theorem dot_lin (a b : Rat) (s t : Nat → Rat) (x c : List Rat) : ∀ n, dot (fun k => a * s k + b * t k) x c n = a * dot s x c n + b * dot t x c n
  | 0 => by simp only [dot]; grind
  | n + 1 => by simp only [dot]; rw [dot_lin a b s t x c n]; grind
theorem dot_congr {s t : Nat → Rat} {x c : List Rat} : ∀ {n : Nat}, (∀ k, s k = t k) → dot s x c n = dot t x c n
  | 0, _ => rfl
  | n + 1, h => by simp only [dot]; rw [dot_congr h, h n]
theorem dot_zero (x c : List Rat) : ∀ n, dot (fun _ => 0) x c n = 0
  | 0 => rfl
  | n + 1 => by simp only [dot]; rw [dot_zero x c n]; grind
theorem dot_one (i : Nat) (x c : List Rat) : ∀ n, dot (fun k => if i = k then 1 else 0) x c n = if i < n then x.getD i 0 - c.getD i 0 else 0
  | 0 => by simp [dot]
  | n + 1 => by
    simp only [dot]
    rw [dot_one i x c n]
    by_cases h : i < n
    · rw [if_pos h, if_neg (show ¬ i = n by omega), if_pos (show i < n + 1 by omega)]; grind
    · by_cases e : i = n
      · subst e; rw [if_neg h, if_pos rfl, if_pos (show i < i + 1 by omega)]; grind
      · rw [if_neg h, if_neg e, if_neg (show ¬ i < n + 1 by omega)]; grind
/-- from a centre to a point: the difference of the worths, by numbers of the slopes' covers -/
theorem mvt {x c : List Rat} (hx : PIn x W) (hc : PIn c W) {v : Nat} (hv : v ≤ W.length) : ∀ {t : Tm}, t.shp v → ∀ {S : Sd}, cov W t = some S → ∃ s : Nat → Rat, (∀ k, CHas W (slopeT k t) (s k)) ∧ ∃ p q, t.w x = some p ∧ t.w c = some q ∧ p - q = dot s x c W.length
  | .num r, g, S, h => ⟨fun _ => 0, fun k => .num 0, r, r, rfl, rfl, by rw [dot_zero]; grind⟩
  | .var i, g, S, h => by
    obtain ⟨p, hp, _⟩ := hx i S h
    obtain ⟨q, hq, _⟩ := hc i S h
    refine ⟨fun k => if i = k then 1 else 0, fun k => ?_, p, q, hp, hq, ?_⟩
    · simp only [slopeT]
      split <;> exact .num _
    · rw [dot_one, if_pos (Nat.lt_of_lt_of_le g hv)]
      simp [List.getD_eq_getElem?_getD, hp, hq]
  | .pow t n, g, S, h => by
    simp only [cov] at h
    cases e : cov W t with
    | none => rw [e] at h; cases h
    | some u =>
      obtain ⟨s, h1, p, q, hp, hq, hd⟩ := mvt hx hc hv g.1 e
      obtain ⟨p', hp', pu⟩ := cov_sound hx e
      obtain ⟨q', hq', qu⟩ := cov_sound hc e
      rw [hp] at hp'
      rw [hq] at hq'
      cases hp'
      cases hq'
      cases n with
      | zero =>
        refine ⟨fun _ => 0, fun k => ?_, 1, 1, by simp only [Tm.w, hp, Option.map_some, Rat.pow_zero], by simp only [Tm.w, hq, Option.map_some, Rat.pow_zero], by rw [dot_zero]; grind⟩
        simp only [slopeT]
        exact .num 0
      | succ n =>
        obtain ⟨P, hP, hPp⟩ := in_powT n e
        obtain ⟨ξ, hξ, he⟩ := pow_mean pu qu hPp
        refine ⟨fun k => ((n + 1 : Nat) : Rat) * (ξ * s k), fun k => ?_, p ^ (n + 1), q ^ (n + 1), by simp only [Tm.w, hp, Option.map_some], by simp only [Tm.w, hq, Option.map_some], ?_⟩
        · simp only [slopeT, if_neg (Nat.succ_ne_zero n), Nat.add_sub_cancel]
          exact in_times (.num _) (in_times ⟨P, hP, hξ⟩ (h1 k))
        · rw [he, hd]
          have := dot_lin (((n + 1 : Nat) : Rat) * ξ) 0 s s x c W.length
          rw [dot_congr (t := fun k => ((n + 1 : Nat) : Rat) * (ξ * s k)) (fun k => by grind)] at this
          rw [this]; grind
  | .bin o a b, g, S, h => by
    simp only [cov] at h
    cases ea : cov W a with
    | none => rw [ea] at h; cases h
    | some u =>
      cases eb : cov W b with
      | none => rw [ea, eb] at h; cases h
      | some w =>
        rw [ea, eb] at h
        obtain ⟨s, s1, p, q, hp, hq, hd⟩ := mvt hx hc hv g.1 ea
        obtain ⟨t, t1, p', q', hp', hq', hd'⟩ := mvt hx hc hv g.2 eb
        obtain ⟨z1, i1, pu⟩ := cov_sound hx ea
        obtain ⟨z2, i2, qu⟩ := cov_sound hc ea
        obtain ⟨z3, i3, pw⟩ := cov_sound hx eb
        obtain ⟨z4, i4, qw⟩ := cov_sound hc eb
        rw [hp] at i1; rw [hq] at i2; rw [hp'] at i3; rw [hq'] at i4
        cases i1; cases i2; cases i3; cases i4
        cases o with
        | sum =>
          refine ⟨fun k => s k + t k, fun k => in_sum (s1 k) (t1 k), p + p', q + q', by simp only [Tm.w, hp, hp', Bo.ap], by simp only [Tm.w, hq, hq', Bo.ap], ?_⟩
          have := dot_lin 1 1 s t x c W.length
          rw [dot_congr (t := fun k => s k + t k) (fun k => by grind)] at this
          rw [this]; grind
        | less =>
          refine ⟨fun k => s k - t k, fun k => in_less (s1 k) (t1 k), p - p', q - q', by simp only [Tm.w, hp, hp', Bo.ap], by simp only [Tm.w, hq, hq', Bo.ap], ?_⟩
          have := dot_lin 1 (-1) s t x c W.length
          rw [dot_congr (t := fun k => s k - t k) (fun k => by grind)] at this
          rw [this]; grind
        | times =>
          refine ⟨fun k => s k * q' + p * t k, fun k => in_sum (in_times (s1 k) ⟨w, eb, qw⟩) (in_times ⟨u, ea, pu⟩ (t1 k)), p * p', q * q', by simp only [Tm.w, hp, hp', Bo.ap], by simp only [Tm.w, hq, hq', Bo.ap], ?_⟩
          have := dot_lin q' p s t x c W.length
          rw [dot_congr (t := fun k => s k * q' + p * t k) (fun k => by grind)] at this
          rw [this, ← hd, ← hd']; grind
        | over =>
          have hn : ¬ hasB w 0 = true := by
            intro z
            unfold joinS at h
            dsimp only at h
            rw [if_pos z] at h
            cases h
          have h0 : ¬ w.Has 0 := fun z => hn (hasB_iff.mpr z)
          have np : p' ≠ 0 := fun z => h0 (z ▸ pw)
          have nq : q' ≠ 0 := fun z => h0 (z ▸ qw)
          have npq : p' * q' ≠ 0 := fun z => by rcases Rat.mul_eq_zero.mp z with z | z <;> contradiction
          refine ⟨fun k => (s k * q' - q * t k) / (p' * q'), fun k => in_over eb h0 pw qw ⟨u, ea, qu⟩ (s1 k) (t1 k), p / p', q / q', by simp only [Tm.w, hp, hp', Bo.ap, if_neg np], by simp only [Tm.w, hq, hq', Bo.ap, if_neg nq], ?_⟩
          have := dot_lin (q' * (p' * q')⁻¹) (-q * (p' * q')⁻¹) s t x c W.length
          rw [dot_congr (t := fun k => (s k * q' - q * t k) / (p' * q')) (fun k => by rw [Rat.div_def]; grind)] at this
          rw [this, ← hd, ← hd']
          have e1 : p / p' * p' = p := Rat.div_mul_cancel np
          have e2 : q / q' * q' = q := Rat.div_mul_cancel nq
          have e3 := Rat.mul_inv_cancel (p' * q') npq
          generalize (p' * q')⁻¹ = r at *
          generalize p / p' = A at *
          generalize q / q' = B at *
          have f : (A - B) * (p' * q') = p * q' - q * p' := by rw [← e1, ← e2]; grind
          have f2 : A - B = (A - B) * (p' * q' * r) := by rw [e3, Rat.mul_one]
          rw [f2, ← Rat.mul_assoc, f]
          grind
end
end Cw

set_option Elab.async false
set_option linter.all false
set_option maxRecDepth 100000
set_option maxHeartbeats 4000000
namespace Cw
open PySem
/-! ### sloped -/
def ptB (c : List Rat) : List Sd := c.map fun x => (x, x)
def addS (f g : Sd) : Sd := (f.1 + g.1, f.2 + g.2)
def mulS (s t : Sd) : Sd := arS [s.1 * t.1, s.1 * t.2, s.2 * t.1, s.2 * t.2]
def wayS (s : Sd) (y : Rat) : Sd := (s.1 - y, s.2 - y)
def sloGo (t : Tm) (W : List Sd) (c : List Rat) : Nat → List Sd → Sd → Option Sd
  | _, [], f => some f
  | k, s :: r, f => match cov W (slopeT k t) with
    | none => none
    | some P => sloGo t W c (k + 1) r (addS f (mulS P (wayS s (c.getD k 0))))
def slo (t : Tm) (b : List Sd) (c : List Rat) : Option Sd := match cov (ptB c) t with
  | none => none
  | some f => if (cov (hullB b (ptB c)) t).isNone = true then none else sloGo t (hullB b (ptB c)) c 0 b f
theorem mul_has {s t : Sd} {x y : Rat} (hx : s.Has x) (hy : t.Has y) : (mulS s t).Has (x * y) := by
  obtain ⟨z, e, h⟩ := join_has (o := .times) (u := mulS s t) rfl hx hy
  cases e; exact h
theorem mul_mono' {s t s' t' : Sd} (hs : s'.Ok) (ht : t'.Ok) (is : s'.In s) (it : t'.In t) : (mulS s' t').In (mulS s t) := by
  obtain ⟨z, e, h⟩ := join_mono (o := .times) (u := mulS s t) hs ht is it rfl
  cases e; exact h
theorem sloGo_has {t : Tm} {W : List Sd} {c x : List Rat} (s : Nat → Rat) (hs : ∀ k, CHas W (slopeT k t) (s k)) : ∀ (r : List Sd) (k : Nat) (f g : Sd) (y : Rat), sloGo t W c k r f = some g → f.Has y → (∀ (j : Nat) (u : Sd), r[j]? = some u → u.Has (x.getD (k + j) 0)) → g.Has (y + (dot s x c (k + r.length) - dot s x c k))
  | [], k, f, g, y, h, hf, _ => by
    cases h
    rw [show k + ([] : List Sd).length = k from rfl, show y + (dot s x c k - dot s x c k) = y from by grind]
    exact hf
  | u :: r, k, f, g, y, h, hf, hx => by
    simp only [sloGo] at h
    obtain ⟨P, hP, hPs⟩ := hs k
    rw [hP] at h
    have hu := hx 0 u rfl
    rw [Nat.add_zero] at hu
    have hw : (wayS u (c.getD k 0)).Has (x.getD k 0 - c.getD k 0) := by
      have a := hu.1
      have b := hu.2
      constructor
      · show u.1 - c.getD k 0 ≤ _; grind
      · show _ ≤ u.2 - c.getD k 0; grind
    have hm := mul_has hPs hw
    have hf' : (addS f (mulS P (wayS u (c.getD k 0)))).Has (y + s k * (x.getD k 0 - c.getD k 0)) := by
      constructor
      · show f.1 + _ ≤ _
        have a := hf.1
        have b := hm.1
        grind
      · show _ ≤ f.2 + _
        have a := hf.2
        have b := hm.2
        grind
    have ih := sloGo_has s hs r (k + 1) _ g _ h hf' (fun j v hj => by
      have := hx (j + 1) v (by simpa using hj)
      rw [show k + 1 + j = k + (j + 1) from by omega]; exact this)
    rw [show k + (u :: r).length = k + 1 + r.length from by simp; omega]
    have e : dot s x c (k + 1) = dot s x c k + s k * (x.getD k 0 - c.getD k 0) := rfl
    rw [e] at ih
    have e2 : y + s k * (x.getD k 0 - c.getD k 0) + (dot s x c (k + 1 + r.length) - (dot s x c k + s k * (x.getD k 0 - c.getD k 0))) = y + (dot s x c (k + 1 + r.length) - dot s x c k) := by grind
    rw [e2] at ih
    exact ih
theorem ptB_get {c : List Rat} {i : Nat} {s : Sd} (h : (ptB c)[i]? = some s) : ∃ y, c[i]? = some y ∧ s = (y, y) := by
  unfold ptB at h
  rw [List.getElem?_map] at h
  cases e : c[i]? with
  | none => rw [e] at h; cases h
  | some y => rw [e] at h; cases h; exact ⟨y, rfl, rfl⟩
theorem zip_get' {A B : Type} {l : List A} {m : List B} {j : Nat} {x : A × B} (h : (l.zip m)[j]? = some x) : l[j]? = some x.1 ∧ m[j]? = some x.2 := by
  rw [List.getElem?_zip_eq_some] at h
  exact h
theorem hull_get {b c : List Sd} {i : Nat} {s : Sd} (h : (hullB b c)[i]? = some s) : ∃ u v, b[i]? = some u ∧ c[i]? = some v ∧ s = hullS u v := by
  unfold hullB at h
  rw [List.getElem?_map] at h
  cases e : (b.zip c)[i]? with
  | none => rw [e] at h; cases h
  | some q =>
    rw [e] at h
    cases h
    obtain ⟨h1, h2⟩ := zip_get' e
    exact ⟨_, _, h1, h2, rfl⟩
theorem hull_l {u v : Sd} : u.In (hullS u v) := ⟨minQ_le (by simp), le_maxQ (by simp)⟩
theorem hull_r {u v : Sd} : v.In (hullS u v) := ⟨minQ_le (by simp), le_maxQ (by simp)⟩
theorem hull_okl {u v : Sd} (h : u.Ok) : (hullS u v).Ok := Rat.le_trans hull_l.1 (Rat.le_trans h hull_l.2)
theorem PIn.hull {x c : List Rat} {b : List Sd} (h : PIn x b) : PIn x (hullB b (ptB c)) := fun i s hs => by
  obtain ⟨u, v, h1, h2, rfl⟩ := hull_get hs
  obtain ⟨y, hy, hu⟩ := h i u h1
  exact ⟨y, hy, hu.in hull_l⟩
theorem PIn.centre {c : List Rat} {b : List Sd} : PIn c (hullB b (ptB c)) := fun i s hs => by
  obtain ⟨u, v, h1, h2, rfl⟩ := hull_get hs
  obtain ⟨y, hy, rfl⟩ := ptB_get h2
  exact ⟨y, hy, (show Sd.Has (y, y) y from ⟨Rat.le_refl, Rat.le_refl⟩).in hull_r⟩
theorem hull_len {b : List Sd} {c : List Rat} (h : b.length = c.length) : (hullB b (ptB c)).length = b.length := by
  unfold hullB ptB; simp; omega
/-- sloped tells what has the worths -/
theorem slo_sound {t : Tm} {v : Nat} {b : List Sd} {x c : List Rat} {g : Sd} (ht : t.shp v) (hv : v ≤ b.length) (hl : b.length = c.length) (hx : PIn x b) (h : slo t b c = some g) : ∃ q, t.w x = some q ∧ g.Has q := by
  unfold slo at h
  cases e : cov (ptB c) t with
  | none => rw [e] at h; cases h
  | some f =>
    rw [e] at h
    dsimp only at h
    cases e2 : cov (hullB b (ptB c)) t with
    | none => rw [e2] at h; cases h
    | some S =>
      rw [e2] at h
      have h : sloGo t (hullB b (ptB c)) c 0 b f = some g := h
      obtain ⟨s, hs, p, q, hp, hq, hd⟩ := mvt (x := x) (c := c) hx.hull PIn.centre (v := v) (by rw [hull_len hl]; exact hv) ht e2
      have hf : f.Has q := by
        have := cov_pt c t
        unfold ptB at e
        rw [e, hq] at this
        cases this
        exact ⟨Rat.le_refl, Rat.le_refl⟩
      have z := sloGo_has (x := x) s hs b 0 f g q h hf (fun j u hj => by
        obtain ⟨y, hy, hu⟩ := hx j u hj
        rw [Nat.zero_add, List.getD_eq_getElem?_getD, hy]; exact hu)
      refine ⟨p, hp, ?_⟩
      rw [Nat.zero_add, show dot s x c 0 = 0 from rfl] at z
      rw [hull_len hl] at hd
      have e3 : q + (dot s x c b.length - 0) = p := by rw [← hd]; grind
      rw [e3] at z
      exact z
theorem way_mono {s s' : Sd} {y : Rat} (h : s'.In s) : (wayS s' y).In (wayS s y) := by
  have a := h.1
  have b := h.2
  constructor
  · show s.1 - y ≤ s'.1 - y; grind
  · show s'.2 - y ≤ s.2 - y; grind
theorem way_ok {s : Sd} {y : Rat} (h : s.Ok) : (wayS s y).Ok := by
  show s.1 - y ≤ s.2 - y
  have : s.1 ≤ s.2 := h
  grind
theorem sloGo_mono {t : Tm} {W W' : List Sd} {c : List Rat} (hW : BOk W') (hWW : BIn W' W) : ∀ (r r' : List Sd) (k : Nat) (f f' g : Sd), r.length = r'.length → (∀ (j : Nat) (u : Sd), r[j]? = some u → ∃ u', r'[j]? = some u' ∧ u'.In u ∧ u'.Ok) → f'.In f → sloGo t W c k r f = some g → ∃ g', sloGo t W' c k r' f' = some g' ∧ g'.In g
  | [], [], k, f, f', g, _, _, hf, h => by cases h; exact ⟨f', rfl, hf⟩
  | [], _ :: _, _, _, _, _, hl, _, _, _ => by cases hl
  | _ :: _, [], _, _, _, _, hl, _, _, _ => by cases hl
  | u :: r, u' :: r', k, f, f', g, hl, hr, hf, h => by
    simp only [sloGo] at h ⊢
    cases e : cov W (slopeT k t) with
    | none => rw [e] at h; cases h
    | some P =>
      rw [e] at h
      obtain ⟨P', e', hP⟩ := cov_mono hW hWW e
      obtain ⟨u2, hu2, hi, hok⟩ := hr 0 u rfl
      cases hu2
      rw [e']
      have hm := mul_mono' (cov_ok hW e') (way_ok (y := c.getD k 0) hok) hP (way_mono (y := c.getD k 0) hi)
      refine sloGo_mono hW hWW r r' (k + 1) _ _ g (by simpa using hl) (fun j v hj => hr (j + 1) v (by simpa using hj)) ?_ h
      constructor
      · show f.1 + _ ≤ f'.1 + _
        have a := hf.1
        have b := hm.1
        grind
      · show f'.2 + _ ≤ f.2 + _
        have a := hf.2
        have b := hm.2
        grind
theorem pt_ok (c : List Rat) : BOk (ptB c) := by
  intro s hs
  obtain ⟨y, _, rfl⟩ := List.mem_map.mp hs
  exact Rat.le_refl
theorem hull_bok {b : List Sd} {c : List Sd} (h : BOk b) : BOk (hullB b c) := by
  intro s hs
  obtain ⟨i, hi, e⟩ := List.getElem_of_mem hs
  obtain ⟨u, v, h1, h2, rfl⟩ := hull_get (List.getElem?_eq_some_iff.mpr ⟨hi, e⟩)
  exact hull_okl (h u (List.mem_of_getElem? h1))
theorem hull_inS {u u' v : Sd} (h : u'.In u) : (hullS u' v).In (hullS u v) := by
  constructor
  · show minQ [u.1, v.1] ≤ minQ [u'.1, v.1]
    rcases List.mem_cons.mp (minQ_mem u'.1 [v.1]) with e | e
    · rw [e]; exact Rat.le_trans (minQ_le (by simp)) h.1
    · have e : minQ [u'.1, v.1] = v.1 := by simpa using e
      rw [e]; exact minQ_le (by simp)
  · show maxQ [u'.2, v.2] ≤ maxQ [u.2, v.2]
    rcases List.mem_cons.mp (maxQ_mem u'.2 [v.2]) with e | e
    · rw [e]; exact Rat.le_trans h.2 (le_maxQ (by simp))
    · have e : maxQ [u'.2, v.2] = v.2 := by simpa using e
      rw [e]; exact le_maxQ (by simp)
theorem slo_mono {t : Tm} {b b' : List Sd} {c : List Rat} {g : Sd} (hb' : BOk b') (hl : b'.length = b.length) (hbb : BIn b' b) (h : slo t b c = some g) : ∃ g', slo t b' c = some g' ∧ g'.In g := by
  have hW : BIn (hullB b' (ptB c)) (hullB b (ptB c)) := fun i s hs => by
    obtain ⟨u, v, h1, h2, rfl⟩ := hull_get hs
    obtain ⟨u', hu', hi⟩ := hbb i u h1
    refine ⟨hullS u' v, ?_, hull_inS hi⟩
    unfold hullB
    rw [List.getElem?_map]
    have : (b'.zip (ptB c))[i]? = some (u', v) := by rw [List.getElem?_zip_eq_some]; exact ⟨hu', h2⟩
    rw [this]; rfl
  unfold slo at h ⊢
  cases e : cov (ptB c) t with
  | none => rw [e] at h; cases h
  | some f =>
    rw [e] at h
    dsimp only at h ⊢
    cases e2 : cov (hullB b (ptB c)) t with
    | none => rw [e2] at h; cases h
    | some S =>
      rw [e2] at h
      have h : sloGo t (hullB b (ptB c)) c 0 b f = some g := h
      obtain ⟨S', e3, _⟩ := cov_mono (hull_bok hb') hW e2
      rw [e3]
      exact sloGo_mono (hull_bok hb') hW b b' 0 f f g hl.symm (fun j u hj => by
        obtain ⟨u', h1, h2⟩ := hbb j u hj
        exact ⟨u', h1, h2, hb' u' (List.mem_of_getElem? h1)⟩) ⟨Rat.le_refl, Rat.le_refl⟩ h
theorem sloGo_pt {t : Tm} {W : List Sd} {c : List Rat} : ∀ (r : List Sd) (k : Nat) (f g : Sd), (∀ (j : Nat) (u : Sd), r[j]? = some u → u = (c.getD (k + j) 0, c.getD (k + j) 0)) → sloGo t W c k r f = some g → g = f
  | [], k, f, g, _, h => by cases h; rfl
  | u :: r, k, f, g, hr, h => by
    simp only [sloGo] at h
    cases e : cov W (slopeT k t) with
    | none => rw [e] at h; cases h
    | some P =>
      rw [e] at h
      have hu := hr 0 u rfl
      rw [Nat.add_zero] at hu
      have z : addS f (mulS P (wayS u (c.getD k 0))) = f := by
        subst hu
        have e0 : wayS (c.getD k 0, c.getD k 0) (c.getD k 0) = (0, 0) := by
          show (c.getD k 0 - c.getD k 0, c.getD k 0 - c.getD k 0) = _
          have : c.getD k 0 - c.getD k 0 = 0 := by grind
          rw [this]
        rw [e0]
        have e1 : mulS P (0, 0) = (0, 0) := by
          show arS [P.1 * 0, P.1 * 0, P.2 * 0, P.2 * 0] = _
          rw [Rat.mul_zero, Rat.mul_zero]
          exact ar_same 0 (by simp)
        rw [e1]
        show (f.1 + 0, f.2 + 0) = f
        rw [Rat.add_zero, Rat.add_zero]
      dsimp only at h
      rw [z] at h
      exact sloGo_pt r (k + 1) f g (fun j v hj => by
        rw [show k + 1 + j = k + (j + 1) from by omega]; exact hr (j + 1) v (by simpa using hj)) h
theorem slo_pt {t : Tm} {c : List Rat} {g : Sd} (h : slo t (ptB c) c = some g) : ∃ q, t.w c = some q ∧ g = (q, q) := by
  unfold slo at h
  cases e : cov (ptB c) t with
  | none => rw [e] at h; cases h
  | some f =>
    rw [e] at h
    dsimp only at h
    cases e2 : cov (hullB (ptB c) (ptB c)) t with
    | none => rw [e2] at h; cases h
    | some S =>
      rw [e2] at h
      have h : sloGo t (hullB (ptB c) (ptB c)) c 0 (ptB c) f = some g := h
      have z := sloGo_pt (ptB c) 0 f g (fun j u hj => by
        obtain ⟨y, hy, rfl⟩ := ptB_get hj
        rw [Nat.zero_add, List.getD_eq_getElem?_getD, hy]; rfl) h
      have := cov_pt c t
      unfold ptB at e
      rw [e] at this
      cases hw : t.w c with
      | none => rw [hw] at this; cases this
      | some q => rw [hw] at this; cases this; exact ⟨q, rfl, z⟩
/-! ### the walk -/
theorem bz_mono {m n : Nat} {b : List Sd} (h : Bz m b) (hm : m ≤ n) : Bz n b := fun s hs => ⟨(h s hs).1.mono hm, (h s hs).2.mono hm⟩
theorem bz_pt {m : Nat} {c : List Rat} (h : ∀ x ∈ c, Qz m x) : Bz m (ptB c) := by
  intro s hs
  obtain ⟨y, hy, rfl⟩ := List.mem_map.mp hs
  exact ⟨h y hy, h y hy⟩
theorem bz_hull {m : Nat} {b c : List Sd} (hb : Bz m b) (hc : Bz m c) : Bz m (hullB b c) := by
  intro s hs
  obtain ⟨i, hi, e⟩ := List.getElem_of_mem hs
  obtain ⟨u, v, h1, h2, rfl⟩ := hull_get (List.getElem?_eq_some_iff.mpr ⟨hi, e⟩)
  have a := hb u (List.mem_of_getElem? h1)
  have b := hc v (List.mem_of_getElem? h2)
  exact ⟨qz_min a.1 b.1, qz_max a.2 b.2⟩
local macro_rules | `(tactic| walk_at "cw") => `(tactic| simp -implicitDefEqProofs only [ss_nil, ss_cons, goSs_next, goSs_ret, goSs_exc, goSs_brk, goSs_cont, s_asg', s_asgL2, asgL_ok, see_cons, see1_ow, see1_fr, see1_no, see1_S, ow_0, ow_S, s_app', app_some, app_exc, s_asgT', s_par', s_ret', s_iff', s_whl', s_for', s_rais', s_expr', s_brk', s_cont', s_pass', s_try', s_tryW', tryW_ret, tryW_next, tryW_exc, tryN_ret, tryN_next, tryN_exc, e_k, e_v, e_g, e_tup', e_lst', e_bin', e_neg', e_not', e_and', e_or', e_cmp', e_cmp2', e_ife', e_ix', e_sl', e_call', e_bf', e_isi', e_lc', es_nil, es_cons, and_one, and_cons, or_one, or_cons, eo_no, eo_yes, ec_no, ec_yes, ei_seq, ei_rng1, ei_rng2, ei_zip, ei_enum, gv0, gvS, see0, fl_int, fl_bool, fl_str, fl_none, fl_tup, fl_lst, bind_ok, bind_bad, bind_exc, onR_ok, onR_exc, onR_bad, toB_bool, toB_exc, eq_int, ne_int, lt_int', le_int', gt_int', ge_int', add_int', sub_int', bf_abs, bf_max, bf_min, bf_len, bf_lenT, bf_int, bf_intB, startE, List.map_cons, List.map_nil, List.length_cons, List.length_map, List.length_nil, List.cons_append, List.nil_append, List.set_cons_zero, List.set_cons_succ, List.replicate, Nat.sub_self, Nat.reduceSub, Nat.reduceAdd, if_true, if_false, Bool.false_eq_true, reduceIte, ixT0, ixT1, ixT2, outR_ret, outR_next, outR_exc, setT, setMany, wipeE, rng1_ok, rng2_ok, not_ok, neg_ok, and_t, and_f, and_ok, and_x, or_t, or_f, or_ok, or_x, ife_b, Bool.not_true, Bool.not_false, Bool.true_and, Bool.and_true, Bool.false_and, Bool.and_false, Bool.true_or, Bool.or_true, Bool.false_or, Bool.or_false, decide_true, decide_false, beq_self_eq_true, Int.reduceBEq, Int.reduceLT, Int.reduceLE, Int.reduceAdd, Int.reduceSub, Int.reduceNeg, Int.cast_ofNat_Int, fl_fr, eq_fr, ne_fr, ix_fr0, ix_fr1, ite_self, lc_nil, lc_cons, consR_s, consR_n, bf_all, bf_any, bf_sum, bf_tup, ofO_some, bls_nil, bls_cons, ints_nil, ints_cons, Option.map_some, seq_lst, seq_tup, ixL0, ixL1, ixL2, ixL3, isi_bi, isi_bb, isi_ii, isi_ib, isi_tt, List.all_cons, List.all_nil, id, pw_10_11, pw_10_12, pw_10_13, pw_10_30, pw_10_40, pw_10_6, pw_10_9, pw_2_8, pw_2_10, pw_2_12, pw_2_13, pw_2_14, pw_2_15, pw_2_16, pw_2_17, pw_2_18, pw_2_20, pw_2_24, pw_2_25, pw_2_27, pw_2_28, pw_2_30, pw_2_32, pw_2_34, pw_2_36, pw_2_38, pw_2_40, pw_2_41, pw_2_42, pw_2_44, pw_2_50, pw_2_54, pw_2_56, pw_2_60, e_rev', e_mx0', e_ins', rev_lst, s_setC', mod_pos, fdiv_pos, mul_rl, mul_ll, fl_st, ix_st0, ix_st1, cell_ok, drawn_ok, Int.reduceMul, fl_tm, cst0, cst1, fl_box, fl_pt, fl_sd, ix_sd0, ix_sd1, s_ext', is_sd, isn_sd, is_non, isn_non, eqw_num_num, eqw_num_var, eqw_num_power, eqw_num_sum, eqw_num_less, eqw_num_times, eqw_num_over, eqw_var_num, eqw_var_var, eqw_var_power, eqw_var_sum, eqw_var_less, eqw_var_times, eqw_var_over, eqw_power_num, eqw_power_var, eqw_power_power, eqw_power_sum, eqw_power_less, eqw_power_times, eqw_power_over, eqw_sum_num, eqw_sum_var, eqw_sum_power, eqw_sum_sum, eqw_sum_less, eqw_sum_times, eqw_sum_over, eqw_less_num, eqw_less_var, eqw_less_power, eqw_less_sum, eqw_less_less, eqw_less_times, eqw_less_over, eqw_times_num, eqw_times_var, eqw_times_power, eqw_times_sum, eqw_times_less, eqw_times_times, eqw_times_over, eqw_over_num, eqw_over_var, eqw_over_power, eqw_over_sum, eqw_over_less, eqw_over_times, eqw_over_over])
local macro_rules | `(tactic| walk_at "cw*") => `(tactic| simp -implicitDefEqProofs only [*, ss_nil, ss_cons, goSs_next, goSs_ret, goSs_exc, goSs_brk, goSs_cont, s_asg', s_asgL2, asgL_ok, see_cons, see1_ow, see1_fr, see1_no, see1_S, ow_0, ow_S, s_app', app_some, app_exc, s_asgT', s_par', s_ret', s_iff', s_whl', s_for', s_rais', s_expr', s_brk', s_cont', s_pass', s_try', s_tryW', tryW_ret, tryW_next, tryW_exc, tryN_ret, tryN_next, tryN_exc, e_k, e_v, e_g, e_tup', e_lst', e_bin', e_neg', e_not', e_and', e_or', e_cmp', e_cmp2', e_ife', e_ix', e_sl', e_call', e_bf', e_isi', e_lc', es_nil, es_cons, and_one, and_cons, or_one, or_cons, eo_no, eo_yes, ec_no, ec_yes, ei_seq, ei_rng1, ei_rng2, ei_zip, ei_enum, gv0, gvS, see0, fl_int, fl_bool, fl_str, fl_none, fl_tup, fl_lst, bind_ok, bind_bad, bind_exc, onR_ok, onR_exc, onR_bad, toB_bool, toB_exc, eq_int, ne_int, lt_int', le_int', gt_int', ge_int', add_int', sub_int', bf_abs, bf_max, bf_min, bf_len, bf_lenT, bf_int, bf_intB, startE, List.map_cons, List.map_nil, List.length_cons, List.length_map, List.length_nil, List.cons_append, List.nil_append, List.set_cons_zero, List.set_cons_succ, List.replicate, Nat.sub_self, Nat.reduceSub, Nat.reduceAdd, if_true, if_false, Bool.false_eq_true, reduceIte, ixT0, ixT1, ixT2, outR_ret, outR_next, outR_exc, setT, setMany, wipeE, rng1_ok, rng2_ok, not_ok, neg_ok, and_t, and_f, and_ok, and_x, or_t, or_f, or_ok, or_x, ife_b, Bool.not_true, Bool.not_false, Bool.true_and, Bool.and_true, Bool.false_and, Bool.and_false, Bool.true_or, Bool.or_true, Bool.false_or, Bool.or_false, decide_true, decide_false, beq_self_eq_true, Int.reduceBEq, Int.reduceLT, Int.reduceLE, Int.reduceAdd, Int.reduceSub, Int.reduceNeg, Int.cast_ofNat_Int, fl_fr, eq_fr, ne_fr, ix_fr0, ix_fr1, ite_self, lc_nil, lc_cons, consR_s, consR_n, bf_all, bf_any, bf_sum, bf_tup, ofO_some, bls_nil, bls_cons, ints_nil, ints_cons, Option.map_some, seq_lst, seq_tup, ixL0, ixL1, ixL2, ixL3, isi_bi, isi_bb, isi_ii, isi_ib, isi_tt, List.all_cons, List.all_nil, id, pw_10_11, pw_10_12, pw_10_13, pw_10_30, pw_10_40, pw_10_6, pw_10_9, pw_2_8, pw_2_10, pw_2_12, pw_2_13, pw_2_14, pw_2_15, pw_2_16, pw_2_17, pw_2_18, pw_2_20, pw_2_24, pw_2_25, pw_2_27, pw_2_28, pw_2_30, pw_2_32, pw_2_34, pw_2_36, pw_2_38, pw_2_40, pw_2_41, pw_2_42, pw_2_44, pw_2_50, pw_2_54, pw_2_56, pw_2_60, e_rev', e_mx0', e_ins', rev_lst, s_setC', mod_pos, fdiv_pos, mul_rl, mul_ll, fl_st, ix_st0, ix_st1, cell_ok, drawn_ok, Int.reduceMul, fl_tm, cst0, cst1, fl_box, fl_pt, fl_sd, ix_sd0, ix_sd1, s_ext', is_sd, isn_sd, is_non, isn_non, eqw_num_num, eqw_num_var, eqw_num_power, eqw_num_sum, eqw_num_less, eqw_num_times, eqw_num_over, eqw_var_num, eqw_var_var, eqw_var_power, eqw_var_sum, eqw_var_less, eqw_var_times, eqw_var_over, eqw_power_num, eqw_power_var, eqw_power_power, eqw_power_sum, eqw_power_less, eqw_power_times, eqw_power_over, eqw_sum_num, eqw_sum_var, eqw_sum_power, eqw_sum_sum, eqw_sum_less, eqw_sum_times, eqw_sum_over, eqw_less_num, eqw_less_var, eqw_less_power, eqw_less_sum, eqw_less_less, eqw_less_times, eqw_less_over, eqw_times_num, eqw_times_var, eqw_times_power, eqw_times_sum, eqw_times_less, eqw_times_times, eqw_times_over, eqw_over_num, eqw_over_var, eqw_over_power, eqw_over_sum, eqw_over_less, eqw_over_times, eqw_over_over])

section
variable {T : Nat → Option Def} [Lay b1 T] [Lay b2 T] [Lay b3 T] [Lay b4 T] [Lay b5 T] [Lay b6 T]
def sloB : Ss := (.cons (.asg 7 [] (.call 51 (.cons (.call 39 (.cons (.v 0) (.cons (.v 5) .nil))) (.cons (.v 4) .nil)))) (.cons (.iff [] (.cmp .is (.v 7) (.k .none)) (.cons (.ret [] (.k .none)) .nil) .nil) (.cons (.asg 8 [] (.tup (.cons (.call 18 (.cons (.ix (.v 6) (.k (.int 0))) (.cons (.ix (.v 2) (.v 5)) .nil))) (.cons (.call 18 (.cons (.ix (.v 6) (.k (.int 1))) (.cons (.ix (.v 2) (.v 5)) .nil))) .nil)))) (.cons (.asg 3 [] (.call 27 (.cons (.v 3) (.cons (.call 29 (.cons (.v 7) (.cons (.v 8) .nil))) .nil)))) .nil))))
theorem slo_loop' {m v : Nat} {W b : List Sd} {c : List Rat} {t : Tm} (n : Nat) (hW : Bz m W) (hWo : BOk W) (hc : ∀ x ∈ c, Qz m x) (ht : t.shp v) (hv : v ≤ W.length) {B : Nat} (hs : SB t m B) (hB : 11 * B ≤ 134217728) (hd : t.dep ≤ 18) (hn : 3 * t.dep ≤ n) :
    ∀ (r : List Sd) (k : Nat) (f : Sd) (z : Nat) (s5 s6 s7 s8 : Sl), Bz m r → Qz z f.1 ∧ Qz z f.2 → z + r.length * (2 * B + 1) ≤ 10 * B → k + r.length ≤ c.length →
    (∃ g, sloGo t W c k r f = some g ∧ (∃ s5' s6' s7' s8', forS (evc T (n + 6)) (.many [5, 6]) sloB (enumL k (r.map sd)) [.fr (tmD t), .fr (boxD b), .fr (ptD c), .fr (sd f), .fr (boxD W), s5, s6, s7, s8] = .next [.fr (tmD t), .fr (boxD b), .fr (ptD c), .fr (sd g), .fr (boxD W), s5', s6', s7', s8']) ∧ Qz (z + r.length * (2 * B + 1)) g.1 ∧ Qz (z + r.length * (2 * B + 1)) g.2) ∨
    (sloGo t W c k r f = none ∧ forS (evc T (n + 6)) (.many [5, 6]) sloB (enumL k (r.map sd)) [.fr (tmD t), .fr (boxD b), .fr (ptD c), .fr (sd f), .fr (boxD W), s5, s6, s7, s8] = .ret .none)
  | [], k, f, z, s5, s6, s7, s8, _, hf, _, _ => .inl ⟨f, rfl, ⟨s5, s6, s7, s8, by simp only [List.map_nil, enumL]; rw [for_nil]⟩, by simpa using hf⟩
  | s :: r, k, f, z, s5, s6, s7, s8, hr, hf, hz, hk => by
    have hsz := hs.s k
    have hst := hs.z
    have hsc := hs.c
    have hsd := slope_dep k t
    have zs := hr s List.mem_cons_self
    have hkc : k < c.length := by simp at hk; omega
    have hck : c[k]? = some (c.getD k 0) := by simp [hkc]
    have zc := hc _ (List.mem_of_getElem? hck)
    have so := slope_ok (T := T) (m := m) k t (n + 1) ht (by omega) hd (by omega)
    have co := cover_ok (T := T) hW hWo hv (slopeT k t) n (shp_slope k ht) (by omega) (by omega)
    have ixc : ixR (ptD c) (.int k) = .ok (fr (c.getD k 0)) := ixp_ok hck
    simp only [List.map_cons, enumL, sloGo]
    simp only [List.length_cons] at hz hk
    cases e : cov W (slopeT k t) with
    | none =>
      refine .inr ⟨rfl, for_ret (e2 := [.fr (tmD t), .fr (boxD b), .fr (ptD c), .fr (sd f), .fr (boxD W), .fr (.int (k : Int)), .fr (sd s), s7, s8]) rfl ?_⟩
      rw [e] at co
      simp only [osD] at co
      unfold sloB
      walk_at "cw"
      rw [so]
      walk_at "cw"
      rw [co]
      walk_at "cw"
    | some P =>
      have zP := cov_qz hW e
      have zP1 := zP.1.mono (show _ ≤ B by omega)
      have zP2 := zP.2.mono (show _ ≤ B by omega)
      have w1 := (zs.1.sub zc).mono (show _ ≤ B by omega)
      have w2 := (zs.2.sub zc).mono (show _ ≤ B by omega)
      have pr := product_of_ok (T := T) (n + 2) zP1 zP2 w1 w2 (by omega)
      have zm : Qz (B + B) (mulS P (wayS s (c.getD k 0))).1 ∧ Qz (B + B) (mulS P (wayS s (c.getD k 0))).2 := by
        refine ar_qz ?_
        simp only [List.forall_mem_cons, List.not_mem_nil, false_imp_iff, implies_true, and_true]
        exact ⟨zP1.mul w1, zP1.mul w2, zP2.mul w1, zP2.mul w2⟩
      have hr1 : 2 * B + 1 ≤ (r.length + 1) * (2 * B + 1) := Nat.le_mul_of_pos_left _ (by omega)
      have sm := sum_of_ok (T := T) (n + 2) hf.1 hf.2 zm.1 zm.2 (by omega)
      have step : ∀ q, forS (evc T (n + 6)) (.many [5, 6]) sloB (.tuple [.int (k : Int), sd s] :: q) [.fr (tmD t), .fr (boxD b), .fr (ptD c), .fr (sd f), .fr (boxD W), s5, s6, s7, s8] =
          forS (evc T (n + 6)) (.many [5, 6]) sloB q [.fr (tmD t), .fr (boxD b), .fr (ptD c), .fr (sd (addS f (mulS P (wayS s (c.getD k 0))))), .fr (boxD W), .fr (.int (k : Int)), .fr (sd s), .fr (sd P), .fr (sd (wayS s (c.getD k 0)))] := by
        intro q
        refine for_step (e2 := [.fr (tmD t), .fr (boxD b), .fr (ptD c), .fr (sd f), .fr (boxD W), .fr (.int (k : Int)), .fr (sd s), s7, s8]) rfl ?_
        rw [e] at co
        simp only [osD] at co
        unfold sloB
        walk_at "cw"
        rw [so]
        walk_at "cw"
        rw [co]
        walk_at "cw"
        rw [ixc]
        walk_at "cw"
        rw [minus_ok _ zs.1 zc (by omega), minus_ok _ zs.2 zc (by omega)]
        walk_at "cw"
        rw [show evc T (n + 6) 29 [sd P, .tuple [fr (s.1 - c.getD k 0), fr (s.2 - c.getD k 0)]] = _ from pr]
        walk_at "cw"
        rw [show evc T (n + 6) 27 [sd f, st (minQ [P.1 * (s.1 - c.getD k 0), P.1 * (s.2 - c.getD k 0), P.2 * (s.1 - c.getD k 0), P.2 * (s.2 - c.getD k 0)]) (maxQ [P.1 * (s.1 - c.getD k 0), P.1 * (s.2 - c.getD k 0), P.2 * (s.1 - c.getD k 0), P.2 * (s.2 - c.getD k 0)])] = _ from sm]
        walk_at "cw"
        rfl
      have ih := slo_loop' (b := b) n hW hWo hc ht hv hs hB hd hn r (k + 1) (addS f (mulS P (wayS s (c.getD k 0)))) (z + (2 * B + 1)) (.fr (.int (k : Int))) (.fr (sd s)) (.fr (sd P)) (.fr (sd (wayS s (c.getD k 0)))) (fun q hq => hr q (List.mem_cons_of_mem _ hq)) ⟨(hf.1.add zm.1).mono (by omega), (hf.2.add zm.2).mono (by omega)⟩ (by rw [Nat.add_mul] at hz; omega) (by omega)
      dsimp only
      rw [step]
      rcases ih with ⟨g, h1, h2, h3⟩ | ⟨h1, h2⟩
      · exact .inl ⟨g, h1, h2, by rw [show (s :: r).length = r.length + 1 from rfl, show z + (r.length + 1) * (2 * B + 1) = z + (2 * B + 1) + r.length * (2 * B + 1) from by rw [Nat.add_mul]; omega]; exact h3⟩
      · exact .inr ⟨h1, h2⟩
theorem sloped_ok' {m v : Nat} {b : List Sd} {c : List Rat} {t : Tm} (n : Nat) (hb : Bz m b) (hbo : BOk b) (hc : ∀ x ∈ c, Qz m x) (ht : t.shp v) (hv : v ≤ b.length) (hl : b.length = c.length) (h4 : b.length ≤ 4) {B : Nat} (hs : SB t m B) (hB : 11 * B ≤ 134217728) (hd : t.dep ≤ 18) (hn : 3 * t.dep ≤ n) :
    evc T (n + 7) 52 [tmD t, boxD b, ptD c] = .ok (osD (slo t b c)) ∧ ∀ g, slo t b c = some g → Qz (10 * B) g.1 ∧ Qz (10 * B) g.2 := by
  have hp := t.dep_pos
  have hcp := bz_pt hc
  have hW := bz_hull hb hcp
  have hWo : BOk (hullB b (ptB c)) := hull_bok hbo
  have hm := hs.z
  have c1 := cover_ok (T := T) hcp (pt_ok c) (v := v) (by unfold ptB; simp; omega) t n ht (by omega) (by omega)
  have c2 := cover_ok (T := T) hW hWo (v := v) (by rw [hull_len hl]; exact hv) t n ht (by omega) (by omega)
  have ap := at_point_ok (T := T) (n + 5) (p := c)
  have hu := hull_ok (T := T) (n + 3) hb hcp (by omega) (by omega)
  have en : enumR (boxD b) = .ok (enumL 0 (b.map sd)) := enum_tup (by simp [sizeLine_eq]; omega)
  rw [evc_b b6 rfl rfl]
  unfold d_sloped slo
  walk_at "cw"
  rw [ap]
  walk_at "cw"
  rw [show boxD (List.map (fun x => (x, x)) c) = boxD (ptB c) from rfl, c1]
  cases e : cov (ptB c) t with
  | none =>
    simp only [osD]
    walk_at "cw"
    exact ⟨by first | trivial | rfl, fun g h => by cases h⟩
  | some f =>
    have zf := cov_qz hcp e
    simp only [osD]
    walk_at "cw"
    rw [ap]
    walk_at "cw"
    rw [show boxD (List.map (fun x => (x, x)) c) = boxD (ptB c) from rfl, hu]
    walk_at "cw"
    rw [c2]
    cases e2 : cov (hullB b (ptB c)) t with
    | none =>
      simp only [osD]
      walk_at "cw"
      exact ⟨by first | trivial | rfl, fun g h => by cases h⟩
    | some S =>
      simp only [osD]
      walk_at "cw"
      rw [en]
      walk_at "cw"
      have hlen : B + b.length * (2 * B + 1) ≤ 10 * B := by
        have : b.length * (2 * B + 1) ≤ 4 * (2 * B + 1) := Nat.mul_le_mul_right _ h4
        omega
      have lp := slo_loop' (T := T) (b := b) n hW hWo hc ht (by rw [hull_len hl]; exact hv) hs hB hd hn b 0 f B .no .no .no .no hb ⟨zf.1.mono (by omega), zf.2.mono (by omega)⟩ hlen (by omega)
      unfold sloB at lp
      rw [show (some S).isNone = false from rfl, if_neg (by decide)]
      rcases lp with ⟨g, h1, ⟨s5, s6, s7, s8, h2⟩, h3⟩ | ⟨h1, h2⟩
      · rw [h2, h1]
        walk_at "cw"
        refine ⟨trivial, fun g' h => ?_⟩
        cases h
        exact ⟨h3.1.mono (by omega), h3.2.mono (by omega)⟩
      · rw [h2, h1]
        walk_at "cw"
        exact ⟨trivial, fun g' h => by cases h⟩
theorem sloped_ok {m v : Nat} {b : List Sd} {c : List Rat} {t : Tm} (n : Nat) (hb : Bz m b) (hbo : BOk b) (hc : ∀ x ∈ c, Qz m x) (ht : t.shp v) (hv : v ≤ b.length) (hl : b.length = c.length) (h4 : b.length ≤ 4) {B : Nat} (hs : 5 * t.dep * (t.sz m + 1) + 2 * m + 10 ≤ B) (hB : 11 * B ≤ 134217728) (hd : t.dep ≤ 18) (hn : 3 * t.dep ≤ n) :
    evc T (n + 7) 52 [tmD t, boxD b, ptD c] = .ok (osD (slo t b c)) ∧ ∀ g, slo t b c = some g → Qz (10 * B) g.1 ∧ Qz (10 * B) g.2 :=
  sloped_ok' n hb hbo hc ht hv hl h4 (SB.of ht hs hB) hB hd hn
end
end Cw

set_option Elab.async false
set_option linter.all false
set_option maxRecDepth 100000
set_option maxHeartbeats 4000000
namespace Cw
open PySem
local macro_rules | `(tactic| walk_at "cw") => `(tactic| simp -implicitDefEqProofs only [ss_nil, ss_cons, goSs_next, goSs_ret, goSs_exc, goSs_brk, goSs_cont, s_asg', s_asgL2, asgL_ok, see_cons, see1_ow, see1_fr, see1_no, see1_S, ow_0, ow_S, s_app', app_some, app_exc, s_asgT', s_par', s_ret', s_iff', s_whl', s_for', s_rais', s_expr', s_brk', s_cont', s_pass', s_try', s_tryW', tryW_ret, tryW_next, tryW_exc, tryN_ret, tryN_next, tryN_exc, e_k, e_v, e_g, e_tup', e_lst', e_bin', e_neg', e_not', e_and', e_or', e_cmp', e_cmp2', e_ife', e_ix', e_sl', e_call', e_bf', e_isi', e_lc', es_nil, es_cons, and_one, and_cons, or_one, or_cons, eo_no, eo_yes, ec_no, ec_yes, ei_seq, ei_rng1, ei_rng2, ei_zip, ei_enum, gv0, gvS, see0, fl_int, fl_bool, fl_str, fl_none, fl_tup, fl_lst, bind_ok, bind_bad, bind_exc, onR_ok, onR_exc, onR_bad, toB_bool, toB_exc, eq_int, ne_int, lt_int', le_int', gt_int', ge_int', add_int', sub_int', bf_abs, bf_max, bf_min, bf_len, bf_lenT, bf_int, bf_intB, startE, List.map_cons, List.map_nil, List.length_cons, List.length_map, List.length_nil, List.cons_append, List.nil_append, List.set_cons_zero, List.set_cons_succ, List.replicate, Nat.sub_self, Nat.reduceSub, Nat.reduceAdd, if_true, if_false, Bool.false_eq_true, reduceIte, ixT0, ixT1, ixT2, outR_ret, outR_next, outR_exc, setT, setMany, wipeE, rng1_ok, rng2_ok, not_ok, neg_ok, and_t, and_f, and_ok, and_x, or_t, or_f, or_ok, or_x, ife_b, Bool.not_true, Bool.not_false, Bool.true_and, Bool.and_true, Bool.false_and, Bool.and_false, Bool.true_or, Bool.or_true, Bool.false_or, Bool.or_false, decide_true, decide_false, beq_self_eq_true, Int.reduceBEq, Int.reduceLT, Int.reduceLE, Int.reduceAdd, Int.reduceSub, Int.reduceNeg, Int.cast_ofNat_Int, fl_fr, eq_fr, ne_fr, ix_fr0, ix_fr1, ite_self, lc_nil, lc_cons, consR_s, consR_n, bf_all, bf_any, bf_sum, bf_tup, ofO_some, bls_nil, bls_cons, ints_nil, ints_cons, Option.map_some, seq_lst, seq_tup, ixL0, ixL1, ixL2, ixL3, isi_bi, isi_bb, isi_ii, isi_ib, isi_tt, List.all_cons, List.all_nil, id, pw_10_11, pw_10_12, pw_10_13, pw_10_30, pw_10_40, pw_10_6, pw_10_9, pw_2_8, pw_2_10, pw_2_12, pw_2_13, pw_2_14, pw_2_15, pw_2_16, pw_2_17, pw_2_18, pw_2_20, pw_2_24, pw_2_25, pw_2_27, pw_2_28, pw_2_30, pw_2_32, pw_2_34, pw_2_36, pw_2_38, pw_2_40, pw_2_41, pw_2_42, pw_2_44, pw_2_50, pw_2_54, pw_2_56, pw_2_60, e_rev', e_mx0', e_ins', rev_lst, s_setC', mod_pos, fdiv_pos, mul_rl, mul_ll, fl_st, ix_st0, ix_st1, cell_ok, drawn_ok, Int.reduceMul, fl_tm, cst0, cst1, fl_box, fl_pt, fl_sd, ix_sd0, ix_sd1, s_ext', is_sd, isn_sd, is_non, isn_non, eqw_num_num, eqw_num_var, eqw_num_power, eqw_num_sum, eqw_num_less, eqw_num_times, eqw_num_over, eqw_var_num, eqw_var_var, eqw_var_power, eqw_var_sum, eqw_var_less, eqw_var_times, eqw_var_over, eqw_power_num, eqw_power_var, eqw_power_power, eqw_power_sum, eqw_power_less, eqw_power_times, eqw_power_over, eqw_sum_num, eqw_sum_var, eqw_sum_power, eqw_sum_sum, eqw_sum_less, eqw_sum_times, eqw_sum_over, eqw_less_num, eqw_less_var, eqw_less_power, eqw_less_sum, eqw_less_less, eqw_less_times, eqw_less_over, eqw_times_num, eqw_times_var, eqw_times_power, eqw_times_sum, eqw_times_less, eqw_times_times, eqw_times_over, eqw_over_num, eqw_over_var, eqw_over_power, eqw_over_sum, eqw_over_less, eqw_over_times, eqw_over_over])
local macro_rules | `(tactic| walk_at "cw*") => `(tactic| simp -implicitDefEqProofs only [*, ss_nil, ss_cons, goSs_next, goSs_ret, goSs_exc, goSs_brk, goSs_cont, s_asg', s_asgL2, asgL_ok, see_cons, see1_ow, see1_fr, see1_no, see1_S, ow_0, ow_S, s_app', app_some, app_exc, s_asgT', s_par', s_ret', s_iff', s_whl', s_for', s_rais', s_expr', s_brk', s_cont', s_pass', s_try', s_tryW', tryW_ret, tryW_next, tryW_exc, tryN_ret, tryN_next, tryN_exc, e_k, e_v, e_g, e_tup', e_lst', e_bin', e_neg', e_not', e_and', e_or', e_cmp', e_cmp2', e_ife', e_ix', e_sl', e_call', e_bf', e_isi', e_lc', es_nil, es_cons, and_one, and_cons, or_one, or_cons, eo_no, eo_yes, ec_no, ec_yes, ei_seq, ei_rng1, ei_rng2, ei_zip, ei_enum, gv0, gvS, see0, fl_int, fl_bool, fl_str, fl_none, fl_tup, fl_lst, bind_ok, bind_bad, bind_exc, onR_ok, onR_exc, onR_bad, toB_bool, toB_exc, eq_int, ne_int, lt_int', le_int', gt_int', ge_int', add_int', sub_int', bf_abs, bf_max, bf_min, bf_len, bf_lenT, bf_int, bf_intB, startE, List.map_cons, List.map_nil, List.length_cons, List.length_map, List.length_nil, List.cons_append, List.nil_append, List.set_cons_zero, List.set_cons_succ, List.replicate, Nat.sub_self, Nat.reduceSub, Nat.reduceAdd, if_true, if_false, Bool.false_eq_true, reduceIte, ixT0, ixT1, ixT2, outR_ret, outR_next, outR_exc, setT, setMany, wipeE, rng1_ok, rng2_ok, not_ok, neg_ok, and_t, and_f, and_ok, and_x, or_t, or_f, or_ok, or_x, ife_b, Bool.not_true, Bool.not_false, Bool.true_and, Bool.and_true, Bool.false_and, Bool.and_false, Bool.true_or, Bool.or_true, Bool.false_or, Bool.or_false, decide_true, decide_false, beq_self_eq_true, Int.reduceBEq, Int.reduceLT, Int.reduceLE, Int.reduceAdd, Int.reduceSub, Int.reduceNeg, Int.cast_ofNat_Int, fl_fr, eq_fr, ne_fr, ix_fr0, ix_fr1, ite_self, lc_nil, lc_cons, consR_s, consR_n, bf_all, bf_any, bf_sum, bf_tup, ofO_some, bls_nil, bls_cons, ints_nil, ints_cons, Option.map_some, seq_lst, seq_tup, ixL0, ixL1, ixL2, ixL3, isi_bi, isi_bb, isi_ii, isi_ib, isi_tt, List.all_cons, List.all_nil, id, pw_10_11, pw_10_12, pw_10_13, pw_10_30, pw_10_40, pw_10_6, pw_10_9, pw_2_8, pw_2_10, pw_2_12, pw_2_13, pw_2_14, pw_2_15, pw_2_16, pw_2_17, pw_2_18, pw_2_20, pw_2_24, pw_2_25, pw_2_27, pw_2_28, pw_2_30, pw_2_32, pw_2_34, pw_2_36, pw_2_38, pw_2_40, pw_2_41, pw_2_42, pw_2_44, pw_2_50, pw_2_54, pw_2_56, pw_2_60, e_rev', e_mx0', e_ins', rev_lst, s_setC', mod_pos, fdiv_pos, mul_rl, mul_ll, fl_st, ix_st0, ix_st1, cell_ok, drawn_ok, Int.reduceMul, fl_tm, cst0, cst1, fl_box, fl_pt, fl_sd, ix_sd0, ix_sd1, s_ext', is_sd, isn_sd, is_non, isn_non, eqw_num_num, eqw_num_var, eqw_num_power, eqw_num_sum, eqw_num_less, eqw_num_times, eqw_num_over, eqw_var_num, eqw_var_var, eqw_var_power, eqw_var_sum, eqw_var_less, eqw_var_times, eqw_var_over, eqw_power_num, eqw_power_var, eqw_power_power, eqw_power_sum, eqw_power_less, eqw_power_times, eqw_power_over, eqw_sum_num, eqw_sum_var, eqw_sum_power, eqw_sum_sum, eqw_sum_less, eqw_sum_times, eqw_sum_over, eqw_less_num, eqw_less_var, eqw_less_power, eqw_less_sum, eqw_less_less, eqw_less_times, eqw_less_over, eqw_times_num, eqw_times_var, eqw_times_power, eqw_times_sum, eqw_times_less, eqw_times_times, eqw_times_over, eqw_over_num, eqw_over_var, eqw_over_power, eqw_over_sum, eqw_over_less, eqw_over_times, eqw_over_over])

def lcorn (b : List Sd) : List (List Rat) := b.foldl (fun l s => (l.map fun p => p ++ [s.1]) ++ (l.map fun p => p ++ [s.2])) [[]]
section
variable {T : Nat → Option Def} [Lay b1 T] [Lay b2 T] [Lay b3 T] [Lay b4 T] [Lay b5 T] [Lay b6 T]
theorem side_ok (n : Nat) {m : Int} (h : 0 ≤ m) : ∃ s : Sd, evc T (n + 2) 1036 [.int m] = .ok (sd s) ∧ s.Ok ∧ Qz 20 s.1 ∧ Qz 20 s.2 := by
  have lo : Qz 6 (Rat.divInt (m % 41 - 20) (1 + m / 64 % 4)) := Qz.divInt (by unfold Sz; omega) (by unfold Sz; omega) (by decide)
  generalize hl : Rat.divInt (m % 41 - 20) (1 + m / 64 % 4) = l at lo
  have e1 := made_ok (T := T) n 1 (u := 1 + m / 512 % 50) (by omega)
  have e2 := made_ok (T := T) n (m / 512 % 30) (u := 1) (by omega)
  have e3 := made_ok (T := T) n (m % 41 - 20) (u := 1 + m / 64 % 4) (by omega)
  rw [hl] at e3
  have nn : ∀ a b : Int, 0 ≤ a → 0 < b → (0 : Rat) ≤ Rat.divInt a b := by
    intro a b ha hb
    rw [Rat.divInt_eq_div, Rat.div_def]
    exact Rat.mul_nonneg (Rat.intCast_nonneg.mpr ha) (Rat.le_of_lt (Rat.inv_pos.mpr (Rat.intCast_pos.mpr hb)))
  obtain ⟨d1, x1, w, rfl, hw0, hwz⟩ := ix_all (l := [.tuple [.int 0, .int 1], fr (Rat.divInt 1 (1 + m / 512 % 50)), fr (Rat.divInt (m / 512 % 30) 1)]) (i := m / 65536 % 3) (by omega) (by simp only [List.length_cons, List.length_nil]; omega)
    (P := fun d => ∃ w : Rat, d = fr w ∧ 0 ≤ w ∧ Qz 7 w) (by
      simp only [List.forall_mem_cons, List.not_mem_nil, false_imp_iff, implies_true, and_true]
      exact ⟨⟨0, rfl, by decide, qz0.mono (by decide)⟩, ⟨_, rfl, nn _ _ (by decide) (by omega), Qz.divInt (by unfold Sz; decide) (by unfold Sz; omega) (by decide)⟩, ⟨_, rfl, nn _ _ (by omega) (by decide), Qz.divInt (by unfold Sz; omega) (by unfold Sz; decide) (by decide)⟩⟩)
  refine ⟨(l, l + w), ?_, ?_, lo.mono (by decide), (lo.add hwz).mono (by decide)⟩
  · rw [evc_b b6 rfl rfl]
    unfold d_law_side
    walk_at "cw"
    rw [e3]
    walk_at "cw"
    rw [e1, e2]
    walk_at "cw"
    rw [x1]
    walk_at "cw"
    rw [mul_sz lo.num hwz.den (by decide), mul_sz hwz.num lo.den (by decide), mul_sz lo.den hwz.den (by decide)]
    walk_at "cw"
    rw [made_ok _ _ (Int.mul_pos (den_pos l) (den_pos w)), ← add_div]
    walk_at "cw"
    rfl
  · show l ≤ l + w
    grind
theorem lawcorn_ok (n : Nat) {b : List Sd} (hl : b.length ≤ 8) : evc T (n + 1) 1037 [boxD b] = .ok (.list ((lcorn b).map ptD)) := by
  have key : ∀ (l : List Sd) (acc : List (List Rat)) (s2 : Sl), (∀ q ∈ acc, q.length + l.length ≤ 8) → acc.length * 2 ^ l.length ≤ 256 →
      ∃ s2', forS (evc T n) (.one 2) (.cons (.asg 1 [] (.bin .add (.lc [3] (.bin .add (.v 3) (.tup (.cons (.ix (.v 2) (.k (.int 0))) .nil))) (.one 3) (.seq (.v 1)) .no) (.lc [3] (.bin .add (.v 3) (.tup (.cons (.ix (.v 2) (.k (.int 1))) .nil))) (.one 3) (.seq (.v 1)) .no))) .nil) (l.map sd) [.fr (boxD b), .fr (.list (acc.map ptD)), s2, .no] =
        .next [.fr (boxD b), .fr (.list ((l.foldl (fun l s => (l.map fun p => p ++ [s.1]) ++ (l.map fun p => p ++ [s.2])) acc).map ptD)), s2', .no] := by
    intro l
    induction l with
    | nil => intro acc s2 _ _; exact ⟨s2, by rw [List.map_nil, for_nil]; rfl⟩
    | cons s l ih =>
      intro acc s2 ha hz
      have h1 : 2 ^ (l.length + 1) = 2 ^ l.length * 2 := Nat.pow_succ ..
      have h2 : 1 ≤ 2 ^ l.length := Nat.one_le_two_pow
      have h3 : acc.length * 2 ≤ acc.length * 2 ^ (l.length + 1) := Nat.mul_le_mul_left _ (by omega)
      have h4 : (acc.length + acc.length) * 2 ^ l.length = acc.length * 2 ^ (l.length + 1) := by rw [h1, ← Nat.mul_two, Nat.mul_assoc, Nat.mul_comm 2]
      simp only [List.length_cons] at hz ha
      obtain ⟨s2', z⟩ := ih ((acc.map fun p => p ++ [s.1]) ++ (acc.map fun p => p ++ [s.2])) (.fr (sd s)) (by
        intro q hq
        rcases List.mem_append.mp hq with hq | hq
        · obtain ⟨p, hp, rfl⟩ := List.mem_map.mp hq
          have := ha p hp
          simp; omega
        · obtain ⟨p, hp, rfl⟩ := List.mem_map.mp hq
          have := ha p hp
          simp; omega) (by simp only [List.length_append, List.length_map]; omega)
      refine ⟨s2', ?_⟩
      rw [List.map_cons, List.foldl_cons, ← z]
      refine for_step (e2 := [.fr (boxD b), .fr (.list (acc.map ptD)), .fr (sd s), .no]) rfl ?_
      walk_at "cw"
      rw [lc_fun ptD (fun p => ptD (p ++ [s.1])) (by
        intro p hp
        refine ⟨_, rfl, ?_⟩
        walk_at "cw"
        unfold ptD
        rw [add_tup (by have := ha p hp; simp [sizeLine_eq]; omega)]
        simp), lc_fun ptD (fun p => ptD (p ++ [s.2])) (by
        intro p hp
        refine ⟨_, rfl, ?_⟩
        walk_at "cw"
        unfold ptD
        rw [add_tup (by have := ha p hp; simp [sizeLine_eq]; omega)]
        simp)]
      walk_at "cw"
      rw [add_lst (by simp; rw [sizeLine_eq]; omega)]
      walk_at "cw"
      simp [List.map_map, Function.comp_def]
  obtain ⟨s2, z⟩ := key b [[]] .no (by simpa using hl) (by
    have : 2 ^ b.length ≤ 2 ^ 8 := Nat.pow_le_pow_right (by decide) hl
    simp; omega)
  rw [evc_b b6 rfl rfl]
  unfold d_law_corners
  walk_at "cw"
  rw [show seqR (boxD b) = .ok (b.map sd) from rfl]
  walk_at "cw"
  rw [show (.list [.tuple []] : D) = .list ([[]].map ptD) from rfl, z]
  walk_at "cw"
  rfl
end
/-! ### boxes and points by their places -/
theorem PIn.of_zip {p : List Rat} {b : List Sd} (hl : p.length = b.length) (h : ∀ q ∈ p.zip b, q.2.Has q.1) : PIn p b := fun i s hs => by
  have hi := (List.getElem?_eq_some_iff.mp hs).1
  have hp : p[i]? = some p[i] := List.getElem?_eq_getElem (by omega)
  refine ⟨p[i], hp, h (p[i], s) ?_⟩
  exact List.mem_of_getElem? (i := i) (List.getElem?_zip_eq_some.mpr ⟨hp, hs⟩)
end Cw

set_option Elab.async false
set_option linter.all false
set_option maxRecDepth 100000
set_option maxHeartbeats 4000000
namespace Cw
open PySem
/-! ### sums of numbers times variables -/
def lin (q0 : Rat) (q : Nat → Rat) : Nat → Tm
  | 0 => .num q0
  | n + 1 => .bin .sum (lin q0 q n) (.bin .times (.num (q n)) (.var n))
def lv (q0 : Rat) (q : Nat → Rat) (p : List Rat) : Nat → Rat
  | 0 => q0
  | n + 1 => lv q0 q p n + q n * p.getD n 0
theorem lin_w {q0 : Rat} {q : Nat → Rat} {p : List Rat} : ∀ {n : Nat}, n ≤ p.length → (lin q0 q n).w p = some (lv q0 q p n)
  | 0, _ => rfl
  | n + 1, h => by
    have e : p[n]? = some (p.getD n 0) := by simp [show n < p.length by omega]
    have ih := lin_w (q0 := q0) (q := q) (p := p) (n := n) (by omega)
    simp only [lin, Tm.w, ih, e, Bo.ap, lv]
theorem lin_dot {q0 : Rat} {q : Nat → Rat} {p c : List Rat} : ∀ n : Nat, lv q0 q p n - lv q0 q c n = dot q p c n
  | 0 => by simp only [lv, dot]; grind
  | n + 1 => by
    have := lin_dot (q0 := q0) (q := q) (p := p) (c := c) n
    simp only [lv, dot]
    rw [← this]; grind
theorem timesT_nn (p q : Rat) : timesT (.num p) (.num q) = .num (p * q) := by
  unfold timesT Tm.isC
  by_cases h0 : p = 0
  · subst h0; simp [Rat.zero_mul]
  · by_cases h1 : q = 0
    · subst h1; simp [Rat.mul_zero]
    · by_cases h2 : p = 1
      · subst h2; simp [h0, h1, Rat.one_mul]
      · by_cases h3 : q = 1
        · subst h3; simp [h0, h1, h2, Rat.mul_one]
        · simp [h0, h1, h2, h3]
theorem sumT_nn (p q : Rat) : sumT (.num p) (.num q) = .num (p + q) := by
  unfold sumT Tm.isC
  by_cases h0 : p = 0
  · subst h0; simp [Rat.zero_add]
  · by_cases h1 : q = 0
    · subst h1; simp [h0, Rat.add_zero]
    · simp [h0, h1]
theorem timesT_0 (t : Tm) : timesT (.num 0) t = .num 0 := by unfold timesT Tm.isC; simp
theorem lin_slope {q0 : Rat} {q : Nat → Rat} (k : Nat) : ∀ n : Nat, slopeT k (lin q0 q n) = .num (if k < n then q k else 0)
  | 0 => by simp [lin, slopeT]
  | n + 1 => by
    have e : slopeT k (.var n) = .num (if n = k then 1 else 0) := by simp only [slopeT]; split <;> rfl
    simp only [lin, slopeT] at e ⊢
    rw [lin_slope k n, timesT_0, e, timesT_nn, sumT_nn, sumT_nn]
    congr 1
    by_cases h : k < n
    · rw [if_pos h, if_neg (show ¬ n = k by omega), if_pos (show k < n + 1 by omega)]; grind
    · by_cases h2 : n = k
      · subst h2; rw [if_neg h, if_pos rfl, if_pos (show n < n + 1 by omega)]; grind
      · rw [if_neg h, if_neg h2, if_neg (show ¬ k < n + 1 by omega)]; grind
theorem lin_cov {q0 : Rat} {q : Nat → Rat} {W : List Sd} : ∀ {n : Nat}, n ≤ W.length → ∃ s, cov W (lin q0 q n) = some s
  | 0, _ => ⟨_, rfl⟩
  | n + 1, h => by
    obtain ⟨s, hs⟩ := lin_cov (q0 := q0) (q := q) (W := W) (n := n) (by omega)
    have e : W[n]? = some W[n] := List.getElem?_eq_getElem (by omega)
    exact ⟨_, by simp only [lin, cov, hs, e, joinS]; rfl⟩
theorem lin_shp {q0 : Rat} {q : Nat → Rat} {v : Nat} : ∀ {n : Nat}, n ≤ v → (lin q0 q n).shp v
  | 0, _ => trivial
  | n + 1, h => ⟨lin_shp (by omega), trivial, by show n < v; omega⟩
theorem lin_dep {q0 : Rat} {q : Nat → Rat} : ∀ n : Nat, (lin q0 q n).dep ≤ n + 2
  | 0 => by simp [lin, Tm.dep]
  | n + 1 => by have := lin_dep (q0 := q0) (q := q) n; simp only [lin, Tm.dep]; omega
theorem lin_sz {m : Nat} {q0 : Rat} {q : Nat → Rat} (h0 : Qz 40 q0) (hq : ∀ j, Qz 40 (q j)) : ∀ n : Nat, (lin q0 q n).sz m ≤ 40 + n * (m + 42)
  | 0 => by simp only [lin, Tm.sz]; exact Nat.le_trans (qb_le h0) (by omega)
  | n + 1 => by
    have a := lin_sz (m := m) h0 hq n
    have b := qb_le (hq n)
    simp only [lin, Tm.sz]
    rw [Nat.add_mul]; omega
def sumE (q : Nat → Rat) (c : List Rat) : Nat → List Rat → Rat
  | _, [] => 0
  | k, e :: r => q k * (e - c.getD k 0) + sumE q c (k + 1) r
theorem dot_ext {q : Nat → Rat} {x y c : List Rat} : ∀ {n : Nat}, (∀ j, j < n → x.getD j 0 = y.getD j 0) → dot q x c n = dot q y c n
  | 0, _ => rfl
  | n + 1, h => by simp only [dot]; rw [dot_ext (fun j hj => h j (by omega)), h n (by omega)]
theorem sumE_dot {q : Nat → Rat} {c : List Rat} : ∀ (e pre : List Rat), sumE q c pre.length e = dot q (pre ++ e) c (pre.length + e.length) - dot q (pre ++ e) c pre.length
  | [], pre => by simp only [sumE, List.append_nil, List.length_nil, Nat.add_zero]; grind
  | e :: r, pre => by
    have ih := sumE_dot (q := q) (c := c) r (pre ++ [e])
    rw [List.append_assoc, List.singleton_append, List.length_append, List.length_singleton] at ih
    simp only [sumE]
    rw [ih]
    have e1 : (pre ++ e :: r).getD pre.length 0 = e := by simp
    have e2 : dot q (pre ++ e :: r) c (pre.length + 1) = dot q (pre ++ e :: r) c pre.length + q pre.length * (e - c.getD pre.length 0) := by simp only [dot]; rw [e1]
    rw [e2, show pre.length + 1 + r.length = pre.length + (e :: r).length from by simp; omega]
    grind
theorem mul_ends (q w1 w2 : Rat) : (mulS (q, q) (w1, w2)).1 ∈ [q * w1, q * w2] ∧ (mulS (q, q) (w1, w2)).2 ∈ [q * w1, q * w2] := by
  have a := minQ_mem (q * w1) [q * w2, q * w1, q * w2]
  have b := maxQ_mem (q * w1) [q * w2, q * w1, q * w2]
  simp only [List.mem_cons, List.not_mem_nil, or_false] at a b
  constructor
  · show minQ [q * w1, q * w2, q * w1, q * w2] ∈ _
    simp only [List.mem_cons, List.not_mem_nil, or_false]; grind
  · show maxQ [q * w1, q * w2, q * w1, q * w2] ∈ _
    simp only [List.mem_cons, List.not_mem_nil, or_false]; grind
/-- a row of ends -/
def Ends : List Rat → List Sd → Prop
  | [], [] => True
  | e :: es, s :: r => (e = s.1 ∨ e = s.2) ∧ Ends es r
  | _, _ => False
theorem lin_go {q0 : Rat} {q : Nat → Rat} {n : Nat} {W : List Sd} {c : List Rat} : ∀ (r : List Sd) (k : Nat) (f : Sd), k + r.length = n → ∃ g, sloGo (lin q0 q n) W c k r f = some g ∧ (∃ e, Ends e r ∧ g.1 = f.1 + sumE q c k e) ∧ (∃ e, Ends e r ∧ g.2 = f.2 + sumE q c k e)
  | [], k, f, _ => ⟨f, rfl, ⟨[], trivial, by simp only [sumE]; grind⟩, ⟨[], trivial, by simp only [sumE]; grind⟩⟩
  | s :: r, k, f, h => by
    have hk : k < n := by simp at h; omega
    obtain ⟨g, g1, ⟨e, e1, e2⟩, ⟨e', e3, e4⟩⟩ := lin_go (q0 := q0) (q := q) (n := n) (W := W) (c := c) r (k + 1) (addS f (mulS (q k, q k) (wayS s (c.getD k 0)))) (by simp at h; omega)
    obtain ⟨m1, m2⟩ := mul_ends (q k) (s.1 - c.getD k 0) (s.2 - c.getD k 0)
    refine ⟨g, ?_, ?_, ?_⟩
    · simp only [sloGo, lin_slope, if_pos hk, cov]
      exact g1
    · have z : g.1 = f.1 + (mulS (q k, q k) (s.1 - c.getD k 0, s.2 - c.getD k 0)).1 + sumE q c (k + 1) e := e2
      simp only [List.mem_cons, List.not_mem_nil, or_false] at m1
      rcases m1 with m1 | m1
      · exact ⟨s.1 :: e, ⟨.inl rfl, e1⟩, by simp only [sumE]; rw [z, m1]; grind⟩
      · exact ⟨s.2 :: e, ⟨.inr rfl, e1⟩, by simp only [sumE]; rw [z, m1]; grind⟩
    · have z : g.2 = f.2 + (mulS (q k, q k) (s.1 - c.getD k 0, s.2 - c.getD k 0)).2 + sumE q c (k + 1) e' := e4
      simp only [List.mem_cons, List.not_mem_nil, or_false] at m2
      rcases m2 with m2 | m2
      · exact ⟨s.1 :: e', ⟨.inl rfl, e3⟩, by simp only [sumE]; rw [z, m2]; grind⟩
      · exact ⟨s.2 :: e', ⟨.inr rfl, e3⟩, by simp only [sumE]; rw [z, m2]; grind⟩
theorem ends_corn : ∀ (r : List Sd) (e : List Rat) (acc : List (List Rat)) (p : List Rat), Ends e r → p ∈ acc → p ++ e ∈ r.foldl (fun l s => (l.map fun p => p ++ [s.1]) ++ (l.map fun p => p ++ [s.2])) acc
  | [], [], acc, p, _, h => by simpa using h
  | [], _ :: _, _, _, h, _ => h.elim
  | _ :: _, [], _, _, h, _ => h.elim
  | s :: r, e :: es, acc, p, h, hp => by
    rw [List.foldl_cons, show p ++ e :: es = (p ++ [e]) ++ es from by simp]
    refine ends_corn r es _ _ h.2 ?_
    rcases h.1 with q | q
    · rw [q]; exact List.mem_append_left _ (List.mem_map.mpr ⟨p, hp, rfl⟩)
    · rw [q]; exact List.mem_append_right _ (List.mem_map.mpr ⟨p, hp, rfl⟩)
theorem ends_len : ∀ {e : List Rat} {r : List Sd}, Ends e r → e.length = r.length
  | [], [], _ => rfl
  | [], _ :: _, h => h.elim
  | _ :: _, [], h => h.elim
  | _ :: es, _ :: r, h => by simp [ends_len h.2]
theorem corn_mem_len : ∀ (r : List Sd) (acc : List (List Rat)) (k : Nat), (∀ p ∈ acc, p.length = k) → ∀ p ∈ r.foldl (fun l s => (l.map fun p => p ++ [s.1]) ++ (l.map fun p => p ++ [s.2])) acc, p.length = k + r.length
  | [], acc, k, h, p, hp => by simpa using h p hp
  | s :: r, acc, k, h, p, hp => by
    rw [List.foldl_cons] at hp
    have := corn_mem_len r _ (k + 1) (by
      intro q hq
      rcases List.mem_append.mp hq with hq | hq
      · obtain ⟨u, hu, rfl⟩ := List.mem_map.mp hq; simp [h u hu]
      · obtain ⟨u, hu, rfl⟩ := List.mem_map.mp hq; simp [h u hu]) p hp
    simp; omega
theorem corn_mem_ends : ∀ (r : List Sd) (acc : List (List Rat)) (P : Rat → Prop), (∀ s ∈ r, P s.1 ∧ P s.2) → (∀ p ∈ acc, ∀ x ∈ p, P x) → ∀ p ∈ r.foldl (fun l s => (l.map fun p => p ++ [s.1]) ++ (l.map fun p => p ++ [s.2])) acc, ∀ x ∈ p, P x
  | [], acc, P, _, h, p, hp => h p hp
  | s :: r, acc, P, hs, h, p, hp => by
    rw [List.foldl_cons] at hp
    have ps := hs s List.mem_cons_self
    refine corn_mem_ends r _ P (fun s hs' => hs s (List.mem_cons_of_mem _ hs')) ?_ p hp
    intro q hq x hx
    rcases List.mem_append.mp hq with hq | hq
    · obtain ⟨u, hu, rfl⟩ := List.mem_map.mp hq
      rcases List.mem_append.mp hx with hx | hx
      · exact h u hu x hx
      · have e : x = s.1 := by simpa using hx
        rw [e]; exact ps.1
    · obtain ⟨u, hu, rfl⟩ := List.mem_map.mp hq
      rcases List.mem_append.mp hx with hx | hx
      · exact h u hu x hx
      · have e : x = s.2 := by simpa using hx
        rw [e]; exact ps.2
/-- of a sum of numbers times variables sloped's ends are worths of corners -/
theorem lin_slo {q0 : Rat} {q : Nat → Rat} {b : List Sd} {c : List Rat} (hl : b.length = c.length) : ∃ g, slo (lin q0 q b.length) b c = some g ∧ (∃ p ∈ lcorn b, (lin q0 q b.length).w p = some g.1) ∧ (∃ p ∈ lcorn b, (lin q0 q b.length).w p = some g.2) := by
  have hw := lin_w (q0 := q0) (q := q) (p := c) (n := b.length) (by omega)
  have hc : cov (ptB c) (lin q0 q b.length) = some (lv q0 q c b.length, lv q0 q c b.length) := by
    have := cov_pt c (lin q0 q b.length)
    rw [hw] at this
    exact this
  obtain ⟨s, hs⟩ := lin_cov (q0 := q0) (q := q) (W := hullB b (ptB c)) (n := b.length) (by rw [hull_len hl]; exact Nat.le_refl _)
  obtain ⟨g, g1, ⟨e, e1, e2⟩, ⟨e', e3, e4⟩⟩ := lin_go (q0 := q0) (q := q) (n := b.length) (W := hullB b (ptB c)) (c := c) b 0 (lv q0 q c b.length, lv q0 q c b.length) (by omega)
  have fin : ∀ {e : List Rat} {y : Rat}, Ends e b → y = lv q0 q c b.length + sumE q c 0 e → ∃ p ∈ lcorn b, (lin q0 q b.length).w p = some y := by
    intro e y h1 h2
    have hm := ends_corn b e [[]] [] h1 (by simp)
    have hle := ends_len h1
    refine ⟨e, hm, ?_⟩
    rw [lin_w (by omega)]
    congr 1
    have z := sumE_dot (q := q) (c := c) e []
    simp only [List.length_nil, List.nil_append, Nat.zero_add] at z
    rw [show dot q e c 0 = 0 from rfl, hle] at z
    have d := lin_dot (q0 := q0) (q := q) (p := e) (c := c) b.length
    grind
  refine ⟨g, ?_, fin e1 e2, fin e3 e4⟩
  unfold slo
  rw [hc]
  dsimp only
  rw [hs]
  exact g1
end Cw

set_option Elab.async false
set_option linter.all false
set_option maxRecDepth 100000
set_option maxHeartbeats 0
namespace K20
open PySem Cw
def d_law_once : Def := ⟨2, 2, (.cons (.selfL 1) (.cons (.iff [] (.cmp .eq (.ix (.v 0) (.k (.int 0))) (.k (.str "num"))) (.cons (.retL 1 (.k (.bool true))) .nil) .nil) (.cons (.iff [] (.cmp .eq (.ix (.v 0) (.k (.int 0))) (.k (.str "var"))) (.cons (.appL 1 (.ix (.v 0) (.k (.int 1)))) (.cons (.retL 1 (.cmp .eq (.cnt 1 (.ix (.v 0) (.k (.int 1)))) (.k (.int 1)))) .nil)) .nil) (.cons (.iff [] (.cmp .isin (.ix (.v 0) (.k (.int 0))) (.lst (.cons (.k (.str "power")) (.cons (.k (.str "over")) .nil)))) (.cons (.retL 1 (.k (.bool false))) .nil) .nil) (.cons (.retLM 1 (.and (.cl 1 1120 (.ix (.v 0) (.k (.int 1)))) (.cl 1 1120 (.ix (.v 0) (.k (.int 2)))))) .nil)))))⟩
def d_law_right : Def := ⟨4, 11, (.cons (.iff [] (.or (.cons (.not (.isi (.v 2) .tuple)) (.cons (.not (.call 13 (.cons (.ix (.v 2) (.k (.int 0))) .nil))) (.cons (.not (.call 13 (.cons (.ix (.v 2) (.k (.int 1))) .nil))) .nil)))) (.cons (.ret [] (.k (.bool false))) .nil) .nil) (.cons (.for_ [] (.one 4) (.rng1 (.k (.int 5))) (.cons (.asg 6 [] (.lc [9, 10] (.call 1012 (.cons (.v 10) (.cons (.bin .fdiv (.v 3) (.bin .add (.bin .add (.k (.int 7)) (.bin .mul (.k (.int 3)) (.v 4))) (.v 9))) .nil))) (.many [9, 10]) (.enum (.v 1)) .no)) (.cons (.asg 7 [] (.call 1021 (.cons (.v 0) (.cons (.bf .tuple (.cons (.v 6) .nil)) .nil)))) (.cons (.iff [] (.or (.cons (.cmp .is (.v 7) (.k .none)) (.cons (.not (.call 1013 (.cons (.v 2) (.cons (.v 7) .nil)))) .nil))) (.cons (.ret [] (.k (.bool false))) .nil) .nil) .nil)))) (.cons (.iff [] (.not (.cln 1120 (.v 0))) (.cons (.ret [] (.k (.bool true))) .nil) .nil) (.cons (.asg 5 [] (.lc [6] (.call 1021 (.cons (.v 0) (.cons (.v 6) .nil))) (.one 6) (.seq (.call 1037 (.cons (.v 1) .nil))) .no)) (.cons (.ret [] (.bf .all (.cons (.lc [8] (.cmp .ne (.lc [7] (.v 7) (.one 7) (.seq (.v 5)) (.yes (.cmp .eq (.bin .mul (.ix (.v 7) (.k (.int 0))) (.ix (.v 8) (.k (.int 1)))) (.bin .mul (.ix (.v 8) (.k (.int 0))) (.ix (.v 7) (.k (.int 1))))))) (.lst .nil)) (.one 8) (.seq (.v 2)) .no) .nil))) .nil)))))⟩
def d_law : Def := ⟨1, 16, (.cons (.for_ [] (.one 1) (.rng1 (.bf .max (.cons (.k (.int 1)) (.cons (.bf .min (.cons (.k (.int 3)) (.cons (.bf .len (.cons (.v 0) .nil)) .nil))) .nil)))) (.cons (.asg 2 [] (.call 1001 (.cons (.call 1000 (.cons (.v 0) (.cons (.v 1) .nil))) (.cons (.v 1) .nil)))) (.cons (.asg 3 [] (.bin .add (.k (.int 1)) (.bin .mod (.v 2) (.k (.int 3))))) (.cons (.asg 4 [] (.call 1020 (.cons (.v 0) (.cons (.bin .mul (.k (.int 7)) (.v 1)) (.cons (.v 3) .nil))))) (.cons (.asg 5 [] (.bf .tuple (.cons (.lc [14] (.call 1036 (.cons (.bin .add (.bin .mul (.bin .fdiv (.v 2) (.bin .add (.k (.int 3)) (.bin .mul (.k (.int 5)) (.v 14)))) (.k (.int 7))) (.v 14)) .nil)) (.one 14) (.rng1 (.bin .add (.v 3) (.bin .mul (.bin .mod (.bin .fdiv (.v 2) (.k (.int 4))) (.k (.int 2))) (.bf .int (.cons (.cmp .lt (.v 3) (.k (.int 3))) .nil))))) .no) .nil))) (.cons (.asg 6 [] (.call 51 (.cons (.v 4) (.cons (.v 5) .nil)))) (.cons (.asg 7 [] (.bf .tuple (.cons (.lc [11] (.call 1012 (.cons (.v 11) (.cons (.bin .fdiv (.v 2) (.k (.int 11))) .nil))) (.one 11) (.seq (.v 5)) .no) .nil))) (.cons (.asg 8 [] (.call 51 (.cons (.v 4) (.cons (.bf .tuple (.cons (.lc [15] (.tup (.cons (.v 15) (.cons (.v 15) .nil))) (.one 15) (.seq (.v 7)) .no) .nil)) .nil)))) (.cons (.asg 9 [] (.call 1021 (.cons (.v 4) (.cons (.v 7) .nil)))) (.cons (.iff [] (.or (.cons (.and (.cons (.cmp .is (.v 9) (.k .none)) (.cons (.cmp .isn (.v 8) (.k .none)) .nil))) (.cons (.and (.cons (.cmp .isn (.v 9) (.k .none)) (.cons (.cmp .ne (.v 8) (.bin .mul (.tup (.cons (.call 1002 (.cons (.ix (.v 9) (.k (.int 0))) (.cons (.ix (.v 9) (.k (.int 1))) .nil))) .nil)) (.k (.int 2)))) .nil))) .nil))) (.cons (.ret [] (.k (.bool false))) .nil) .nil) (.cons (.iff [] (.cmp .is (.v 6) (.k .none)) (.cons .cont .nil) .nil) (.cons (.iff [] (.not (.call 1121 (.cons (.v 4) (.cons (.v 5) (.cons (.v 6) (.cons (.bin .fdiv (.v 2) (.k (.int 64))) .nil)))))) (.cons (.ret [] (.k (.bool false))) .nil) .nil) (.cons (.asgL 10 [] (.lst .nil)) (.cons (.for_ [] (.one 11) (.seq (.v 5)) (.cons (.asg 13 [] (.lst (.cons (.call 1012 (.cons (.v 11) (.cons (.bin .fdiv (.v 2) (.k (.int 13))) .nil))) (.cons (.call 1012 (.cons (.v 11) (.cons (.bin .fdiv (.v 2) (.k (.int 17))) .nil))) .nil)))) (.cons (.app 10 [] (.tup (.cons (.ix (.v 13) (.bf .int (.cons (.call 1010 (.cons (.ix (.v 13) (.k (.int 1))) (.cons (.ix (.v 13) (.k (.int 0))) .nil))) .nil))) (.cons (.ix (.v 13) (.bin .sub (.k (.int 1)) (.bf .int (.cons (.call 1010 (.cons (.ix (.v 13) (.k (.int 1))) (.cons (.ix (.v 13) (.k (.int 0))) .nil))) .nil)))) .nil)))) .nil))) (.cons (.asg 12 [10] (.call 51 (.cons (.v 4) (.cons (.bf .tuple (.cons (.v 10) .nil)) .nil)))) (.cons (.iff [] (.or (.cons (.cmp .is (.v 12) (.k .none)) (.cons (.not (.call 1013 (.cons (.v 6) (.cons (.ix (.v 12) (.k (.int 0))) .nil)))) (.cons (.not (.call 1013 (.cons (.v 6) (.cons (.ix (.v 12) (.k (.int 1))) .nil)))) .nil)))) (.cons (.ret [] (.k (.bool false))) .nil) .nil) .nil)))))))))))))))) (.cons (.ret [] (.k (.bool true))) .nil))⟩
def bL : List (Nat × Def) := [(1120, d_law_once), (1121, d_law_right), (1122, d_law)]
def allD : List (Nat × Def) := bL ++ b1 ++ b2 ++ b3 ++ b4 ++ b5 ++ b6
def tb : Nat → Option Def := tab allD
theorem nodup : (allD.map (·.1)).Nodup := by decide +kernel
instance : Lay bL tb := Lay.of nodup (fun p h => by unfold allD; simp only [List.mem_append]; simp only [h, true_or, or_true])
instance : Lay b1 tb := Lay.of nodup (fun p h => by unfold allD; simp only [List.mem_append]; simp only [h, true_or, or_true])
instance : Lay b2 tb := Lay.of nodup (fun p h => by unfold allD; simp only [List.mem_append]; simp only [h, true_or, or_true])
instance : Lay b3 tb := Lay.of nodup (fun p h => by unfold allD; simp only [List.mem_append]; simp only [h, true_or, or_true])
instance : Lay b4 tb := Lay.of nodup (fun p h => by unfold allD; simp only [List.mem_append]; simp only [h, true_or, or_true])
instance : Lay b5 tb := Lay.of nodup (fun p h => by unfold allD; simp only [List.mem_append]; simp only [h, true_or, or_true])
instance : Lay b6 tb := Lay.of nodup (fun p h => by unfold allD; simp only [List.mem_append]; simp only [h, true_or, or_true])
section
open PySem.Spec PyProof.Rows L2
theorem look : (txt.ents.all fun e => e.look tb txt.gm txt.ex) = true := by decide +kernel
theorem lookW : (txt.wrds.all fun e => e.lookW txt.ex) = true := by decide +kernel
theorem lookM : (txt.mths.all fun m => m.look tb txt.gm txt.ex) = true := by decide +kernel
end
/-! ### terms in which each variable stands once -/
def _root_.Cw.Tm.vs : Tm → List Nat
  | .num _ => []
  | .var i => [i]
  | .pow t _ => t.vs
  | .bin _ a b => a.vs ++ b.vs
def onceT : Tm → List Nat → Bool × List Nat
  | .num _, l => (true, l)
  | .var i, l => (decide (i ∉ l), l ++ [i])
  | .pow _ _, l => (false, l)
  | .bin .over _ _, l => (false, l)
  | .bin _ a b, l => if (onceT a l).1 = true then onceT b (onceT a l).2 else (false, (onceT a l).2)
theorem once_bin {o : Bo} (h : o ≠ .over) (a b : Tm) (l : List Nat) : onceT (.bin o a b) l = if (onceT a l).1 = true then onceT b (onceT a l).2 else (false, (onceT a l).2) := by
  cases o <;> first | rfl | exact (h rfl).elim
theorem once_len : ∀ (t : Tm) (l : List Nat), (onceT t l).2.length ≤ l.length + t.vs.length
  | .num _, l => by simp [onceT]
  | .var _, l => by simp [onceT, Tm.vs]
  | .pow _ _, l => by simp [onceT]
  | .bin o a b, l => by
    by_cases h : o = .over
    · subst h; simp [onceT]
    · rw [once_bin h]
      have h1 := once_len a l
      have h2 := once_len b (onceT a l).2
      simp only [Tm.vs, List.length_append]
      split
      · omega
      · show (onceT a l).2.length ≤ _
        omega
theorem vs_dep : ∀ t : Tm, t.vs.length ≤ 2 ^ (t.dep - 1)
  | .num _ => by simp [Tm.vs]
  | .var _ => by simp [Tm.vs, Tm.dep]
  | .pow t _ => by
    have := vs_dep t
    have z : 2 ^ (t.dep - 1) ≤ 2 ^ ((Tm.pow t ‹_›).dep - 1) := Nat.pow_le_pow_right (by decide) (by simp only [Tm.dep]; omega)
    exact Nat.le_trans this z
  | .bin o a b => by
    have h1 := vs_dep a
    have h2 := vs_dep b
    have e : (Tm.bin o a b).dep - 1 = (max a.dep b.dep - 1) + 1 := by
      have := a.dep_pos
      simp only [Tm.dep]; omega
    rw [e, Nat.pow_succ]
    have z1 : 2 ^ (a.dep - 1) ≤ 2 ^ (max a.dep b.dep - 1) := Nat.pow_le_pow_right (by decide) (by omega)
    have z2 : 2 ^ (b.dep - 1) ≤ 2 ^ (max a.dep b.dep - 1) := Nat.pow_le_pow_right (by decide) (by omega)
    simp only [Tm.vs, List.length_append]
    omega
/-- neither powers nor quotients -/
def _root_.Cw.Tm.pln : Tm → Prop
  | .num _ => True
  | .var _ => True
  | .pow _ _ => False
  | .bin o a b => o ≠ .over ∧ a.pln ∧ b.pln
theorem once_told : ∀ (t : Tm) (l : List Nat), (onceT t l).1 = true → t.pln ∧ (onceT t l).2 = l ++ t.vs ∧ t.vs.Nodup ∧ ∀ x ∈ t.vs, x ∉ l
  | .num _, l, _ => ⟨trivial, by simp [onceT, Tm.vs], by simp [Tm.vs], by simp [Tm.vs]⟩
  | .var i, l, h => ⟨trivial, rfl, by simp [Tm.vs], by
    have h : decide (i ∉ l) = true := h
    have h := of_decide_eq_true h
    intro x hx
    have e : x = i := by simpa [Tm.vs] using hx
    rw [e]; exact h⟩
  | .pow _ _, l, h => by cases h
  | .bin o a b, l, h => by
    by_cases ho : o = .over
    · subst ho; cases h
    · rw [once_bin ho] at h ⊢
      by_cases h1 : (onceT a l).1 = true
      · rw [if_pos h1] at h ⊢
        obtain ⟨a1, a2, a3, a4⟩ := once_told a l h1
        obtain ⟨b1, b2, b3, b4⟩ := once_told b _ h
        rw [a2] at b2 b4
        refine ⟨⟨ho, a1, b1⟩, by rw [a2, b2]; simp [Tm.vs], ?_, ?_⟩
        · simp only [Tm.vs]
          rw [List.nodup_append]
          exact ⟨a3, b3, fun x hx y hy e => b4 y hy (by rw [← e]; exact List.mem_append_right _ hx)⟩
        · intro x hx
          simp only [Tm.vs] at hx
          rcases List.mem_append.mp hx with hx | hx
          · exact a4 x hx
          · exact fun z => b4 x hx (List.mem_append_left _ z)
      · rw [if_neg h1] at h
        cases h
/-- a corner, by which end of each side -/
def cpt (c : Nat → Bool) (b : List Sd) : List Rat := b.mapIdx fun i s => if c i = true then s.2 else s.1
theorem cpt_get {c : Nat → Bool} {b : List Sd} (i : Nat) : (cpt c b)[i]? = (b[i]?).map fun s => if c i = true then s.2 else s.1 := by
  unfold cpt
  rw [List.getElem?_mapIdx]
theorem w_ext {p q : List Rat} : ∀ {t : Tm}, (∀ i ∈ t.vs, p[i]? = q[i]?) → t.w p = t.w q
  | .num _, _ => rfl
  | .var i, h => h i (by simp [Tm.vs])
  | .pow t _, h => by simp only [Tm.w]; rw [w_ext (t := t) h]
  | .bin _ a b, h => by
    simp only [Tm.w]
    rw [w_ext (t := a) fun i hi => h i (List.mem_append_left _ hi), w_ext (t := b) fun i hi => h i (List.mem_append_right _ hi)]
/-- both ends of the cover are worths of corners -/
theorem once_ends {b : List Sd} : ∀ {t : Tm} {s : Sd}, t.pln → t.vs.Nodup → cov b t = some s → (∃ c, t.w (cpt c b) = some s.1) ∧ ∃ c, t.w (cpt c b) = some s.2
  | .num q, s, _, _, h => by cases h; exact ⟨⟨fun _ => true, rfl⟩, ⟨fun _ => true, rfl⟩⟩
  | .var i, s, _, _, h => by
    have h : b[i]? = some s := h
    exact ⟨⟨fun _ => false, by simp only [Tm.w]; rw [cpt_get, h]; rfl⟩, ⟨fun _ => true, by simp only [Tm.w]; rw [cpt_get, h]; rfl⟩⟩
  | .pow _ _, _, h, _, _ => h.elim
  | .bin o x y, s, hp, hn, h => by
    obtain ⟨ho, hx, hy⟩ := hp
    simp only [Tm.vs] at hn
    rw [List.nodup_append] at hn
    obtain ⟨n1, n2, n3⟩ := hn
    simp only [cov] at h
    cases ex : cov b x with
    | none => rw [ex] at h; cases h
    | some u =>
      cases ey : cov b y with
      | none => rw [ex, ey] at h; cases h
      | some w =>
        rw [ex, ey] at h
        dsimp only at h
        obtain ⟨⟨c1, p1⟩, ⟨c2, p2⟩⟩ := once_ends hx n1 ex
        obtain ⟨⟨d1, q1⟩, ⟨d2, q2⟩⟩ := once_ends hy n2 ey
        have both : ∀ {c d : Nat → Bool} {p q z : Rat}, x.w (cpt c b) = some p → y.w (cpt d b) = some q → o.ap p q = some z → ∃ e, (Tm.bin o x y).w (cpt e b) = some z := by
          intro c d p q z hp hq hz
          refine ⟨fun i => if i ∈ x.vs then c i else d i, ?_⟩
          have e1 : x.w (cpt (fun i => if i ∈ x.vs then c i else d i) b) = x.w (cpt c b) := w_ext fun i hi => by
            rw [cpt_get, cpt_get]; simp only [if_pos hi]
          have e2 : y.w (cpt (fun i => if i ∈ x.vs then c i else d i) b) = y.w (cpt d b) := w_ext fun i hi => by
            rw [cpt_get, cpt_get]; simp only [if_neg (show i ∉ x.vs from fun z => n3 i z i hi rfl)]
          simp only [Tm.w, e1, e2, hp, hq]
          exact hz
        cases o with
        | sum =>
          cases h
          exact ⟨both p1 q1 rfl, both p2 q2 rfl⟩
        | less =>
          cases h
          exact ⟨both p1 q2 rfl, both p2 q1 rfl⟩
        | times =>
          cases h
          have k : ∀ z ∈ [u.1 * w.1, u.1 * w.2, u.2 * w.1, u.2 * w.2], ∃ e, (Tm.bin .times x y).w (cpt e b) = some z := by
            intro z hz
            simp only [List.mem_cons, List.not_mem_nil, or_false] at hz
            rcases hz with rfl | rfl | rfl | rfl
            · exact both p1 q1 rfl
            · exact both p1 q2 rfl
            · exact both p2 q1 rfl
            · exact both p2 q2 rfl
          exact ⟨k _ (minQ_mem _ _), k _ (maxQ_mem _ _)⟩
        | over => exact (ho rfl).elim
theorem cpt_ends (c : Nat → Bool) : ∀ b : List Sd, Ends (cpt c b) b
  | [] => trivial
  | s :: r => by
    have e : cpt c (s :: r) = (if c 0 = true then s.2 else s.1) :: cpt (fun i => c (i + 1)) r := by
      unfold cpt
      rw [List.mapIdx_cons]
    rw [e]
    refine ⟨?_, cpt_ends _ r⟩
    split
    · exact .inr rfl
    · exact .inl rfl
theorem cpt_corn (c : Nat → Bool) (b : List Sd) : cpt c b ∈ lcorn b := by
  have z := ends_corn b (cpt c b) [[]] [] (cpt_ends c b) (by simp)
  simpa [lcorn] using z
theorem lcorn_mem : ∀ (r : List Sd) (acc : List (List Rat)) (p : List Rat), p ∈ r.foldl (fun l s => (l.map fun p => p ++ [s.1]) ++ (l.map fun p => p ++ [s.2])) acc → ∃ q ∈ acc, ∃ e, Ends e r ∧ p = q ++ e
  | [], acc, p, h => ⟨p, h, [], trivial, by simp⟩
  | s :: r, acc, p, h => by
    rw [List.foldl_cons] at h
    obtain ⟨q, hq, e, he, hp⟩ := lcorn_mem r _ p h
    rcases List.mem_append.mp hq with hq | hq
    · obtain ⟨u, hu, rfl⟩ := List.mem_map.mp hq
      exact ⟨u, hu, s.1 :: e, ⟨.inl rfl, he⟩, by rw [hp]; simp⟩
    · obtain ⟨u, hu, rfl⟩ := List.mem_map.mp hq
      exact ⟨u, hu, s.2 :: e, ⟨.inr rfl, he⟩, by rw [hp]; simp⟩
theorem ends_in : ∀ {e : List Rat} {r : List Sd}, BOk r → Ends e r → PIn e r
  | [], [], _, _ => fun i s h => by simp at h
  | [], _ :: _, _, h => h.elim
  | _ :: _, [], _, h => h.elim
  | x :: e, s :: r, hok, h => fun i u hu => by
    cases i with
    | zero =>
      cases hu
      have os : s.1 ≤ s.2 := hok s List.mem_cons_self
      refine ⟨x, rfl, ?_⟩
      rcases h.1 with q | q
      · rw [q]; exact ⟨Rat.le_refl, os⟩
      · rw [q]; exact ⟨os, Rat.le_refl⟩
    | succ i =>
      obtain ⟨y, h1, h2⟩ := ends_in (fun u hu => hok u (List.mem_cons_of_mem _ hu)) h.2 i u (by simpa using hu)
      exact ⟨y, by simpa using h1, h2⟩
theorem lcorn_in {b : List Sd} (hok : BOk b) (p : List Rat) (h : p ∈ lcorn b) : PIn p b := by
  obtain ⟨q, hq, e, he, hp⟩ := lcorn_mem b [[]] p h
  have : q = [] := by simpa using hq
  subst this
  rw [hp]
  exact ends_in hok he
theorem sz_mono {a b : Nat} (h : a ≤ b) : ∀ {t : Tm}, t.sz a ≤ t.sz b
  | .num _ => Nat.le_refl _
  | .var _ => h
  | .pow t k => by
    have := Nat.mul_le_mul_right (k + 1) (sz_mono h (t := t))
    simp only [Tm.sz]; omega
  | .bin _ x y => by
    have h1 := sz_mono h (t := x)
    have h2 := sz_mono h (t := y)
    simp only [Tm.sz]; omega
/-! ### steps with a lent list -/
section
variable {F : Nat → List D → R D} {env : List Sl}
theorem s_selfL' {x : Sl} {l : List D} : evS F (x :: .fr (.list l) :: env) (.selfL 1) = .next (x :: .ln l :: env) := by simp only [evS] <;> rfl
def retLR (ds : List D) (env : List Sl) (r : R D) : Out := onR env r fun d => if flatD d = true then .ret (.tuple [d, .list ds]) else .bad
theorem retLR_ok {ds : List D} {d : D} (h : flatD d = true) : retLR ds env (.ok d) = .ret (.tuple [d, .list ds]) := by
  show (if flatD d = true then _ else _) = _
  rw [if_pos h]
theorem retLR_b {ds : List D} {b : Bool} : retLR ds env (.ok (.bool b)) = .ret (.tuple [.bool b, .list ds]) := rfl
theorem s_retL' {x : Sl} {l : List D} {e : E} : evS F (x :: .ln l :: env) (.retL 1 e) = retLR l (x :: .ln l :: env) (ev F (x :: .fr (.list l) :: env) e) := by simp only [evS, retLR] <;> rfl
def appLR (x : Sl) (ds : List D) (env : List Sl) (r : R D) : Out := onR (x :: .ln ds :: env) r fun d => if ds.length < sizeLine then .next (x :: .ln (ds ++ [d]) :: env) else .bad
theorem appLR_ok {x : Sl} {ds : List D} {d : D} (h : ds.length < sizeLine) : appLR x ds env (.ok d) = .next (x :: .ln (ds ++ [d]) :: env) := by
  show (if ds.length < sizeLine then _ else _) = _
  rw [if_pos h]
theorem s_appL' {x : Sl} {l : List D} {e : E} : evS F (x :: .ln l :: env) (.appL 1 e) = appLR x l env (ev F (x :: .ln l :: env) e) := by simp only [evS, appLR] <;> rfl
theorem s_retLM2 {x : Sl} {l l1 l2 : List D} {f : Nat} {a b : E} {da db : D} {r2 : Bool} (ha : ev F (x :: .ln l :: env) a = .ok da) (h1 : F f [da, .list l] = .ok (.tuple [.bool true, .list l1])) (hb : ev F (x :: .ln l1 :: env) b = .ok db) (h2 : F f [db, .list l1] = .ok (.tuple [.bool r2, .list l2])) :
    evS F (x :: .ln l :: env) (.retLM 1 (.and (.cl 1 f a) (.cl 1 f b))) = .ret (.tuple [.bool r2, .list l2]) := by
  simp only [evS, evM, ha, Cw.liftM, RM.bind, callL, List.getElem?_cons_succ, List.getElem?_cons_zero, h1, metL, List.set_cons_succ, List.set_cons_zero, hb, h2, onM, retLO]
theorem s_retLM1 {x : Sl} {l l1 : List D} {f : Nat} {a b : E} {da : D} (ha : ev F (x :: .ln l :: env) a = .ok da) (h1 : F f [da, .list l] = .ok (.tuple [.bool false, .list l1])) :
    evS F (x :: .ln l :: env) (.retLM 1 (.and (.cl 1 f a) (.cl 1 f b))) = .ret (.tuple [.bool false, .list l1]) := by
  simp only [evS, evM, ha, Cw.liftM, RM.bind, callL, List.getElem?_cons_succ, List.getElem?_cons_zero, h1, metL, List.set_cons_succ, List.set_cons_zero, onM, retLO]
theorem gv_ln {l : List D} : getV (.ln l :: env) 0 = .bad := rfl
theorem e_cln' {f : Nat} {a : E} : ev F env (.cln f a) = (ev F env a).bind fun d => (metL (F f [d, .list []])).bind fun r => .ok r.1 := by simp only [ev] <;> rfl
theorem metL_t {d : D} {l : List D} : metL (.ok (.tuple [d, .list l])) = .ok (d, l) := rfl
end
def vD (i : Nat) : D := .int i
theorem sh_vD (l : List Nat) : SeqAt.shaped (.list (l.map vD)) = true := by
  have := sh_ints (l.map fun (i : Nat) => (i : Int))
  rw [List.map_map] at this
  exact this
theorem cnt_vD (l : List Nat) (i : Nat) : cntR (l.map vD) (.int i) = .ok (.int ((l.countP fun z => z == i : Nat) : Int)) := by
  unfold cntR
  rw [if_pos ⟨rfl, sh_vD l⟩, List.countP_map]
  congr 3
  refine List.countP_congr fun x _ => ?_
  show (PyData.eqv (.int (x : Int)) (.int (i : Int)) = true) ↔ (x == i) = true
  simp [PyData.eqv]
  try omega
theorem lst_ok' {l : List D} : lstR (.list l) = .ok l := rfl
local macro_rules | `(tactic| walk_at "cw") => `(tactic| simp -implicitDefEqProofs only [ss_nil, ss_cons, goSs_next, goSs_ret, goSs_exc, goSs_brk, goSs_cont, s_asg', s_asgL2, asgL_ok, see_cons, see1_ow, see1_fr, see1_no, see1_S, ow_0, ow_S, s_app', app_some, app_exc, s_asgT', s_par', s_ret', s_iff', s_whl', s_for', s_rais', s_expr', s_brk', s_cont', s_pass', s_try', s_tryW', tryW_ret, tryW_next, tryW_exc, tryN_ret, tryN_next, tryN_exc, e_k, e_v, e_g, e_tup', e_lst', e_bin', e_neg', e_not', e_and', e_or', e_cmp', e_cmp2', e_ife', e_ix', e_sl', e_call', e_bf', e_isi', e_lc', es_nil, es_cons, and_one, and_cons, or_one, or_cons, eo_no, eo_yes, ec_no, ec_yes, ei_seq, ei_rng1, ei_rng2, ei_zip, ei_enum, gv0, gvS, see0, fl_int, fl_bool, fl_str, fl_none, fl_tup, fl_lst, bind_ok, bind_bad, bind_exc, onR_ok, onR_exc, onR_bad, toB_bool, toB_exc, eq_int, ne_int, lt_int', le_int', gt_int', ge_int', add_int', sub_int', bf_abs, bf_max, bf_min, bf_len, bf_lenT, bf_int, bf_intB, startE, List.map_cons, List.map_nil, List.length_cons, List.length_map, List.length_nil, List.cons_append, List.nil_append, List.set_cons_zero, List.set_cons_succ, List.replicate, Nat.sub_self, Nat.reduceSub, Nat.reduceAdd, if_true, if_false, Bool.false_eq_true, reduceIte, ixT0, ixT1, ixT2, outR_ret, outR_next, outR_exc, setT, setMany, wipeE, rng1_ok, rng2_ok, not_ok, neg_ok, and_t, and_f, and_ok, and_x, or_t, or_f, or_ok, or_x, ife_b, Bool.not_true, Bool.not_false, Bool.true_and, Bool.and_true, Bool.false_and, Bool.and_false, Bool.true_or, Bool.or_true, Bool.false_or, Bool.or_false, decide_true, decide_false, beq_self_eq_true, Int.reduceBEq, Int.reduceLT, Int.reduceLE, Int.reduceAdd, Int.reduceSub, Int.reduceNeg, Int.cast_ofNat_Int, fl_fr, eq_fr, ne_fr, ix_fr0, ix_fr1, ite_self, lc_nil, lc_cons, consR_s, consR_n, bf_all, bf_any, bf_sum, bf_tup, ofO_some, bls_nil, bls_cons, ints_nil, ints_cons, Option.map_some, seq_lst, seq_tup, ixL0, ixL1, ixL2, ixL3, isi_bi, isi_bb, isi_ii, isi_ib, isi_tt, List.all_cons, List.all_nil, id, pw_10_11, pw_10_12, pw_10_13, pw_10_30, pw_10_40, pw_10_6, pw_10_9, pw_2_8, pw_2_10, pw_2_12, pw_2_13, pw_2_14, pw_2_15, pw_2_16, pw_2_17, pw_2_18, pw_2_20, pw_2_24, pw_2_25, pw_2_27, pw_2_28, pw_2_30, pw_2_32, pw_2_34, pw_2_36, pw_2_38, pw_2_40, pw_2_41, pw_2_42, pw_2_44, pw_2_50, pw_2_54, pw_2_56, pw_2_60, e_rev', e_mx0', e_ins', rev_lst, s_setC', mod_pos, fdiv_pos, mul_rl, mul_ll, fl_st, ix_st0, ix_st1, cell_ok, drawn_ok, Int.reduceMul, fl_tm, cst0, cst1, fl_box, fl_pt, fl_sd, ix_sd0, ix_sd1, s_ext', is_sd, isn_sd, is_fr, isn_fr, is_non, isn_non, s_selfL', s_retL', retLR_b, s_appL', e_cnt', lst_ok', e_cln', metL_t, eqw_num_num, eqw_num_var, eqw_num_power, eqw_num_sum, eqw_num_less, eqw_num_times, eqw_num_over, eqw_var_num, eqw_var_var, eqw_var_power, eqw_var_sum, eqw_var_less, eqw_var_times, eqw_var_over, eqw_power_num, eqw_power_var, eqw_power_power, eqw_power_sum, eqw_power_less, eqw_power_times, eqw_power_over, eqw_sum_num, eqw_sum_var, eqw_sum_power, eqw_sum_sum, eqw_sum_less, eqw_sum_times, eqw_sum_over, eqw_less_num, eqw_less_var, eqw_less_power, eqw_less_sum, eqw_less_less, eqw_less_times, eqw_less_over, eqw_times_num, eqw_times_var, eqw_times_power, eqw_times_sum, eqw_times_less, eqw_times_times, eqw_times_over, eqw_over_num, eqw_over_var, eqw_over_power, eqw_over_sum, eqw_over_less, eqw_over_times, eqw_over_over])
local macro_rules | `(tactic| walk_at "cw*") => `(tactic| simp -implicitDefEqProofs only [*, ss_nil, ss_cons, goSs_next, goSs_ret, goSs_exc, goSs_brk, goSs_cont, s_asg', s_asgL2, asgL_ok, see_cons, see1_ow, see1_fr, see1_no, see1_S, ow_0, ow_S, s_app', app_some, app_exc, s_asgT', s_par', s_ret', s_iff', s_whl', s_for', s_rais', s_expr', s_brk', s_cont', s_pass', s_try', s_tryW', tryW_ret, tryW_next, tryW_exc, tryN_ret, tryN_next, tryN_exc, e_k, e_v, e_g, e_tup', e_lst', e_bin', e_neg', e_not', e_and', e_or', e_cmp', e_cmp2', e_ife', e_ix', e_sl', e_call', e_bf', e_isi', e_lc', es_nil, es_cons, and_one, and_cons, or_one, or_cons, eo_no, eo_yes, ec_no, ec_yes, ei_seq, ei_rng1, ei_rng2, ei_zip, ei_enum, gv0, gvS, see0, fl_int, fl_bool, fl_str, fl_none, fl_tup, fl_lst, bind_ok, bind_bad, bind_exc, onR_ok, onR_exc, onR_bad, toB_bool, toB_exc, eq_int, ne_int, lt_int', le_int', gt_int', ge_int', add_int', sub_int', bf_abs, bf_max, bf_min, bf_len, bf_lenT, bf_int, bf_intB, startE, List.map_cons, List.map_nil, List.length_cons, List.length_map, List.length_nil, List.cons_append, List.nil_append, List.set_cons_zero, List.set_cons_succ, List.replicate, Nat.sub_self, Nat.reduceSub, Nat.reduceAdd, if_true, if_false, Bool.false_eq_true, reduceIte, ixT0, ixT1, ixT2, outR_ret, outR_next, outR_exc, setT, setMany, wipeE, rng1_ok, rng2_ok, not_ok, neg_ok, and_t, and_f, and_ok, and_x, or_t, or_f, or_ok, or_x, ife_b, Bool.not_true, Bool.not_false, Bool.true_and, Bool.and_true, Bool.false_and, Bool.and_false, Bool.true_or, Bool.or_true, Bool.false_or, Bool.or_false, decide_true, decide_false, beq_self_eq_true, Int.reduceBEq, Int.reduceLT, Int.reduceLE, Int.reduceAdd, Int.reduceSub, Int.reduceNeg, Int.cast_ofNat_Int, fl_fr, eq_fr, ne_fr, ix_fr0, ix_fr1, ite_self, lc_nil, lc_cons, consR_s, consR_n, bf_all, bf_any, bf_sum, bf_tup, ofO_some, bls_nil, bls_cons, ints_nil, ints_cons, Option.map_some, seq_lst, seq_tup, ixL0, ixL1, ixL2, ixL3, isi_bi, isi_bb, isi_ii, isi_ib, isi_tt, List.all_cons, List.all_nil, id, pw_10_11, pw_10_12, pw_10_13, pw_10_30, pw_10_40, pw_10_6, pw_10_9, pw_2_8, pw_2_10, pw_2_12, pw_2_13, pw_2_14, pw_2_15, pw_2_16, pw_2_17, pw_2_18, pw_2_20, pw_2_24, pw_2_25, pw_2_27, pw_2_28, pw_2_30, pw_2_32, pw_2_34, pw_2_36, pw_2_38, pw_2_40, pw_2_41, pw_2_42, pw_2_44, pw_2_50, pw_2_54, pw_2_56, pw_2_60, e_rev', e_mx0', e_ins', rev_lst, s_setC', mod_pos, fdiv_pos, mul_rl, mul_ll, fl_st, ix_st0, ix_st1, cell_ok, drawn_ok, Int.reduceMul, fl_tm, cst0, cst1, fl_box, fl_pt, fl_sd, ix_sd0, ix_sd1, s_ext', is_sd, isn_sd, is_fr, isn_fr, is_non, isn_non, s_selfL', s_retL', retLR_b, s_appL', e_cnt', lst_ok', e_cln', metL_t, eqw_num_num, eqw_num_var, eqw_num_power, eqw_num_sum, eqw_num_less, eqw_num_times, eqw_num_over, eqw_var_num, eqw_var_var, eqw_var_power, eqw_var_sum, eqw_var_less, eqw_var_times, eqw_var_over, eqw_power_num, eqw_power_var, eqw_power_power, eqw_power_sum, eqw_power_less, eqw_power_times, eqw_power_over, eqw_sum_num, eqw_sum_var, eqw_sum_power, eqw_sum_sum, eqw_sum_less, eqw_sum_times, eqw_sum_over, eqw_less_num, eqw_less_var, eqw_less_power, eqw_less_sum, eqw_less_less, eqw_less_times, eqw_less_over, eqw_times_num, eqw_times_var, eqw_times_power, eqw_times_sum, eqw_times_less, eqw_times_times, eqw_times_over, eqw_over_num, eqw_over_var, eqw_over_power, eqw_over_sum, eqw_over_less, eqw_over_times, eqw_over_over])

theorem in_po (o : Bo) : cmR .isin (.str o.s) (.list [.str "power", .str "over"]) = .ok (.bool (decide (o = .over))) := by
  cases o <;> exact (isin_sh (by decide +kernel) (by decide +kernel)).trans (congrArg (fun b => R.ok (PyData.bool b)) (by decide +kernel))
theorem in_po2 : cmR .isin (.str "power") (.list [.str "power", .str "over"]) = .ok (.bool true) := (isin_sh (by decide +kernel) (by decide +kernel)).trans (congrArg (fun b => R.ok (PyData.bool b)) (by decide +kernel))
theorem lawonce_ok : ∀ (t : Tm) (n : Nat) (l : List Nat), t.dep ≤ n → l.length + t.vs.length ≤ 1000 → evc tb n 1120 [tmD t, .list (l.map vD)] = .ok (.tuple [.bool (onceT t l).1, .list ((onceT t l).2.map vD)])
  | .num q, n, l, hn, hl => by
    obtain ⟨n, rfl⟩ : ∃ j, n = j + 1 := ⟨n - 1, by simp only [Tm.dep] at hn; omega⟩
    rw [evc_b bL rfl rfl]
    unfold d_law_once
    simp only [tmD]
    walk_at "cw"
    rfl
  | .var i, n, l, hn, hl => by
    obtain ⟨n, rfl⟩ : ∃ j, n = j + 1 := ⟨n - 1, by simp only [Tm.dep] at hn; omega⟩
    rw [evc_b bL rfl rfl]
    unfold d_law_once
    simp only [tmD]
    walk_at "cw"
    rw [appLR_ok (by rw [List.length_map, sizeLine_eq]; omega)]
    walk_at "cw"
    rw [show (l.map vD ++ [PyData.int (i : Int)]) = (l ++ [i]).map vD from by simp [vD], cnt_vD]
    walk_at "cw"
    have e : ((((l ++ [i]).countP fun z => z == i : Nat) : Int) == 1) = decide (i ∉ l) := by
      rw [List.countP_append]
      have z : ([i].countP fun z => z == i) = 1 := by simp
      rw [z]
      by_cases h : i ∈ l
      · have p : 0 < l.countP fun z => z == i := List.countP_pos_iff.mpr ⟨i, h, by simp⟩
        rw [decide_eq_false (by simpa using h)]
        rw [beq_eq_false_iff_ne]
        omega
      · have p : (l.countP fun z => z == i) = 0 := List.countP_eq_zero.mpr fun a ha => by
          have : a ≠ i := fun e => h (by rw [← e]; exact ha)
          simpa using this
        rw [p, decide_eq_true h]
        rfl
    rw [e]
    rfl
  | .pow t k, n, l, hn, hl => by
    obtain ⟨n, rfl⟩ : ∃ j, n = j + 1 := ⟨n - 1, by simp only [Tm.dep] at hn; omega⟩
    rw [evc_b bL rfl rfl]
    unfold d_law_once
    simp only [tmD]
    walk_at "cw"
    rw [in_po2]
    walk_at "cw"
    rfl
  | .bin o a b, n, l, hn, hl => by
    obtain ⟨n, rfl⟩ : ∃ j, n = j + 1 := ⟨n - 1, by simp only [Tm.dep] at hn; omega⟩
    simp only [Tm.dep] at hn
    simp only [Tm.vs, List.length_append] at hl
    have i1 := lawonce_ok a n l (by omega) (by omega)
    have i2 := lawonce_ok b n (onceT a l).2 (by omega) (by have := once_len a l; omega)
    have hi := in_po o
    rw [evc_b bL rfl rfl]
    unfold d_law_once
    simp only [tmD]
    by_cases ho : o = .over
    · subst ho
      simp only [Bo.s] at hi ⊢
      walk_at "cw"
      rw [hi]
      walk_at "cw"
      rfl
    · rw [once_bin ho]
      rw [decide_eq_false ho] at hi
      have fin : outR (evS (evc tb n) (.fr (.tuple [.str o.s, tmD a, tmD b]) :: .ln (l.map vD) :: []) (.retLM 1 (.and (.cl 1 1120 (.ix (.v 0) (.k (.int 1)))) (.cl 1 1120 (.ix (.v 0) (.k (.int 2))))))) = .ok (.tuple [.bool (if (onceT a l).1 = true then onceT b (onceT a l).2 else (false, (onceT a l).2)).1, .list ((if (onceT a l).1 = true then onceT b (onceT a l).2 else (false, (onceT a l).2)).2.map vD)]) := by
        have g1 : ∀ L : List D, ev (evc tb n) (.fr (.tuple [.str o.s, tmD a, tmD b]) :: .ln L :: []) (.ix (.v 0) (.k (.int 1))) = .ok (tmD a) := fun L => by walk_at "cw"
        have g2 : ∀ L : List D, ev (evc tb n) (.fr (.tuple [.str o.s, tmD a, tmD b]) :: .ln L :: []) (.ix (.v 0) (.k (.int 2))) = .ok (tmD b) := fun L => by walk_at "cw"
        cases h1 : (onceT a l).1 with
        | true =>
          rw [h1] at i1
          rw [if_pos rfl, s_retLM2 (g1 _) i1 (g2 _) i2]
          rfl
        | false =>
          rw [h1] at i1
          rw [if_neg Bool.false_ne_true, s_retLM1 (g1 _) i1]
          rfl
      cases o with
      | over => exact (ho rfl).elim
      | _ =>
        simp only [Bo.s] at hi fin ⊢
        walk_at "cw"
        rw [hi]
        walk_at "cw"
        generalize evS (evc tb n) _ (.retLM 1 _) = out at fin ⊢
        cases out <;> exact fin
theorem pick2' {u v : D} {b : Bool} : ixR (.list [u, v]) (.int (1 - if b = true then 1 else 0)) = .ok (if b = true then u else v) := by cases b <;> rfl
theorem mul_t2 {x : D} : opR .mul (.tuple [x]) (.int 2) = .ok (.tuple [x, x]) := rfl
local macro_rules | `(tactic| walk_at "cw") => `(tactic| simp -implicitDefEqProofs only [ss_nil, ss_cons, goSs_next, goSs_ret, goSs_exc, goSs_brk, goSs_cont, s_asg', s_asgL2, asgL_ok, see_cons, see1_ow, see1_fr, see1_no, see1_S, ow_0, ow_S, s_app', app_some, app_exc, s_asgT', s_par', s_ret', s_iff', s_whl', s_for', s_rais', s_expr', s_brk', s_cont', s_pass', s_try', s_tryW', tryW_ret, tryW_next, tryW_exc, tryN_ret, tryN_next, tryN_exc, e_k, e_v, e_g, e_tup', e_lst', e_bin', e_neg', e_not', e_and', e_or', e_cmp', e_cmp2', e_ife', e_ix', e_sl', e_call', e_bf', e_isi', e_lc', es_nil, es_cons, and_one, and_cons, or_one, or_cons, eo_no, eo_yes, ec_no, ec_yes, ei_seq, ei_rng1, ei_rng2, ei_zip, ei_enum, gv0, gvS, see0, fl_int, fl_bool, fl_str, fl_none, fl_tup, fl_lst, bind_ok, bind_bad, bind_exc, onR_ok, onR_exc, onR_bad, toB_bool, toB_exc, eq_int, ne_int, lt_int', le_int', gt_int', ge_int', add_int', sub_int', bf_abs, bf_max, bf_min, bf_len, bf_lenT, bf_int, bf_intB, startE, List.map_cons, List.map_nil, List.length_cons, List.length_map, List.length_nil, List.cons_append, List.nil_append, List.set_cons_zero, List.set_cons_succ, List.replicate, Nat.sub_self, Nat.reduceSub, Nat.reduceAdd, if_true, if_false, Bool.false_eq_true, reduceIte, ixT0, ixT1, ixT2, outR_ret, outR_next, outR_exc, setT, setMany, wipeE, rng1_ok, rng2_ok, not_ok, neg_ok, and_t, and_f, and_ok, and_x, or_t, or_f, or_ok, or_x, ife_b, Bool.not_true, Bool.not_false, Bool.true_and, Bool.and_true, Bool.false_and, Bool.and_false, Bool.true_or, Bool.or_true, Bool.false_or, Bool.or_false, decide_true, decide_false, beq_self_eq_true, Int.reduceBEq, Int.reduceLT, Int.reduceLE, Int.reduceAdd, Int.reduceSub, Int.reduceNeg, Int.cast_ofNat_Int, fl_fr, eq_fr, ne_fr, ix_fr0, ix_fr1, ite_self, lc_nil, lc_cons, consR_s, consR_n, bf_all, bf_any, bf_sum, bf_tup, ofO_some, bls_nil, bls_cons, ints_nil, ints_cons, Option.map_some, seq_lst, seq_tup, ixL0, ixL1, ixL2, ixL3, isi_bi, isi_bb, isi_ii, isi_ib, isi_tt, List.all_cons, List.all_nil, id, pw_10_11, pw_10_12, pw_10_13, pw_10_30, pw_10_40, pw_10_6, pw_10_9, pw_2_8, pw_2_10, pw_2_12, pw_2_13, pw_2_14, pw_2_15, pw_2_16, pw_2_17, pw_2_18, pw_2_20, pw_2_24, pw_2_25, pw_2_27, pw_2_28, pw_2_30, pw_2_32, pw_2_34, pw_2_36, pw_2_38, pw_2_40, pw_2_41, pw_2_42, pw_2_44, pw_2_50, pw_2_54, pw_2_56, pw_2_60, e_rev', e_mx0', e_ins', rev_lst, s_setC', mod_pos, fdiv_pos, mul_rl, mul_ll, fl_st, ix_st0, ix_st1, cell_ok, drawn_ok, Int.reduceMul, fl_tm, cst0, cst1, fl_box, fl_pt, fl_sd, ix_sd0, ix_sd1, s_ext', is_sd, isn_sd, is_fr, isn_fr, is_non, isn_non, s_selfL', s_retL', retLR_b, s_appL', e_cnt', lst_ok', e_cln', metL_t, pick2, pick2', eqw_num_num, eqw_num_var, eqw_num_power, eqw_num_sum, eqw_num_less, eqw_num_times, eqw_num_over, eqw_var_num, eqw_var_var, eqw_var_power, eqw_var_sum, eqw_var_less, eqw_var_times, eqw_var_over, eqw_power_num, eqw_power_var, eqw_power_power, eqw_power_sum, eqw_power_less, eqw_power_times, eqw_power_over, eqw_sum_num, eqw_sum_var, eqw_sum_power, eqw_sum_sum, eqw_sum_less, eqw_sum_times, eqw_sum_over, eqw_less_num, eqw_less_var, eqw_less_power, eqw_less_sum, eqw_less_less, eqw_less_times, eqw_less_over, eqw_times_num, eqw_times_var, eqw_times_power, eqw_times_sum, eqw_times_less, eqw_times_times, eqw_times_over, eqw_over_num, eqw_over_var, eqw_over_power, eqw_over_sum, eqw_over_less, eqw_over_times, eqw_over_over])
local macro_rules | `(tactic| walk_at "cw*") => `(tactic| simp -implicitDefEqProofs only [*, ss_nil, ss_cons, goSs_next, goSs_ret, goSs_exc, goSs_brk, goSs_cont, s_asg', s_asgL2, asgL_ok, see_cons, see1_ow, see1_fr, see1_no, see1_S, ow_0, ow_S, s_app', app_some, app_exc, s_asgT', s_par', s_ret', s_iff', s_whl', s_for', s_rais', s_expr', s_brk', s_cont', s_pass', s_try', s_tryW', tryW_ret, tryW_next, tryW_exc, tryN_ret, tryN_next, tryN_exc, e_k, e_v, e_g, e_tup', e_lst', e_bin', e_neg', e_not', e_and', e_or', e_cmp', e_cmp2', e_ife', e_ix', e_sl', e_call', e_bf', e_isi', e_lc', es_nil, es_cons, and_one, and_cons, or_one, or_cons, eo_no, eo_yes, ec_no, ec_yes, ei_seq, ei_rng1, ei_rng2, ei_zip, ei_enum, gv0, gvS, see0, fl_int, fl_bool, fl_str, fl_none, fl_tup, fl_lst, bind_ok, bind_bad, bind_exc, onR_ok, onR_exc, onR_bad, toB_bool, toB_exc, eq_int, ne_int, lt_int', le_int', gt_int', ge_int', add_int', sub_int', bf_abs, bf_max, bf_min, bf_len, bf_lenT, bf_int, bf_intB, startE, List.map_cons, List.map_nil, List.length_cons, List.length_map, List.length_nil, List.cons_append, List.nil_append, List.set_cons_zero, List.set_cons_succ, List.replicate, Nat.sub_self, Nat.reduceSub, Nat.reduceAdd, if_true, if_false, Bool.false_eq_true, reduceIte, ixT0, ixT1, ixT2, outR_ret, outR_next, outR_exc, setT, setMany, wipeE, rng1_ok, rng2_ok, not_ok, neg_ok, and_t, and_f, and_ok, and_x, or_t, or_f, or_ok, or_x, ife_b, Bool.not_true, Bool.not_false, Bool.true_and, Bool.and_true, Bool.false_and, Bool.and_false, Bool.true_or, Bool.or_true, Bool.false_or, Bool.or_false, decide_true, decide_false, beq_self_eq_true, Int.reduceBEq, Int.reduceLT, Int.reduceLE, Int.reduceAdd, Int.reduceSub, Int.reduceNeg, Int.cast_ofNat_Int, fl_fr, eq_fr, ne_fr, ix_fr0, ix_fr1, ite_self, lc_nil, lc_cons, consR_s, consR_n, bf_all, bf_any, bf_sum, bf_tup, ofO_some, bls_nil, bls_cons, ints_nil, ints_cons, Option.map_some, seq_lst, seq_tup, ixL0, ixL1, ixL2, ixL3, isi_bi, isi_bb, isi_ii, isi_ib, isi_tt, List.all_cons, List.all_nil, id, pw_10_11, pw_10_12, pw_10_13, pw_10_30, pw_10_40, pw_10_6, pw_10_9, pw_2_8, pw_2_10, pw_2_12, pw_2_13, pw_2_14, pw_2_15, pw_2_16, pw_2_17, pw_2_18, pw_2_20, pw_2_24, pw_2_25, pw_2_27, pw_2_28, pw_2_30, pw_2_32, pw_2_34, pw_2_36, pw_2_38, pw_2_40, pw_2_41, pw_2_42, pw_2_44, pw_2_50, pw_2_54, pw_2_56, pw_2_60, e_rev', e_mx0', e_ins', rev_lst, s_setC', mod_pos, fdiv_pos, mul_rl, mul_ll, fl_st, ix_st0, ix_st1, cell_ok, drawn_ok, Int.reduceMul, fl_tm, cst0, cst1, fl_box, fl_pt, fl_sd, ix_sd0, ix_sd1, s_ext', is_sd, isn_sd, is_fr, isn_fr, is_non, isn_non, s_selfL', s_retL', retLR_b, s_appL', e_cnt', lst_ok', e_cln', metL_t, pick2, pick2', eqw_num_num, eqw_num_var, eqw_num_power, eqw_num_sum, eqw_num_less, eqw_num_times, eqw_num_over, eqw_var_num, eqw_var_var, eqw_var_power, eqw_var_sum, eqw_var_less, eqw_var_times, eqw_var_over, eqw_power_num, eqw_power_var, eqw_power_power, eqw_power_sum, eqw_power_less, eqw_power_times, eqw_power_over, eqw_sum_num, eqw_sum_var, eqw_sum_power, eqw_sum_sum, eqw_sum_less, eqw_sum_times, eqw_sum_over, eqw_less_num, eqw_less_var, eqw_less_power, eqw_less_sum, eqw_less_less, eqw_less_times, eqw_less_over, eqw_times_num, eqw_times_var, eqw_times_power, eqw_times_sum, eqw_times_less, eqw_times_times, eqw_times_over, eqw_over_num, eqw_over_var, eqw_over_power, eqw_over_sum, eqw_over_less, eqw_over_times, eqw_over_over])

theorem lawhasd_ok (n : Nat) {s : Sd} {q : Rat} {a b : Nat} (h1 : Qz a s.1) (h2 : Qz a s.2) (hq : Qz b q) (hab : a + b ≤ 134217728) : evc tb (n + 2) 1013 [sd s, fr q] = .ok (.bool (hasB s q)) := lawhas_ok n h1 h2 hq hab
theorem btw_ok (n : Nat) {s : Sd} {k : Nat} (h : Qz k s.1 ∧ Qz k s.2) (hs : s.Ok) (hk : 2 * k + 8 ≤ 134217728) (m : Int) : ∃ q, evc tb (n + 2) 1012 [sd s, .int m] = .ok (fr q) ∧ s.Has q ∧ Qz (2 * k + 8) q := by
  obtain ⟨q, h1, h2, h3, h4⟩ := between_ok (T := tb) n h.1 h.2 hs hk m
  exact ⟨q, h1, ⟨h2, h3⟩, h4⟩
def ordS (p q : Rat) : Sd := if q < p then (q, p) else (p, q)
theorem ordS_in {p q : Rat} {s : Sd} (hp : s.Has p) (hq : s.Has q) : (ordS p q).In s ∧ (ordS p q).Ok := by
  unfold ordS
  split
  · rename_i h; exact ⟨⟨hq.1, hp.2⟩, Rat.le_of_lt h⟩
  · rename_i h; exact ⟨⟨hp.1, hq.2⟩, Rat.not_lt.mp h⟩
theorem ordS_qz {p q : Rat} {k : Nat} (hp : Qz k p) (hq : Qz k q) : Qz k (ordS p q).1 ∧ Qz k (ordS p q).2 := by
  unfold ordS
  split
  · exact ⟨hq, hp⟩
  · exact ⟨hp, hq⟩
theorem dk_frL (l : List Rat) : Dk 2 (.list (l.map fr)) := Dk.list (by
  intro x hx
  obtain ⟨y, _, rfl⟩ := List.mem_map.mp hx
  exact dk_fr _)
theorem ne_nilD {l : List D} (h : SeqAt.shaped (.list l) = true) : cmR .ne (.list l) (.list []) = .ok (.bool (!l.isEmpty)) := by
  rw [ne_sh h rfl]
  cases l <;> rfl
abbrev innB : Ss := (.cons (.asg 13 [] (.lst (.cons (.call 1012 (.cons (.v 11) (.cons (.bin .fdiv (.v 2) (.k (.int 13))) .nil))) (.cons (.call 1012 (.cons (.v 11) (.cons (.bin .fdiv (.v 2) (.k (.int 17))) .nil))) .nil)))) (.cons (.app 10 [] (.tup (.cons (.ix (.v 13) (.bf .int (.cons (.call 1010 (.cons (.ix (.v 13) (.k (.int 1))) (.cons (.ix (.v 13) (.k (.int 0))) .nil))) .nil))) (.cons (.ix (.v 13) (.bin .sub (.k (.int 1)) (.bf .int (.cons (.call 1010 (.cons (.ix (.v 13) (.k (.int 1))) (.cons (.ix (.v 13) (.k (.int 0))) .nil))) .nil)))) .nil)))) .nil))
theorem inner_loop (n : Nat) {k : Nat} (hk : 2 * (2 * k + 8) ≤ 134217728) (s0 s1 s3 s4 s5 s6 s7 s8 s9 s12 s14 s15 : Sl) (m : Int) : ∀ (r acc : List Sd) (s11 s13 : Sl), Bz k r → BOk r → acc.length + r.length ≤ 1000 → ∃ c s11' s13', forS (evc tb (n + 2)) (.one 11) innB (r.map sd) [s0, s1, .fr (.int m), s3, s4, s5, s6, s7, s8, s9, .ow (acc.map sd), s11, s12, s13, s14, s15] = .next [s0, s1, .fr (.int m), s3, s4, s5, s6, s7, s8, s9, .ow ((acc ++ c).map sd), s11', s12, s13', s14, s15] ∧ c.length = r.length ∧ Bz (2 * k + 8) c ∧ BOk c ∧ BIn c r
  | [], acc, s11, s13, _, _, _ => ⟨[], s11, s13, by rw [List.map_nil, for_nil, List.append_nil], rfl, (fun _ h => by cases h), (fun _ h => by cases h), (fun i s h => by simp at h)⟩
  | s :: r, acc, s11, s13, hz, hok, hl => by
    have zs := hz s List.mem_cons_self
    have os := hok s List.mem_cons_self
    obtain ⟨p, p1, p2, p3⟩ := btw_ok n zs os (by omega) (m / 13)
    obtain ⟨q, q1, q2, q3⟩ := btw_ok n zs os (by omega) (m / 17)
    obtain ⟨c, s11', s13', z, c1, c2, c3, c4⟩ := inner_loop n hk s0 s1 s3 s4 s5 s6 s7 s8 s9 s12 s14 s15 m r (acc ++ [ordS p q]) (.fr (sd s)) (.fr (.list [fr p, fr q])) (fun u hu => hz u (List.mem_cons_of_mem _ hu)) (fun u hu => hok u (List.mem_cons_of_mem _ hu)) (by simp at hl ⊢; omega)
    obtain ⟨o1, o2⟩ := ordS_in p2 q2
    have o3 := ordS_qz p3 q3
    refine ⟨ordS p q :: c, s11', s13', ?_, by simp [c1], ?_, ?_, ?_⟩
    · rw [List.map_cons, show acc ++ ordS p q :: c = acc ++ [ordS p q] ++ c from by simp, ← z]
      refine for_step (e2 := [s0, s1, .fr (.int m), s3, s4, s5, s6, s7, s8, s9, .ow (acc.map sd), .fr (sd s), s12, s13, s14, s15]) rfl ?_
      walk_at "cw"
      rw [p1, q1]
      walk_at "cw"
      rw [less_ok _ q3 p3 (by omega)]
      walk_at "cw"
      rw [if_pos (by rw [sizeLine_eq]; simp at hl ⊢; omega)]
      walk_at "cw"
      have e : (PyData.tuple [if decide (q < p) = true then fr q else fr p, if decide (q < p) = true then fr p else fr q]) = sd (ordS p q) := by
        unfold ordS
        by_cases h : q < p
        · rw [decide_eq_true h, if_pos h]; rfl
        · rw [decide_eq_false h, if_neg h]; rfl
      rw [e]
      simp
    · intro u hu
      rcases List.mem_cons.mp hu with e | hu
      · rw [e]; exact o3
      · exact c2 u hu
    · intro u hu
      rcases List.mem_cons.mp hu with e | hu
      · rw [e]; exact o2
      · exact c3 u hu
    · intro i u hu
      cases i with
      | zero => cases hu; exact ⟨_, rfl, o1⟩
      | succ i => exact c4 i u (by simpa using hu)
theorem inn_lc (n : Nat) {l : List Rat} {e : Rat} {a b : Nat} {s0 s1 s2 s3 s4 s5 s6 s7 s9 s10 : Sl} (hl : ∀ x ∈ l, Qz a x) (he : Qz b e) (hab : a + b ≤ 134217728) : lcS (evc tb n) [7] (.v 7) (.one 7) (.yes (.cmp .eq (.bin .mul (.ix (.v 7) (.k (.int 0))) (.ix (.v 8) (.k (.int 1)))) (.bin .mul (.ix (.v 8) (.k (.int 0))) (.ix (.v 7) (.k (.int 1)))))) [s0, s1, s2, s3, s4, s5, s6, s7, .fr (fr e), s9, s10] (l.map fr) = .ok ((l.filter fun x => (x.num * e.den == e.num * x.den)).map fr) := by
  rw [lc_if fr fr (fun x => (x.num * e.den == e.num * x.den)) (by
    intro x hx
    refine ⟨_, rfl, ?_, ?_⟩
    · walk_at "cw"
      rw [mul_sz (hl x hx).num he.den hab, mul_sz he.num (hl x hx).den (by omega)]
      walk_at "cw"
    · walk_at "cw")]
theorem ne_end {l : List Rat} {e : Rat} (hm : e ∈ l) : cmR .ne (.list ((l.filter fun x => (x.num * e.den == e.num * x.den)).map fr)) (.list []) = .ok (.bool true) := by
  rw [ne_nilD ((dk_frL _).sh (by decide))]
  have : e ∈ l.filter fun x => (x.num * e.den == e.num * x.den) := List.mem_filter.mpr ⟨hm, by simp⟩
  cases hq : l.filter fun x => (x.num * e.den == e.num * x.den) with
  | nil => rw [hq] at this; cases this
  | cons y ys => rfl
theorem right_ok (n : Nat) {t : Tm} {v k Z : Nat} {b : List Sd} {g : Sd} (hz : Bz k b) (hok : BOk b) (ht : t.shp v) (hv : v ≤ b.length) (hl : b.length ≤ 3) (hg : Qz Z g.1 ∧ Qz Z g.2) (hs : t.sz (2 * k + 8) + 4 + Z + 2 * k + 8 ≤ 134217728) (hs2 : t.sz k + 4 + Z ≤ 134217728) (hd : t.dep ≤ n) (hd5 : t.dep ≤ 5)
    (hc : cov b t = some g) (m : Int) : evc tb (n + 3) 1121 [tmD t, boxD b, sd g, .int m] = .ok (.bool true) := by
  rw [evc_b bL rfl rfl]
  unfold d_law_right
  walk_at "cw"
  rw [show isiR .tuple (sd g) = .ok (.bool true) from rfl, is_fraction_ok, is_fraction_ok]
  walk_at "cw"
  rw [show rngR 0 5 = .ok (rngL 0 5) from rng_nat (n := 5) (by decide)]
  walk_at "cw"
  refine for_post (Q := fun o => outR o = .ok (.bool true)) (fun _ e => ∃ s4 s6 s7, e = [.fr (tmD t), .fr (boxD b), .fr (sd g), .fr (.int m), s4, .no, s6, s7, .no, .no, .no]) ⟨_, _, _, rfl⟩ ?_ ?_
  · rintro j d e hd' ⟨s4, s6, s7, rfl⟩
    obtain ⟨hj, rfl⟩ := rngL_get hd'
    refine ⟨_, rfl, ?_⟩
    rw [Int.zero_add]
    walk_at "cw"
    rw [show enumR (boxD b) = .ok (enumL 0 (b.map sd)) from enum_tup (by simp [sizeLine_eq]; omega)]
    walk_at "cw"
    have key : ∀ (r : List Sd) (i : Nat), Bz k r → BOk r → ∃ x : List Rat, lcS (evc tb (n + 2)) [9, 10] (.call 1012 (.cons (.v 10) (.cons (.bin .fdiv (.v 3) (.bin .add (.bin .add (.k (.int 7)) (.bin .mul (.k (.int 3)) (.v 4))) (.v 9))) .nil))) (.many [9, 10]) .no [.fr (tmD t), .fr (boxD b), .fr (sd g), .fr (.int m), .fr (.int j), .no, s6, s7, .no, .no, .no] (enumL i (r.map sd)) = .ok (x.map fr) ∧ x.length = r.length ∧ (∀ y ∈ x, Qz (2 * k + 8) y) ∧ ∀ q ∈ x.zip r, q.2.Has q.1 := by
      intro r
      induction r with
      | nil => intro i _ _; exact ⟨[], by simp only [List.map_nil, enumL]; exact lc_nil, rfl, by simp, by simp⟩
      | cons s r ih =>
        intro i hz hok
        obtain ⟨x, x1, x2, x3, x4⟩ := ih (i + 1) (fun u hu => hz u (List.mem_cons_of_mem _ hu)) (fun u hu => hok u (List.mem_cons_of_mem _ hu))
        obtain ⟨p, p1, p2, p3⟩ := btw_ok n (hz s List.mem_cons_self) (hok s List.mem_cons_self) (by omega) (m / (7 + 3 * (j : Int) + i))
        refine ⟨p :: x, ?_, by simp [x2], ?_, ?_⟩
        · simp only [List.map_cons, enumL]
          rw [lc_cons, x1]
          walk_at "cw"
          rw [fdiv_pos (by omega)]
          walk_at "cw"
          rw [p1]
          walk_at "cw"
        · intro y hy
          rcases List.mem_cons.mp hy with e | hy
          · rw [e]; exact p3
          · exact x3 y hy
        · intro q hq
          rw [List.zip_cons_cons] at hq
          rcases List.mem_cons.mp hq with e | hq
          · rw [e]; exact p2
          · exact x4 q hq
    obtain ⟨x, x1, x2, x3, x4⟩ := key b 0 hz hok
    rw [x1]
    walk_at "cw"
    obtain ⟨q, hq, hgq⟩ := cov_sound (PIn.of_zip x2 x4) hc
    have lw := lawworth_ok (T := tb) x3 (v := v) (by omega) t n ht (by omega) hd
    rw [show (.tuple (x.map fr) : D) = ptD x from rfl, lw, hq]
    simp only [oD]
    walk_at "cw"
    rw [lawhasd_ok _ hg.1 hg.2 (w_qz x3 ht hq) (by omega), hasB_iff.mpr hgq]
    walk_at "cw"
    exact .next ⟨_, _, _, rfl⟩
  · rintro e ⟨s4, s6, s7, rfl⟩
    have lo := lawonce_ok t (n + 2) [] (by omega) (by
      have z := vs_dep t
      have : 2 ^ (t.dep - 1) ≤ 2 ^ 4 := Nat.pow_le_pow_right (by decide) (by omega)
      simp; omega)
    rw [List.map_nil] at lo
    walk_at "cw"
    rw [lo]
    walk_at "cw"
    cases h1 : (onceT t []).1 with
    | false => walk_at "cw"
    | true =>
      obtain ⟨o1, o2, o3, o4⟩ := once_told t [] h1
      obtain ⟨⟨c1, e1⟩, ⟨c2, e2⟩⟩ := once_ends o1 o3 hc
      walk_at "cw"
      rw [lawcorn_ok _ (by omega)]
      walk_at "cw"
      have cl : ∀ p ∈ lcorn b, p.length = b.length := fun p hp => by
        have := corn_mem_len b [[]] 0 (by simp) p hp
        omega
      have cz : ∀ p ∈ lcorn b, ∀ x ∈ p, Qz k x := corn_mem_ends b [[]] (Qz k) hz (by simp)
      have cin : ∀ p ∈ lcorn b, ∃ q, t.w p = some q := fun p hp => by
        obtain ⟨q, hq, _⟩ := cov_sound (p := p) (lcorn_in hok p hp) hc
        exact ⟨q, hq⟩
      rw [lc_fun ptD (fun p => fr ((t.w p).getD 0)) (by
        intro p hp
        refine ⟨_, rfl, ?_⟩
        obtain ⟨q, hq⟩ := cin p hp
        have lw := lawworth_ok (T := tb) (cz p hp) (v := v) (by have := cl p hp; omega) t n ht (by omega) hd
        rw [hq] at lw ⊢
        walk_at "cw"
        exact lw)]
      walk_at "cw"
      have hzl : ∀ y ∈ (lcorn b).map fun p => (t.w p).getD 0, Qz (t.sz k) y := by
        intro y hy
        obtain ⟨p, hp, rfl⟩ := List.mem_map.mp hy
        obtain ⟨q, hq⟩ := cin p hp
        rw [hq]
        exact w_qz (cz p hp) ht hq
      have mm : ∀ {c : Nat → Bool} {y : Rat}, t.w (cpt c b) = some y → y ∈ (lcorn b).map fun p => (t.w p).getD 0 := by
        intro c y hw
        exact List.mem_map.mpr ⟨_, cpt_corn c b, by rw [hw]; rfl⟩
      rw [show (.list ((lcorn b).map fun p => fr ((t.w p).getD 0)) : D) = .list (((lcorn b).map fun p => (t.w p).getD 0).map fr) from by rw [List.map_map]; rfl]
      rw [show seqR (sd g) = .ok ([g.1, g.2].map fr) from rfl]
      walk_at "cw"
      rw [inn_lc _ hzl hg.1 (by omega), inn_lc _ hzl hg.2 (by omega)]
      walk_at "cw"
      rw [ne_end (mm e1), ne_end (mm e2)]
      walk_at "cw"
theorem law_true : ∀ ns : List Int, ns.length ≤ 63 → evc tb (25 + 1) 1122 [.list (ns.map PyData.int)] = .ok (.bool true) := by
  intro ns hns
  rw [evc_b bL rfl rfl]
  unfold d_law
  walk_at "cw"
  rw [rng_ok ⟨by omega, by omega, by omega, by omega, by omega⟩]
  walk_at "cw"
  refine for_post (Q := fun o => outR o = .ok (.bool true)) (fun _ e => ∃ s1 s2 s3 s4 s5 s6 s7 s8 s9 s10 s11 s12 s13, e = [.fr (.list (ns.map PyData.int)), s1, s2, s3, s4, s5, s6, s7, s8, s9, s10, s11, s12, s13, .no, .no]) ⟨_, _, _, _, _, _, _, _, _, _, _, _, _, rfl⟩ ?_ ?_
  · rintro k d e hd ⟨s1, s2, s3, s4, s5, s6, s7, s8, s9, s10, s11, s12, s13, rfl⟩
    obtain ⟨hk, rfl⟩ := rngL_get hd
    refine ⟨_, rfl, ?_⟩
    rw [Int.zero_add]
    walk_at "cw"
    generalize hm : drawF (cellF ns k) k = m
    have hm0 : 0 ≤ m := by rw [← hm]; exact drawF_nn _ _
    obtain ⟨v, hv, hv1, hv3⟩ : ∃ v : Nat, 1 + m % 3 = (v : Int) ∧ 1 ≤ v ∧ v ≤ 3 := ⟨(1 + m % 3).toNat, by omega, by omega, by omega⟩
    rw [hv, show (7 : Int) * k = ((7 * k : Nat) : Int) from by omega]
    obtain ⟨t, ht, g, hd5, hw⟩ := term_ok (T := tb) ns hv1 17 (7 * k)
    rw [ht]
    walk_at "cw"
    rw [mul_l (by omega)]
    walk_at "cw"
    obtain ⟨L, hL, hL1, hL3⟩ : ∃ L : Nat, (v : Int) + m / 4 % 2 * (if decide ((v : Int) < 3) = true then 1 else 0) = (L : Int) ∧ v ≤ L ∧ L ≤ 3 := by
      by_cases h3 : (v : Int) < 3
      · rw [decide_eq_true h3, if_pos rfl]
        exact ⟨v + (m / 4 % 2).toNat, by omega, by omega, by omega⟩
      · rw [decide_eq_false h3, if_neg Bool.false_ne_true]
        exact ⟨v, by omega, by omega, by omega⟩
    rw [hL, rng_nat (by omega)]
    walk_at "cw"
    obtain ⟨b, b1, b2, b3⟩ := lc_ex (F := evc tb 25) (own := [14]) (elt := (.call 1036 (.cons (.bin .add (.bin .mul (.bin .fdiv (.v 2) (.bin .add (.k (.int 3)) (.bin .mul (.k (.int 5)) (.v 14)))) (.k (.int 7))) (.v 14)) .nil))) (tg := .one 14) (env := [.fr (.list (ns.map PyData.int)), .fr (.int k), .fr (.int m), .fr (.int v), .fr (tmD t), s5, s6, s7, s8, s9, s10, s11, s12, s13, .no, .no]) sd (fun s => s.Ok ∧ Qz 20 s.1 ∧ Qz 20 s.2) (ds := rngL 0 L) (by
      intro d hd
      obtain ⟨i, hi, rfl⟩ := rngL_mem hd
      rw [Int.zero_add]
      obtain ⟨s, h1, h2⟩ := side_ok (T := tb) 23 (m := m / (3 + 5 * (i : Int)) * 7 + i) (by
        have := Int.ediv_nonneg hm0 (show (0 : Int) ≤ 3 + 5 * i by omega)
        omega)
      refine ⟨_, s, rfl, ?_, h2⟩
      walk_at "cw"
      rw [fdiv_pos (by omega)]
      walk_at "cw"
      exact h1)
    rw [rngL_len] at b2
    have bok : BOk b := fun s h => (b3 s h).1
    have bz : Bz 20 b := fun s h => (b3 s h).2
    rw [b1]
    walk_at "cw"
    rw [show (.tuple (b.map sd) : D) = boxD b from rfl]
    have hb := sz_le (g.mono (show 40 ≤ 48 by decide))
    have hb20 := sz_le (m := 40) (g.mono (show 40 ≤ 40 by decide))
    have h8 : 6 ^ (t.dep - 1) ≤ 6 ^ 4 := Nat.pow_le_pow_right (by decide) (by omega)
    have h9 : (48 + 1) * 6 ^ (t.dep - 1) ≤ (48 + 1) * 6 ^ 4 := Nat.mul_le_mul_left _ h8
    have h940 : (40 + 1) * 6 ^ (t.dep - 1) ≤ (40 + 1) * 6 ^ 4 := Nat.mul_le_mul_left _ h8
    have bz40 := bz_mono bz (show 20 ≤ 40 by decide)
    rw [cover_ok (T := tb) bz40 bok (by omega) t 19 g.shp (by omega) (by omega)]
    walk_at "cw"
    rw [show seqR (boxD b) = .ok (b.map sd) from rfl]
    walk_at "cw"
    obtain ⟨c, c1, c2, c3⟩ := lc_ex (F := evc tb 25) (own := [11]) (elt := (.call 1012 (.cons (.v 11) (.cons (.bin .fdiv (.v 2) (.k (.int 11))) .nil)))) (tg := .one 11) (env := [.fr (.list (ns.map PyData.int)), .fr (.int k), .fr (.int m), .fr (.int v), .fr (tmD t), .fr (boxD b), .fr (osD (cov b t)), s7, s8, s9, s10, s11, s12, s13, .no, .no]) fr (Qz 48) (ds := b.map sd) (by
      intro d hd
      obtain ⟨s, hs, rfl⟩ := List.mem_map.mp hd
      obtain ⟨q, h1, _, h3⟩ := btw_ok 23 (bz s hs) (bok s hs) (by decide) (m / 11)
      refine ⟨_, q, rfl, ?_, h3⟩
      walk_at "cw"
      exact h1)
    rw [List.length_map] at c2
    rw [c1]
    walk_at "cw"
    rw [show (.tuple (c.map fr) : D) = ptD c from rfl]
    rw [lc_fun fr (fun x => sd (x, x)) (by
      intro x hx
      exact ⟨_, rfl, by walk_at "cw"; rfl⟩)]
    walk_at "cw"
    rw [show (.tuple (c.map fun x => sd (x, x)) : D) = boxD (ptB c) from by unfold boxD ptB; rw [List.map_map]; rfl]
    have ptl : (ptB c).length = L := by unfold ptB; simp [c2, b2]
    rw [cover_ok (T := tb) (bz_pt c3) (pt_ok c) (by omega) t 19 g.shp (by omega) (by omega), show cov (ptB c) t = (t.w c).map fun q => (q, q) from cov_pt c t]
    have lw := lawworth_ok (T := tb) c3 (v := v) (by omega) t 23 g.shp (by omega) (by omega)
    walk_at "cw"
    rw [lw]
    walk_at "cw"
    refine go_join (Q := Nx _) (fun e => ∃ s8 s9, e = [.fr (.list (ns.map PyData.int)), .fr (.int k), .fr (.int m), .fr (.int v), .fr (tmD t), .fr (boxD b), .fr (osD (cov b t)), .fr (ptD c), s8, s9, s10, s11, s12, s13, .no, .no]) ?_ ?_
    · cases hq : t.w c with
      | none =>
        simp only [osD, oD, Option.map_none]
        walk_at "cw"
        exact .mk ⟨_, _, rfl⟩
      | some q =>
        simp only [osD, oD, Option.map_some]
        walk_at "cw"
        rw [made_ok _ _ (den_pos q), Rat.num_divInt_den]
        walk_at "cw"
        rw [mul_t2]
        walk_at "cw"
        rw [show (.tuple [fr q, fr q] : D) = sd (q, q) from rfl, ne_dk (dk_sd _) (by decide)]
        walk_at "cw"
        exact .mk ⟨_, _, rfl⟩
    clear lw
    rintro e ⟨s8, s9, rfl⟩
    cases hc : cov b t with
    | none =>
      simp only [osD]
      walk_at "cw"
      exact .cont ⟨_, _, _, _, _, _, _, _, _, _, _, _, _, rfl⟩
    | some gg =>
      have zg := cov_qz bz40 hc
      have ri := right_ok 22 (g := gg) bz bok g.shp (by omega) (by omega) zg (by rw [show 2 * 20 + 8 = 48 from rfl]; omega) (by
        have := sz_mono (t := t) (show 20 ≤ 40 by decide)
        omega) (by omega) (by omega) hc (m / 64)
      obtain ⟨w, s11', s13', w1, w2, w3, w4, w5⟩ := inner_loop 23 (k := 20) (by decide) (.fr (.list (ns.map PyData.int))) (.fr (.int k)) (.fr (.int v)) (.fr (tmD t)) (.fr (boxD b)) (.fr (sd gg)) (.fr (ptD c)) s8 s9 s12 .no .no m b [] s11 s13 bz bok (by simp; omega)
      obtain ⟨g2, hg2, hin⟩ := cov_mono w4 w5 hc
      have gok := cov_ok w4 hg2
      have zg2 := cov_qz w3 hg2
      rw [List.map_nil, show (23 + 2 : Nat) = 25 from rfl] at w1
      unfold innB at w1
      simp only [osD]
      walk_at "cw"
      rw [ri]
      walk_at "cw"
      rw [show seqR (boxD b) = .ok (b.map sd) from rfl]
      walk_at "cw"
      rw [w1]
      walk_at "cw"
      rw [show (.tuple (w.map sd) : D) = boxD w from rfl]
      rw [cover_ok (T := tb) w3 w4 (by omega) t 19 g.shp (by rw [show 2 * 20 + 8 = 48 from rfl]; omega) (by omega), hg2]
      simp only [osD]
      walk_at "cw"
      rw [lawhasd_ok _ zg.1 zg.2 zg2.1 (by rw [show 2 * 20 + 8 = 48 from rfl]; omega), lawhasd_ok _ zg.1 zg.2 zg2.2 (by rw [show 2 * 20 + 8 = 48 from rfl]; omega), hasB_iff.mpr (show gg.Has g2.1 from ⟨hin.1, Rat.le_trans gok hin.2⟩), hasB_iff.mpr (show gg.Has g2.2 from ⟨Rat.le_trans hin.1 gok, hin.2⟩)]
      walk_at "cw"
      exact .next ⟨_, _, _, _, _, _, _, _, _, _, _, _, _, rfl⟩
  · rintro e ⟨s1, s2, s3, s4, s5, s6, s7, s8, s9, s10, s11, s12, s13, rfl⟩
    walk_at "cw"

end K20
open PySem PySem.W PySem.Calls PyProof.Rows
theorem PySem.Challenge.cw_closewright_k20_whole_covers_holds : PySem.Challenge.rw_closewright_k20_whole_covers.Holds := by
  w_on; o_law
  refine HandSHeadRun.head_any (r := OpenLaw.row PySem.Challenge.rw_closewright_k20_whole_covers) (q := view (OpenLaw.row PySem.Challenge.rw_closewright_k20_whole_covers).prog [47]) (H := K20.hk) (ob := K20.ob) (M := 6000) (loose := K20.names) (d := HandSHeadRun.topDef (OpenLaw.row PySem.Challenge.rw_closewright_k20_whole_covers).prog 47) (kwd := []) K20.ob_eq
    (by kernel_rfl) (fun s => by kernel_rfl) K20.run (by kernel_rfl) (by kernel_rfl) (by kernel_rfl) (by rfl) (by first | assumption | decide +kernel) (by decide +kernel) ⟨rfl, rfl, rfl, rfl, rfl, by decide +kernel⟩ ?hw ?hc
  case hw => w_witness2
  case hc =>
    refine Cw.walk_fin (l := PySem.Challenge.rw_closewright_k20_whole_covers) (n := 63) (k := 2 * (25 + 1) + 45) (x := "script") rfl (by decide) (by kernel_rfl) ⟨rfl, by decide, by decide⟩ (by kernel_rfl) ?F
    intro w mg fa h Y G hmg0
    obtain ⟨K, KX, c⟩ := Y
    have hmg : mg ("law" : PySem.Str) = some (.ref fa) := by
      have e : (HandSHeadRun.topDef (OpenLaw.row PySem.Challenge.rw_closewright_k20_whole_covers).prog 47).name = ("law" : PySem.Str) := by kernel_rfl
      rw [← e]
      exact hmg0
    exact Cw.txt_law (t := K20.txt) KX G hmg rfl K20.look K20.lookW K20.lookM c.t c.more (by decide +kernel) (by decide +kernel) (by decide +kernel) K20.law_true
