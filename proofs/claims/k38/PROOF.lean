import PyProof.Rows.All
import Wide.All
import OpenK.AllK
import Wide.FinOn
import HandS.SetFor
import HandS.Strs
import KE.SortData
import HandS.TupSets
import KE.KeyNested
import KE.LtData
import HandS.Iter
import HandS.Zip
import KE.GoesEnum
import HandS.List
import HandS.Style
import HandS.ForMost
import HandS.Deep
import HandS.TupAny
import HandS.TupMul
import HandS.Conv
import HandS.IsInst
import HandS.Evl
import HandS.Text
import KE.KDictSum
import HandS.More
import HandS.Dict
import HandS.NoneIn
import PyProof.StrLawsRepr
import PySem.Challenge.RW_mannerports_k38_rows_of_tables
set_option Elab.async false
set_option linter.all false
set_option maxRecDepth 100000
/-! Sets made of a list of things that are hashed by what they are: any key kind. -/
namespace Ps
open PySem PySem.Spec PyProof.Rows L2
section
variable {P : Program} {w : World} {K : Type} [DecidableEq K]
/-- the keys, in the order in which they came first -/
def uniqK : List K → List K → List K
  | acc, [] => acc
  | acc, k :: r => uniqK (if k ∈ acc then acc else acc ++ [k]) r
/-- entry and key -/
def Fit (kd : KeyKind P w K) (p : (Int × Value) × K) : Prop := kd.is p.2 p.1.2 = true ∧ p.1.1 = kd.hash p.2 ∧ p.1.2.scannable = true
def KSet (kd : KeyKind P w K) (h : Heap) (a : Addr) (ks : List K) : Prop :=
  ∃ o es ep t, h.get? a = some o ∧ o.ExactSet ∧ o.data = .set es ep t ∧ (∃ L : List ((Int × Value) × K), (L.map (·.1)).Perm es.toList ∧ L.map (·.2) = ks ∧ ∀ p ∈ L, Fit kd p) ∧ ks.Nodup ∧
    es.size < scanBound ∧ t.fits es.size = true ∧ Ris t.place.toList ∧ (w.params.followText "set-order" = true ∨ t.led = true)
variable {kd : KeyKind P w K}
theorem KSet.at {h h' : Heap} {a : Addr} {ks : List K} (R : KSet kd h a ks) (k : ∀ o, h.get? a = some o → h'.get? a = some o) : KSet kd h' a ks := by
  obtain ⟨o, es, ep, t, ho, z⟩ := R
  exact ⟨o, es, ep, t, k o ho, z⟩
theorem fit_elems {es : List (Int × Value)} {L : List ((Int × Value) × K)} (p : (L.map (·.1)).Perm es) (f : ∀ p ∈ L, Fit kd p) : ElemsOf kd es := fun e me => by
  obtain ⟨q, mq, rfl⟩ := List.mem_map.mp (p.mem_iff.mpr me)
  obtain ⟨f1, f2, f3⟩ := f q mq
  exact ⟨⟨q.2, f1, f2⟩, f3⟩
theorem fit_mem {es : List (Int × Value)} {L : List ((Int × Value) × K)} (p : (L.map (·.1)).Perm es) (f : ∀ p ∈ L, Fit kd p) (k : K) : (∃ e ∈ es, kd.is k e.2 = true) ↔ k ∈ L.map (·.2) := by
  constructor
  · rintro ⟨e, me, hk⟩
    obtain ⟨q, mq, rfl⟩ := List.mem_map.mp (p.mem_iff.mpr me)
    rw [kd.inj _ _ _ hk (f q mq).1]
    exact List.mem_map.mpr ⟨q, mq, rfl⟩
  · intro m
    obtain ⟨q, mq, rfl⟩ := List.mem_map.mp m
    exact ⟨q.1, p.mem_iff.mp (List.mem_map.mpr ⟨q, mq, rfl⟩), (f q mq).1⟩
variable {A : Around} {E : Value → Shared → Prop} {s : Shared} {a : Addr} {ks : List K}
theorem kset_tail {gv : Bool → Sem Unit} (gvOk : ∀ (b : Bool) (s1 : Shared) (Q1 : Unit → Shared → Prop), Q1 () s1 → wpAny (model P w) A (gv b) Q1 E s1)
    {ob : Obj} {e0 : Array (Int × Value)} {n0 : Nat} {t0 : SetTable} (hob : s.heap.get? a = some ob) (hx : ob.ExactSet) (hdt : ob.data = .set e0 n0 t0)
    {e1 : Array (Int × Value)} {t1 : SetTable} {L : List ((Int × Value) × K)} (pL : (L.map (·.1)).Perm e1.toList) (fL : ∀ p ∈ L, Fit kd p) (nd : (L.map (·.2)).Nodup)
    (sz : e1.size < scanBound) (ft : t1.fits e1.size = true) (rs : Ris t1.place.toList) (ld : w.params.followText "set-order" = true ∨ t1.led = true) {dum : Bool} {Q : Option Bool → Shared → Prop}
    (fin : ∀ h1, Heap.SameBut a s.heap h1 → KSet kd h1 a (L.map (·.2)) → Q (some true) { s with heap := h1 }) :
    wpAny (model P w) A (do
        storeSet a e1 t1
        if (!dum && t1.tooFull) = true then do
            gv (relayAll t1 e1 (SetTable.grown e1.size)).2.2
            storeSet a (relayAll t1 e1 (SetTable.grown e1.size)).1 (relayAll t1 e1 (SetTable.grown e1.size)).2.1
            pure (some true)
          else pure (some true)) Q E s := by
  refine wpAny_bind (wpAny_storeSet_of hob hdt ?_ (fits_of_scanBound sz))
  have hob1 := store_at (es' := e1) (t' := t1) hob hdt
  have same1 := Heap.SameBut.update s.heap a (Obj.putSet e1 t1)
  split
  · have q1 := relayAll_perm t1 e1 (SetTable.grown e1.size)
    have q2 := relayAll_fits t1 e1 (SetTable.grown e1.size)
    have q3 := relayAll_ris t1 e1 (SetTable.grown e1.size)
    have q4 := relayAll_led t1 e1 (SetTable.grown e1.size)
    generalize relayAll t1 e1 (SetTable.grown e1.size) = Y at q1 q2 q3 q4 ⊢
    obtain ⟨e2, t2, gave⟩ := Y
    dsimp only at q1 q2 q3 q4 ⊢
    have sz2 : e2.size < scanBound := by
      have : e2.size = e1.size := by rw [← Array.length_toList, q1.length_eq, Array.length_toList]
      rw [this]
      exact sz
    refine wpAny_bind (gvOk _ _ _ ?_)
    refine wpAny_bind (wpAny_storeSet_of hob1 rfl ?_ (fits_of_scanBound sz2))
    have hob2 := store_at (es' := e2) (t' := t2) hob1 rfl
    exact wpAny_pure (fin _ (same1.trans (Heap.SameBut.update _ a _)) ⟨_, e2, _, t2, hob2, hx, rfl, ⟨L, pL.trans q1.symm, rfl, fL⟩, nd, sz2, q2, q3, ld.imp id fun z => by rw [q4]; exact z⟩)
  · exact wpAny_pure (fin _ same1 ⟨_, e1, _, t1, hob1, hx, rfl, ⟨L, pL, rfl, fL⟩, nd, sz, ft, rs, ld⟩)
theorem kset_add {k : K} {v : Value} {Q : Bool → Shared → Prop} (R : KSet kd s.heap a ks) (hk : kd.is k v = true) (hv : v.scannable = true) (room : ks.length + 1 < scanBound)
    (hQ : ∀ b h1, Heap.SameBut a s.heap h1 → KSet kd h1 a (if k ∈ ks then ks else ks ++ [k]) → Q b { s with heap := h1 }) :
    wpAny (model P w) A (setAddHashed a v (kd.hash k)) Q E s := by
  obtain ⟨ob, e0, n0, t0, hob, hx, hdt, ⟨L, pL, rfl, fL⟩, nd, sz, ft, rs, ld⟩ := R
  have els : ElemsOf kd e0.toList := fit_elems pL fL
  have len0 : e0.size = L.length := by rw [← Array.length_toList, ← pL.length_eq, List.length_map]
  unfold setAddHashed setAddHashedIn
  refine wpAny_holding (wpAny_bind (wpAny_setState_of hob hdt ft ?_))
  dsimp only
  rw [byScan_of hv sz els]
  simp only [↓reduceIte]
  unfold setAddByScan
  refine wpAny_bind (wpAny_bind (wpAny_rule (wpAny_bind (wpAny_setScan_of hk hob hdt ft els ?_))))
  cases fi : List.findIdx? (fun e => kd.is k e.2) e0.toList with
  | some j =>
    dsimp only
    obtain ⟨hj, pj, _⟩ := List.findIdx?_eq_some_iff_getElem.mp fi
    have mk : k ∈ L.map (·.2) := (fit_mem pL fL k).mp ⟨_, List.getElem_mem hj, pj⟩
    refine wpAny_pure (wpAny_pure (hQ false s.heap (Heap.SameBut.refl a s.heap) ?_))
    rw [if_pos mk]
    exact ⟨ob, e0, n0, t0, hob, hx, hdt, ⟨L, pL, rfl, fL⟩, nd, sz, ft, rs, ld⟩
  | none =>
    dsimp only
    have nk : k ∉ L.map (·.2) := fun m => by
      obtain ⟨e, me, q⟩ := (fit_mem pL fL k).mpr m
      have := List.findIdx?_eq_none_iff.mp fi e me
      rw [q] at this
      cases this
    have gvr : ∀ (b : Bool) {s1 : Shared} {Q1 : Unit → Shared → Prop}, Q1 () s1 → wpAny (model P w) A (match b with | true => rule "set.scan.the-table-gave-way" | false => pure ()) Q1 E s1 := fun b s1 Q1 q => by
      cases b
      · exact wpAny_pure q
      · exact wpAny_rule q
    have q1 := layNew_perm t0 e0 (kd.hash k) v
    have q2 := layNew_fits t0 e0 (kd.hash k) v
    have q3 := layNew_ris t0 e0 (kd.hash k) v rs
    have q4 := layNew_led t0 e0 (kd.hash k) v
    generalize layNew t0 e0 (kd.hash k) v = Y at q1 q2 q3 q4 ⊢
    obtain ⟨e1, t1, dum, gave⟩ := Y
    dsimp only at q1 q2 q3 q4 ⊢
    rw [Array.toList_push] at q1
    have pL1 : ((L ++ [((kd.hash k, v), k)]).map (·.1)).Perm e1.toList := by
      rw [List.map_append]
      exact (pL.append_right _).trans q1.symm
    have fL1 : ∀ p ∈ L ++ [((kd.hash k, v), k)], Fit kd p := fun p m => by
      rcases List.mem_append.mp m with m | m
      · exact fL p m
      · rw [List.mem_singleton.mp m]
        exact ⟨hk, rfl, hv⟩
    have ek : (L ++ [((kd.hash k, v), k)]).map (·.2) = L.map (·.2) ++ [k] := List.map_append
    have nd1 : ((L ++ [((kd.hash k, v), k)]).map (·.2)).Nodup := by
      rw [ek, List.nodup_append]
      exact ⟨nd, by simp, fun x mx y my e => nk (by rw [← List.mem_singleton.mp my, ← e]; exact mx)⟩
    have sz1 : e1.size < scanBound := by
      have := pL1.length_eq
      rw [List.length_map, List.length_append, Array.length_toList] at this
      rw [List.length_map] at room
      simp at this
      omega
    have ld1 : w.params.followText "set-order" = true ∨ t1.led = true := ld.imp id fun z => by rw [q4]; exact z
    have fin : ∀ h1, Heap.SameBut a s.heap h1 → KSet kd h1 a ((L ++ [((kd.hash k, v), k)]).map (·.2)) → Q true { s with heap := h1 } := fun h1 sb r => by
      refine hQ true h1 sb ?_
      rw [if_neg nk, ← ek]
      exact r
    refine wpAny_bind (gvr _ ?_)
    split
    · refine wpAny_bind ?_
      rw [hashByValue_scannable 8 hv]
      refine wpAny_pure ?_
      refine kset_tail ?_ hob hx hdt pL1 fL1 nd1 sz1 ?_ ?_ ?_ ?_
      · intro b s1 Q1 q
        cases b
        · exact wpAny_pure q
        · exact wpAny_rule q
      · split
        · exact q2
        · exact SetTable.fits_plain_off q2
      · split <;> exact q3
      · split <;> exact ld1
      · intro h1 sb r
        dsimp only
        exact wpAny_pure (fin h1 sb r)
    · refine wpAny_bind (wpAny_pure ?_)
      simp only [↓reduceIte]
      refine kset_tail ?_ hob hx hdt pL1 fL1 nd1 sz1 q2 q3 ld1 ?_
      · intro b s1 Q1 q
        cases b
        · exact wpAny_pure q
        · exact wpAny_rule q
      · intro h1 sb r
        dsimp only
        exact wpAny_pure (fin h1 sb r)
theorem kset_fresh {h : Heap} (ho : h.get? a = some { cls := .type "set", dict := none, data := .set #[] 0 (.fresh 0 0 (!w.params.followText "set-order")) }) : KSet kd h a [] :=
  ⟨_, #[], 0, _, ho, ⟨rfl, rfl, rfl⟩, rfl, ⟨[], .refl _, rfl, fun _ m => nomatch m⟩, List.nodup_nil, (by decide), (by rfl), List.Pairwise.nil, by
    show _ ∨ (!w.params.followText "set-order") = true
    cases w.params.followText "set-order"
    · exact .inr rfl
    · exact .inl rfl⟩
end
end Ps

set_option Elab.async false
set_option linter.all false
set_option maxRecDepth 100000
namespace Ps
open PySem PySem.Spec PyProof.Rows L2
section
variable {P : Program} {w : World} {A : Around} {E : Value → Shared → Prop} {s : Shared}
/-- what holds of a set that is being made stays while it, and all that stood before it, stays -/
def Stay (S : Addr) (T : Nat → Heap → Prop) : Prop := ∀ i h h', T i h → (∀ b o, b ≤ S → h.get? b = some o → h'.get? b = some o) → T i h'
/-- one more item -/
def Adds (P : Program) (w : World) (A : Around) (E : Value → Shared → Prop) (S : Addr) (T : Nat → Heap → Prop) (vs : List Value) : Prop :=
  ∀ i v (s : Shared) (Q : Bool → Shared → Prop), vs[i]? = some v → T i s.heap → (∀ b h1 tk, s.toks ≤ tk → Heap.SameBut S s.heap h1 → T (i + 1) h1 → Q b { s with heap := h1, toks := tk }) → wpAny (model P w) A (setAdd S v) Q E s
theorem set_loop {I : Addr} {fp wr : List Addr} {G : Array GenState → Array GenState → Prop} {n : Nat} {Pv : Nat → Value → Prop} {St : Nat → Shared → Prop} {R : Result → Shared → Prop}
    (W : WalksS P w A.in1 I fp wr G n Pv St) (S : Addr) (hSf : S ∉ fp) (hwr : ∀ b ∈ wr, S < b) (T : Nat → Heap → Prop) (st : Stay S T) (vs : List Value) (hn : n = vs.length) (hval : ∀ i v, Pv i v → vs[i]? = some v)
    (ad : Adds P w A.in1 (fun e s' => R (.error e) s') S T vs) :
    ∀ (k i : Nat) (s : Shared), n - i = k → i ≤ n → St i s → T i s.heap →
      (∀ s1, Moved (S :: wr) G s s1 → T n s1.heap → R (.ok (.ret .none)) s1) →
      codeAny (model P w) A (.builtin "set.update.loop" ⟨[.ref S, .ref I], []⟩) R s := by
  have sub1 : ∀ b ∈ wr, b ∈ S :: wr := fun b m => List.mem_cons_of_mem _ m
  intro k
  induction k with
  | zero =>
    intro i s hk hi hst hT hR
    obtain rfl : i = n := by omega
    refine codeAny_builtin F.entry_set_update_loop ?_
    rw [Around.under_plainId F.plain_set_update_loop _]
    show wpAny _ A.in1 (pyNext (.ref I) >>= _) _ _ s
    refine wpAny_bind (W.done s _ _ hst fun s1 hm => ?_)
    show wpAny _ A.in1 (ret Value.none) _ _ s1
    refine wpAny_pure (hR s1 (hm.mono sub1) (st _ _ _ hT fun b o hb e => hm.heap b o (fun m => ?_) e))
    exact absurd hb (Nat.not_le_of_lt (hwr b m))
  | succ k ih =>
    intro i s hk hi hst hT hR
    have lt : i < n := by omega
    refine codeAny_builtin F.entry_set_update_loop ?_
    rw [Around.under_plainId F.plain_set_update_loop _]
    show wpAny _ A.in1 (pyNext (.ref I) >>= _) _ _ s
    refine wpAny_bind (W.item i s _ _ lt hst fun v s1 hP hst1 hm => ?_)
    have hv := hval i v hP
    have hT1 : T i s1.heap := st _ _ _ hT fun b o hb e => hm.heap b o (fun m => absurd hb (Nat.not_le_of_lt (hwr b m))) e
    show wpAny _ A.in1 (holding [v] (setAdd S v) >>= _) _ _ s1
    refine wpAny_bind (wpAny_holding (ad i v s1 _ hv hT1 fun bb h1 tk htk sb hT2 => ?_))
    refine wpAny_pure ⟨plainId_quiet F.plain_set_update_loop _, ih (i + 1) _ (by omega) lt (W.frame _ s1 _ _ hst1 htk fun b mb o e => ?_) hT2 fun s2 hm2 hT3 => ?_⟩
    · rw [sb.2 b (fun q : b = S => hSf (by rw [← q]; exact mb))]
      exact e
    · refine hR s2 (Moved.trans W.gtrans ((hm.mono sub1).then_heap htk fun b o mb e => ?_) hm2) hT3
      rw [sb.2 b (fun q : b = S => mb (by rw [q]; exact List.mem_cons_self))]
      exact e
end
end Ps

set_option Elab.async false
set_option linter.all false
set_option maxRecDepth 100000
namespace Ps
open PySem PySem.Spec PyProof.Rows L2
section
variable {P : Program} {w : World} {A : Around} {E : Value → Shared → Prop} {s : Shared}
/-- a set as it is made -/
abbrev freshS (w : World) : Obj := { cls := .type "set", dict := none, data := .set #[] 0 (.fresh 0 0 (!w.params.followText "set-order")) }

set_option maxRecDepth 100000 in
set_option maxHeartbeats 3200000 in
theorem call_set_L {l : Addr} {items : Array Value} (T : Nat → Heap → Prop) {Q : Value → Shared → Prop} (hh : A.handled = none) (hl : s.heap.IsList l items) (st : Stay s.heap.objs.size T)
    (t0 : ∀ h, h.get? s.heap.objs.size = some (freshS w) → (∀ b o, s.heap.get? b = some o → h.get? b = some o) → T 0 h)
    (ad : ∀ (A' : Around) (E' : Value → Shared → Prop), A'.handled = none → A'.units ≤ A.units + 8 → Adds P w A' E' s.heap.objs.size T items.toList)
    (fin : ∀ (h1 : Heap) (tk : Nat), T items.size h1 → (∀ b o, s.heap.get? b = some o → h1.get? b = some o) → Q (.ref s.heap.objs.size) { s with heap := h1, toks := tk }) :
    wpAny (model P w) A (call (.type "set") [.ref l]) Q E s := by
  obtain ⟨_, _, hmro⟩ := F.called_set.mro
  have hmade := F.called_set.made
  have hsub := F.called_set.sub
  refine wpAny_call (codeAny_of_tree ?_)
  show wpAny _ _ (callAny (.type "set") _) _ _ _
  refine wpAny_pure ⟨Code.quiet_builtin _ (by decide +kernel), codeAny_builtin F.entry_type_call ?_⟩
  rw [Around.under_plain (weight_type_call_type "set" [.ref l] []) rfl]
  have n1 := F.called_set.notType
  have n2 := F.called_set.canCreate
  have n3 := F.typeCall_set_1 (.ref l)
  repeat (any_goals (first | assumption | wp_step))
  refine codeAny_mono (code_set_led1 (.ref l) (E := E) (Q₁ := fun ob s1 => ob = .ref s.heap.objs.size ∧ s1 = { s with heap := s.heap.push (freshS w) }) ⟨rfl, rfl⟩) fun r s1 hr => ?_
  cases r with
  | error e => exact hr
  | ok fl =>
    cases fl with
    | ret ob =>
      obtain ⟨rfl, rfl⟩ := hr
      have gS : (s.heap.push (freshS w)).get? s.heap.objs.size = some (freshS w) := Heap.get?_push_size _ rfl
      have tS : Shared.TypeIs { s with heap := s.heap.push (freshS w) } (.ref s.heap.objs.size) "set" := ⟨_, gS, rfl⟩
      have hli := F.called_set.init.lookup
      have hbi := F.called_set.init.bind (.ref s.heap.objs.size)
      repeat (any_goals (first | assumption | wp_step))
      refine codeAny_mono (codeAny_call_builtin (R := wants (fun r s2 => r = .none ∧ ∃ h1 tk, s2 = { s with heap := h1, toks := tk } ∧ T items.size h1 ∧ (∀ b o, s.heap.get? b = some o → h1.get? b = some o)) E) F.called_set.init.plain F.entry_set_init (check_set_init_1 tS ?_)) fun r2 s2 hr2 => ?_
      · obtain ⟨ol, hol, hcl, nl, hdl⟩ := hl
        obtain ⟨ocls, odict, odata, oslots⟩ := ol
        simp only at hcl hdl
        subst hcl; subst hdl
        have gl : (s.heap.push (freshS w)).get? l = some { cls := .type "list", dict := odict, data := .seq items nl, slots := oslots } := Heap.get?_push_of_some _ hol
        have b1 := F.sub_list_set
        have b2 := F.sub_list_frozenset
        have hne : (Value.type "list" == Value.type "dict") = false := by decide
        have il : (s.heap.push (freshS w)).IsList l items := ⟨_, gl, rfl, nl, rfl⟩
        unfold Builtin.«set.__init__» noKeywords Builtin.Frozenset.updateFrom
        generalize hPI : pyIter = PI
        wp_walk
        subst hPI
        refine wpAny_pyIter_list il ?_
        refine wpAny_bind (wpAny_runValue ?_)
        have lS : l < s.heap.objs.size := Heap.lt_size hol
        have h3 : A.in1.in1.in1.handled = none := by simp [hh]
        have z1 : (s.heap.push (freshS w)).objs.size = s.heap.objs.size + 1 := Heap.size_push ..
        have nI : l ≠ (s.heap.push (freshS w)).objs.size := by
          rw [z1]
          exact Nat.ne_of_lt (Nat.lt_succ_of_lt lS)
        have nf : s.heap.objs.size ∉ [(s.heap.push (freshS w)).objs.size, l] := by
          rw [z1]
          simp only [List.mem_cons, List.not_mem_nil, or_false, not_or]
          exact ⟨Nat.ne_of_lt (Nat.lt_succ_self _), Nat.ne_of_gt lS⟩
        refine set_loop ((Walks.list h3 _ l nI items).toS) s.heap.objs.size nf (fun b m => ?_) T st items.toList (by rw [Array.length_toList]) (fun i v e => by rw [Array.getElem?_toList]; exact e) (ad _ _ h3 ?hunits) (items.size - 0) 0 _ (by omega) (Nat.zero_le _)
          ⟨⟨_, Heap.get?_push_size _ rfl, rfl, rfl⟩, (il.push _)⟩ ?hS0 ?hR
        case hunits => simp only [Around.in1_units]; omega
        · rw [List.mem_singleton.mp m, z1]
          exact Nat.lt_succ_self _
        case hS0 =>
          exact t0 _ (Heap.get?_push_of_some _ gS) fun b o e => Heap.get?_push_of_some _ (Heap.get?_push_of_some _ e)
        case hR =>
          intro s3 hm hT
          obtain ⟨h1, g1, d1, tk1, os1⟩ := s3
          have eg : g1 = s.gens := hm.gens
          have ed : d1 = s.drawn := hm.drawn
          have eo : os1 = s.os := hm.os
          subst eg; subst ed; subst eo
          show wpAny _ _ _ _ _ _
          refine wpAny_pure ?_
          show wpAny _ _ (ret Value.none) _ _ _
          refine wpAny_pure ⟨rfl, h1, tk1, rfl, hT, fun b o e => ?_⟩
          have b0 : b < s.heap.objs.size := Heap.lt_size e
          refine hm.heap b o ?_ (Heap.get?_push_of_some _ (Heap.get?_push_of_some _ e))
          rw [z1]
          simp only [List.mem_cons, List.not_mem_nil, or_false, not_or]
          exact ⟨Nat.ne_of_lt b0, Nat.ne_of_lt (Nat.lt_succ_of_lt b0)⟩
      · cases r2 with
        | error e => exact hr2
        | ok fl2 =>
          cases fl2 with
          | ret r =>
            obtain ⟨rfl, h1, tk, rfl, hT, kp⟩ := hr2
            repeat (any_goals (first | assumption | wp_step))
            exact fin _ _ hT kp
          | _ => exact hr2.elim
    | _ => exact hr.elim

set_option maxRecDepth 100000 in
set_option maxHeartbeats 3200000 in
theorem call_set_T {l : Addr} {items : Array Value} (T : Nat → Heap → Prop) {Q : Value → Shared → Prop} (hh : A.handled = none) (hl : s.heap.IsTuple l items) (st : Stay s.heap.objs.size T)
    (t0 : ∀ h, h.get? s.heap.objs.size = some (freshS w) → (∀ b o, s.heap.get? b = some o → h.get? b = some o) → T 0 h)
    (ad : ∀ (A' : Around) (E' : Value → Shared → Prop), A'.handled = none → A'.units ≤ A.units + 8 → Adds P w A' E' s.heap.objs.size T items.toList)
    (fin : ∀ (h1 : Heap) (tk : Nat), T items.size h1 → (∀ b o, s.heap.get? b = some o → h1.get? b = some o) → Q (.ref s.heap.objs.size) { s with heap := h1, toks := tk }) :
    wpAny (model P w) A (call (.type "set") [.ref l]) Q E s := by
  obtain ⟨_, _, hmro⟩ := F.called_set.mro
  have hmade := F.called_set.made
  have hsub := F.called_set.sub
  refine wpAny_call (codeAny_of_tree ?_)
  show wpAny _ _ (callAny (.type "set") _) _ _ _
  refine wpAny_pure ⟨Code.quiet_builtin _ (by decide +kernel), codeAny_builtin F.entry_type_call ?_⟩
  rw [Around.under_plain (weight_type_call_type "set" [.ref l] []) rfl]
  have n1 := F.called_set.notType
  have n2 := F.called_set.canCreate
  have n3 := F.typeCall_set_1 (.ref l)
  repeat (any_goals (first | assumption | wp_step))
  refine codeAny_mono (code_set_led1 (.ref l) (E := E) (Q₁ := fun ob s1 => ob = .ref s.heap.objs.size ∧ s1 = { s with heap := s.heap.push (freshS w) }) ⟨rfl, rfl⟩) fun r s1 hr => ?_
  cases r with
  | error e => exact hr
  | ok fl =>
    cases fl with
    | ret ob =>
      obtain ⟨rfl, rfl⟩ := hr
      have gS : (s.heap.push (freshS w)).get? s.heap.objs.size = some (freshS w) := Heap.get?_push_size _ rfl
      have tS : Shared.TypeIs { s with heap := s.heap.push (freshS w) } (.ref s.heap.objs.size) "set" := ⟨_, gS, rfl⟩
      have hli := F.called_set.init.lookup
      have hbi := F.called_set.init.bind (.ref s.heap.objs.size)
      repeat (any_goals (first | assumption | wp_step))
      refine codeAny_mono (codeAny_call_builtin (R := wants (fun r s2 => r = .none ∧ ∃ h1 tk, s2 = { s with heap := h1, toks := tk } ∧ T items.size h1 ∧ (∀ b o, s.heap.get? b = some o → h1.get? b = some o)) E) F.called_set.init.plain F.entry_set_init (check_set_init_1 tS ?_)) fun r2 s2 hr2 => ?_
      · obtain ⟨ol, hol, hcl, nl, hdl⟩ := hl
        obtain ⟨ocls, odict, odata, oslots⟩ := ol
        simp only at hcl hdl
        subst hcl; subst hdl
        have gl : (s.heap.push (freshS w)).get? l = some { cls := .type "tuple", dict := odict, data := .seq items nl, slots := oslots } := Heap.get?_push_of_some _ hol
        have b1 := F.sub_tuple_set
        have b2 := F.sub_tuple_frozenset
        have hne : (Value.type "tuple" == Value.type "dict") = false := by decide
        have il : (s.heap.push (freshS w)).IsTuple l items := ⟨_, gl, rfl, nl, rfl⟩
        unfold Builtin.«set.__init__» noKeywords Builtin.Frozenset.updateFrom
        generalize hPI : pyIter = PI
        wp_walk
        subst hPI
        refine wpAny_pyIter_tuple il ?_
        refine wpAny_bind (wpAny_runValue ?_)
        have lS : l < s.heap.objs.size := Heap.lt_size hol
        have h3 : A.in1.in1.in1.handled = none := by simp [hh]
        have z1 : (s.heap.push (freshS w)).objs.size = s.heap.objs.size + 1 := Heap.size_push ..
        have nI : l ≠ (s.heap.push (freshS w)).objs.size := by
          rw [z1]
          exact Nat.ne_of_lt (Nat.lt_succ_of_lt lS)
        have nf : s.heap.objs.size ∉ [(s.heap.push (freshS w)).objs.size, l] := by
          rw [z1]
          simp only [List.mem_cons, List.not_mem_nil, or_false, not_or]
          exact ⟨Nat.ne_of_lt (Nat.lt_succ_self _), Nat.ne_of_gt lS⟩
        refine set_loop ((Walks.tuple h3 _ l nI items).toS) s.heap.objs.size nf (fun b m => ?_) T st items.toList (by rw [Array.length_toList]) (fun i v e => by rw [Array.getElem?_toList]; exact e) (ad _ _ h3 ?hunits) (items.size - 0) 0 _ (by omega) (Nat.zero_le _)
          ⟨⟨_, Heap.get?_push_size _ rfl, rfl, rfl⟩, (il.push _)⟩ ?hS0 ?hR
        case hunits => simp only [Around.in1_units]; omega
        · rw [List.mem_singleton.mp m, z1]
          exact Nat.lt_succ_self _
        case hS0 =>
          exact t0 _ (Heap.get?_push_of_some _ gS) fun b o e => Heap.get?_push_of_some _ (Heap.get?_push_of_some _ e)
        case hR =>
          intro s3 hm hT
          obtain ⟨h1, g1, d1, tk1, os1⟩ := s3
          have eg : g1 = s.gens := hm.gens
          have ed : d1 = s.drawn := hm.drawn
          have eo : os1 = s.os := hm.os
          subst eg; subst ed; subst eo
          show wpAny _ _ _ _ _ _
          refine wpAny_pure ?_
          show wpAny _ _ (ret Value.none) _ _ _
          refine wpAny_pure ⟨rfl, h1, tk1, rfl, hT, fun b o e => ?_⟩
          have b0 : b < s.heap.objs.size := Heap.lt_size e
          refine hm.heap b o ?_ (Heap.get?_push_of_some _ (Heap.get?_push_of_some _ e))
          rw [z1]
          simp only [List.mem_cons, List.not_mem_nil, or_false, not_or]
          exact ⟨Nat.ne_of_lt b0, Nat.ne_of_lt (Nat.lt_succ_of_lt b0)⟩
      · cases r2 with
        | error e => exact hr2
        | ok fl2 =>
          cases fl2 with
          | ret r =>
            obtain ⟨rfl, h1, tk, rfl, hT, kp⟩ := hr2
            repeat (any_goals (first | assumption | wp_step))
            exact fin _ _ hT kp
          | _ => exact hr2.elim
    | _ => exact hr.elim
end
end Ps

set_option Elab.async false
set_option linter.all false
set_option maxRecDepth 100000
namespace Ps
open PySem PySem.Spec PyProof.Rows L2
section
variable {P : Program} {w : World} {A : Around} {E : Value → Shared → Prop} {s : Shared} {K : Type} [DecidableEq K] {kd : KeyKind P w K} {S : Addr} {ks : List K}
theorem perm_of_map {α β : Type} {f : α → β} : ∀ {ys : List β} {xs : List α}, ys.Perm (xs.map f) → ∃ zs : List α, ys = zs.map f ∧ zs.Perm xs := by
  have go : ∀ {ys ws : List β}, ys.Perm ws → ∀ xs : List α, ws = xs.map f → ∃ zs : List α, ys = zs.map f ∧ zs.Perm xs := by
    intro ys ws h
    induction h with
    | nil =>
      intro xs e
      cases xs with
      | nil => exact ⟨[], rfl, .refl _⟩
      | cons a b => cases e
    | cons x h ih =>
      intro xs e
      cases xs with
      | nil => cases e
      | cons a b =>
        cases e
        obtain ⟨zs, rfl, p⟩ := ih b rfl
        exact ⟨a :: zs, rfl, p.cons a⟩
    | swap x y l =>
      intro xs e
      match xs, e with
      | a :: b :: c, e =>
        cases e
        exact ⟨b :: a :: c, rfl, .swap a b c⟩
    | trans h1 h2 ih1 ih2 =>
      intro xs e
      obtain ⟨zs, e1, p1⟩ := ih2 xs e
      obtain ⟨us, e2, p2⟩ := ih1 zs e1
      exact ⟨us, e2, p2.trans p1⟩
  exact fun {ys xs} h => go h xs rfl
theorem each_zip {α β : Type} {R : α → β → Prop} : ∀ (L : List (α × β)), (∀ p ∈ L, R p.1 p.2) → PySem.W.EachIs R (L.map (·.1)) (L.map (·.2))
  | [], _ => .nil
  | p :: r, h => .cons (h p (.head _)) (each_zip r fun q m => h q (.tail _ m))
/-- the members, as they are gathered -/
theorem kset_out {es : Array (Int × Value)} {L : List ((Int × Value) × K)} {out : List Value} (pL : (L.map (·.1)).Perm es.toList) (fL : ∀ p ∈ L, Fit kd p) (po : out.Perm (es.toList.map (·.2))) : ∃ zs : List K, zs.Perm (L.map (·.2)) ∧ PySem.W.EachIs (fun v k => kd.is k v = true) out zs := by
  have p1 : out.Perm (L.map fun p => p.1.2) := by
    have := (pL.map (·.2)).symm
    rw [List.map_map] at this
    exact po.trans this
  obtain ⟨M, rfl, pM⟩ := perm_of_map p1
  refine ⟨M.map (·.2), pM.map _, ?_⟩
  have := each_zip (R := fun (v : Value) (k : K) => kd.is k v = true) (M.map fun p => (p.1.2, p.2)) (fun q m => by
    obtain ⟨p, mp, rfl⟩ := List.mem_map.mp m
    exact (fL p (pM.mem_iff.mp mp)).1)
  rw [List.map_map, List.map_map] at this
  exact this
/-- sorted(a set) -/
theorem sorted_kset {enc : K → PyData} {Q : Value → Shared → Prop} (R : KSet kd s.heap S ks) (hh : A.handled = none) (hu : A.units + 10 < cLine) (hr : ∀ (h : Heap) (k : K) (v : Value), kd.is k v = true → Reads h v (enc k) [])
    (al : ∀ a ∈ ks, ∀ b ∈ ks, PySem.W.alike (enc a) (enc b) = true) (nt : ∀ a : K, (enc a ≠ .none) ∧ ∀ xs, enc a ≠ .tuple xs) (dp : ∀ a : K, (enc a).depth = 0)
    (hQ : ∀ (s1 : Shared) (p : Addr) (out : List Value) (c : Nat) (zs : List K), (∀ b o, s.heap.get? b = some o → s1.heap.get? b = some o) → s1.gens = s.gens → s1.os = s.os → s.heap.objs.size ≤ p →
      s1.heap.get? p = some (seqObj "list" out.toArray c) → zs.Perm ks → PySem.W.EachIs (fun v k => kd.is k v = true) out (zs.mergeSort (PySem.W.dataLe false enc)) → Q (.ref p) s1) :
    wpAny (model P w) A (call (.builtin "sorted") [.ref S]) Q E s := by
  obtain ⟨ob, es, ep, t, hob, hx, hdt, ⟨L, pL, rfl, fL⟩, nd, sz, ft, rs, ld⟩ := R
  refine Calls.call_function_entry kind_sorted plain_sorted entry_sorted (args_sorted1 _) ?_
  unfold Builtin.«sorted»
  refine wpAny_bind (m := checkCount "sorted" 1 1 _) (wpAny_pure ?_)
  refine wpAny_bind (collect_set (A := A.in1) hh ⟨ob, hob, hx.1, hdt⟩ ft sz rs ld fun s1 vs k1 hz g1 o1 pm => ?_)
  obtain ⟨zs, pz, ez⟩ := kset_out pL fL pm
  have vl : vs.length ≤ sizeLine := by
    rw [pm.length_eq, List.length_map, Array.length_toList]
    exact fits_of_scanBound sz
  have zl : zs.length ≤ sizeLine := by
    rw [← ez.length]
    exact vl
  refine wpAny_bind (wpAny_newList ?_ vl)
  have hoL : (s1.heap.push (seqObj "list" vs.toArray 0)).get? s1.heap.objs.size = some (seqObj "list" vs.toArray 0) := Heap.get?_push_size _ rfl
  refine wpAny_bind (wpAny_holding (PySem.W.list_sort_data (enc := enc) (s := { s1 with heap := s1.heap.push (seqObj "list" vs.toArray 0) }) hoL ez (ez.mono fun v k h => ⟨[], hr _ k v h, fun m => nomatch m⟩) ?_ ?_ zl ?_ fun out hl ho => ?_))
  · intro d hd d' hd'
    obtain ⟨a, ma, rfl⟩ := List.mem_map.mp hd
    obtain ⟨b, mb, rfl⟩ := List.mem_map.mp hd'
    exact al a (pz.mem_iff.mp ma) b (pz.mem_iff.mp mb)
  · refine .inr fun d hd => ?_
    obtain ⟨a, _, rfl⟩ := List.mem_map.mp hd
    exact nt a
  · intro b _
    rw [dp b]
    show A.units + 1 + 1 + 0 < cLine
    omega
  · obtain ⟨c, hc⟩ := sortedHeap_at (vs := vs) (out := out.toArray) hoL
    refine wpAny_pure ⟨_, rfl, hQ _ s1.heap.objs.size out c zs (fun b u e => ?_) g1 o1 hz hc pz ho⟩
    have q := k1 b u e
    have lt := Heap.lt_size q
    show (sortedHeap (s1.heap.push (seqObj "list" vs.toArray 0)) s1.heap.objs.size vs out.toArray).get? b = some u
    rw [sortedHeap_old (Nat.ne_of_lt lt) (by rw [size_push']; exact Nat.lt_succ_of_lt lt)]
    exact Heap.get?_push_of_some _ q
/-- a set of these, made -/
theorem uniq_snoc (ks : List K) (k : K) : ∀ acc, uniqK acc (ks ++ [k]) = if k ∈ uniqK acc ks then uniqK acc ks else uniqK acc ks ++ [k] := by
  induction ks with
  | nil => exact fun acc => rfl
  | cons a r ih => exact fun acc => ih _
theorem uniq_len (ks : List K) : ∀ acc : List K, (uniqK acc ks).length ≤ acc.length + ks.length := by
  induction ks with
  | nil => exact fun acc => Nat.le_refl _
  | cons a r ih =>
    intro acc
    refine Nat.le_trans (ih _) ?_
    split
    · rw [List.length_cons]; omega
    · rw [List.length_append, List.length_cons, List.length_cons, List.length_nil]; omega
def KeysV (kd : KeyKind P w K) (vs : List Value) (ks : List K) : Prop := vs.length = ks.length ∧ ∀ (i : Nat) (v : Value), vs[i]? = some v → ∃ k : K, ks[i]? = some k ∧ kd.is k v = true ∧ v.scannable = true
theorem kset_stay : Stay S (fun (i : Nat) h => KSet kd h S (uniqK [] (ks.take i))) := fun i h h' R k => R.at fun o e => k S o (Nat.le_refl _) e
theorem kset_adds {vs : List Value} (hk : KeysV kd vs ks) (room : ks.length + 1 < scanBound) : Adds P w A E S (fun (i : Nat) h => KSet kd h S (uniqK [] (ks.take i))) vs := by
  intro i v s Q hv R fin
  obtain ⟨k, e1, e2, e3⟩ := hk.2 i v hv
  unfold setAdd
  refine wpAny_holding (wpAny_bind (kd.pyHash (k := k) e2 ?_))
  have lk := uniq_len (ks.take i) []
  rw [List.length_take, List.length_nil] at lk
  refine kset_add (s := { s with toks := s.toks + 1 }) R e2 e3 (by omega) fun b h1 sb R1 => fin b h1 _ (Nat.le_succ _) sb ?_
  have et : ks.take (i + 1) = ks.take i ++ [k] := by
    rw [List.take_add_one, e1]
    rfl
  show KSet kd h1 S (uniqK [] (ks.take (i + 1)))
  rw [et, uniq_snoc]
  exact R1
end
end Ps

set_option Elab.async false
set_option linter.all false
set_option maxRecDepth 100000
/-! Sets of things that live in the heap and are hashed by what they are (nested tuples): any heap kind. Fewer than 64 members. -/
namespace Pn
open PySem PySem.Spec PyProof.Rows L2
/-- what a heap kind has to tell beside -/
structure Tame {P : Program} {w : World} {K : Type} [DecidableEq K] (kd : HeapKind P w K) : Prop where
  stays : ∀ {h h' : Heap} {k : K} {b a : Addr} {o : Obj} {es : Array (Int × Value)} {ep : Nat} {t : SetTable}, kd.is h k b → h.get? a = some o → o.data = .set es ep t → Heap.SameBut a h h' → kd.is h' k b
  keeps : ∀ {h h' : Heap} {k : K} {b : Addr}, kd.is h k b → (∀ c o, h.get? c = some o → h'.get? c = some o) → kd.is h' k b
  byV : ∀ {A : Around} {E : Value → Shared → Prop} {s : Shared} {k : K} {b : Addr} {Q : Bool → Shared → Prop}, kd.is s.heap k b → (∀ r, Q r s) → wpAny (model P w) A (hashByValue 8 (.ref b)) Q E s
  cls : ∀ {A : Around} {E : Value → Shared → Prop} {s : Shared} {k : K} {b : Addr} {Q : Bool → Shared → Prop}, kd.is s.heap k b → Q false s → wpAny (model P w) A (ofAClassStatement 8 (.ref b)) Q E s
section
variable {P : Program} {w : World} {K : Type} [DecidableEq K] {kd : HeapKind P w K} {A : Around} {E : Value → Shared → Prop} {s : Shared}
theorem unseen (tm : Tame kd) {k : K} {b : Addr} {Q : Bool → Shared → Prop} (hk : kd.is s.heap k b) {ys : List Value} (hy : ∀ y ∈ ys, ∃ k' c, y = Value.ref c ∧ kd.is s.heap k' c) (h : Q false s) :
    wpAny (model P w) A (searchCouldBeSeen (.ref b) ys) Q E s := by
  unfold searchCouldBeSeen
  refine wpAny_bind (wpAny_forIn_list _ (fun more acc s1 => s1 = s ∧ acc.1 = none ∧ ∀ y ∈ more, ∃ k' c, y = Value.ref c ∧ kd.is s.heap k' c) _ ?_ ?_ _ _ ⟨rfl, rfl, hy⟩)
  · rintro v more acc s1 ⟨rfl, e0, all⟩
    obtain ⟨k', c, rfl, hc⟩ := all v (.head _)
    have all' : ∀ y ∈ more, ∃ k' c, y = Value.ref c ∧ kd.is s1.heap k' c := fun y m => all y (.tail _ m)
    dsimp only
    cases hv : (b == c || (carriedByValue (.ref b) && carriedByValue (.ref c)))
    · refine wp_if_neg (by simp) (wpAny_bind (kd.quiet hk ?_))
      refine wp_if_neg (by simp) (wpAny_bind (kd.quiet hc ?_))
      refine wp_if_neg (by simp) (wpAny_bind (tm.cls hk ?_))
      refine wp_if_neg (by simp) (wpAny_bind (tm.cls hc ?_))
      exact wp_if_neg (by simp) (wpAny_pure ⟨rfl, rfl, all'⟩)
    · exact wp_if_pos rfl (wpAny_pure ⟨rfl, rfl, all'⟩)
  · rintro ⟨r1, r2⟩ s1 ⟨rfl, e0, _⟩
    dsimp only at e0
    subst e0
    exact wpAny_pure h
/-! ### the table and its members -/
def ents (kd : HeapKind P w K) (L : List (Addr × K)) : List (Int × Value) := L.map fun p => (kd.hash p.2, Value.ref p.1)
def hshs (kd : HeapKind P w K) (L : List (Addr × K)) : List Int := L.map fun p => kd.hash p.2
structure NRun (kd : HeapKind P w K) (h : Heap) (a : Addr) (L : List (Addr × K)) (es : Array (Int × Value)) (ep : Nat) (t : SetTable) : Prop where
  ob : ∃ o, h.get? a = some o ∧ o.ExactSet ∧ o.data = .set es ep t
  rows : es.toList = ents kd L
  tab : TabOk t (hshs kd L)
  nd : (L.map (·.2)).Nodup
  mem : ∀ p ∈ L, kd.is h p.2 p.1
  led : w.params.followText "set-order" = true ∨ t.led = true
  room : L.length * 5 < t.mask * 3
  few : L.length < 64
theorem ents_len (L : List (Addr × K)) : (ents kd L).length = L.length := List.length_map _
theorem hshs_len (L : List (Addr × K)) : (hshs kd L).length = L.length := List.length_map _
theorem size_of {L : List (Addr × K)} {es : Array (Int × Value)} (h : es.toList = ents kd L) : es.size = L.length := by
  rw [← Array.length_toList, h, ents_len]
theorem entry_of {L : List (Addr × K)} {es : Array (Int × Value)} (h : es.toList = ents kd L) {i : Nat} {p : Addr × K} (hp : L[i]? = some p) : es[i]? = some (kd.hash p.2, Value.ref p.1) := by
  rw [← Array.getElem?_toList, h]
  show (L.map _)[i]? = _
  rw [List.getElem?_map, hp]
  rfl
theorem plc_len {t : SetTable} {L : List (Addr × K)} (T : TabOk t (hshs kd L)) : t.place.toList.length = L.length := by
  rw [Array.length_toList, T.sz, hshs_len]
theorem fits_of {t : SetTable} {L : List (Addr × K)} {es : Array (Int × Value)} (h : es.toList = ents kd L) (T : TabOk t (hshs kd L)) (l : L.length ≤ t.mask) : t.fits es.size = true := by
  have a := plc_len T
  rw [Array.length_toList] at a
  unfold SetTable.fits SetTable.fill
  rw [T.dm, Bool.and_eq_true, beq_iff_eq, decide_eq_true_eq, size_of h]
  refine ⟨a, ?_⟩
  rw [a]
  exact l
variable {a : Addr} {L : List (Addr × K)} {es : Array (Int × Value)} {ep : Nat} {t : SetTable}
theorem NRun.fit (R : NRun kd s.heap a L es ep t) : t.fits es.size = true := fits_of R.rows R.tab (by have := R.room; omega)
theorem NRun.odd (R : NRun kd s.heap a L es ep t) : ¬ t.gaveWay = true := by
  unfold SetTable.gaveWay
  rw [mask_odd R.tab.mok]
  decide
/-- no dummy is met on the way -/
theorem nodm (m : Nat) : ∀ (n : Nat) (p : SetTable.Probe), p.dummy = none → (nth m p n).dummy = none
  | 0, _, h => h
  | n + 1, p, h => nodm m n (adv m p) (by unfold adv; split <;> exact h)
theorem nsearch (tm : Tame kd) (R : NRun kd s.heap a L es ep t) {x : Addr} {k : K} (hx : kd.is s.heap k x) (hu : kd.room A) {N : Nat} (hN : N < 10 * SetTable.turns t.mask)
    (free : way t.mask (kd.hash k) N ∉ t.place.toList) (full : ∀ c, c < N → way t.mask (kd.hash k) c ∈ t.place.toList) {Q : SetFound → Shared → Prop}
    (yes : k ∈ L.map (·.2) → Q (.there none) s) (no : k ∉ L.map (·.2) → Q (.free (way t.mask (kd.hash k) N) false) s) :
    ∀ (f c : Nat) (stand : Option SetTable.Probe), stand.getD (t.probeStart (kd.hash k)) = nth t.mask (t.probeStart (kd.hash k)) c → c ≤ N → N - c < f →
      (∀ (i : Nat) p, L[i]? = some p → p.2 = k → ∃ c', c ≤ c' ∧ c' < N ∧ t.place.toList[i]? = some (way t.mask (kd.hash k) c')) →
      wpAny (model P w) A (setSearchFrom a (.ref x) (kd.hash k) true f stand) Q E s := by
  intro f
  induction f with
  | zero => exact fun c stand _ _ h _ => absurd h (Nat.not_lt_zero _)
  | succ f ih =>
    intro c stand est hc hf hre
    obtain ⟨o, ho, hex, hd⟩ := R.ob
    have wy : ∀ q, (nth t.mask (nth t.mask (t.probeStart (kd.hash k)) c) q).j = way t.mask (kd.hash k) (c + q) := fun q => by rw [← nth_add] <;> rfl
    have at_ : ∀ (i : Nat) (p : Addr × K), L[i]? = some p → ((es[i]?.map (·.1)).getD 0) = kd.hash p.2 := fun i p hp => by rw [entry_of R.rows hp] <;> rfl
    have sp := go_spec t R.tab.ris R.tab.dm (fun i => (es[i]?.map (·.1)).getD 0) (kd.hash k) (10 * SetTable.turns t.mask) (N - c) (nth t.mask (t.probeStart (kd.hash k)) c) (nodm _ _ _ rfl) (by omega)
      (fun q hq => by rw [wy]; exact full _ (by omega)) (by rw [wy, Nat.add_sub_cancel' hc]; exact free)
    rw [setSearchFrom_succ]
    refine wpAny_bind (wpAny_setState_of ho hd R.fit ?_)
    dsimp only
    refine wp_if_neg R.odd ?_
    try refine wpAny_bind (wpAny_pure ?_)
    rcases sp with ⟨q, i, hq, hi, hh, hno, go⟩ | ⟨hno, go⟩
    · have go' : t.probe (fun i => (es[i]?.map (·.1)).getD 0) (kd.hash k) (stand.getD (t.probeStart (kd.hash k))) = some (.candidate (way t.mask (kd.hash k) (c + q)) i (nth t.mask (t.probeStart (kd.hash k)) (c + (q + 1)))) := by
        have e2 := wy q
        rw [est, nth_add t.mask c _ (q + 1), ← e2]
        exact go
      rw [go']
      dsimp only
      rw [wy] at hi
      have il : i < L.length := by
        rw [← plc_len R.tab]
        exact (List.getElem?_eq_some_iff.mp hi).1
      obtain ⟨p, hp⟩ : ∃ p, L[i]? = some p := ⟨_, List.getElem?_eq_getElem il⟩
      have mp : p ∈ L := List.mem_of_getElem? hp
      have sl : t.slot (way t.mask (kd.hash k) (c + q)) = .live i := slot_live R.tab.ris hi
      have go2 : wpAny (model P w) A (searchRest a (.ref x) (kd.hash k) true f es t (way t.mask (kd.hash k) (c + q)) i (nth t.mask (t.probeStart (kd.hash k)) (c + (q + 1)))) Q E s := by
        unfold searchRest
        rw [entry_of R.rows hp]
        dsimp only
        refine wpAny_bind (wpAny_holding (kd.eqBool hu (R.mem p mp) hx (wpAny_bind (wpAny_setState_of ho hd R.fit ?_))))
        dsimp only
        by_cases same : p.2 = k
        · exact wp_if_pos (by simp [same]) (wpAny_pure (yes (List.mem_map.mpr ⟨p, mp, same⟩)))
        refine wp_if_neg (by simp [same]) ?_
        try refine wpAny_bind (wpAny_pure ?_)
        rw [sameMem]
        dsimp only
        simp only [if_true, sl, entry_of R.rows hp]
        refine wpAny_bind (wpAny_isSame_ref_self (wpAny_bind (wpAny_pure ?_)))
        simp only [if_true]
        refine wp_if_neg (by simp [same]) (ih (c + (q + 1)) _ rfl (by omega) (by omega) fun j p' hj hk' => ?_)
        obtain ⟨c', l1, l2, l3⟩ := hre j p' hj hk'
        refine ⟨c', ?_, l2, l3⟩
        by_cases z : c' < c + q
        · exfalso
          refine hno (c' - c) j (by omega) (by rw [wy, Nat.add_sub_cancel' l1]; exact l3) ?_
          show ((es[j]?.map (·.1)).getD 0) = _
          rw [at_ j p' hj, hk']
        · by_cases y : c' = c + q
          · exfalso
            subst y
            have sl' := slot_live R.tab.ris l3
            rw [sl] at sl'
            injection sl' with e
            subst e
            rw [hp] at hj
            cases hj
            exact same hk'
          · omega
      by_cases ld : t.led = true
      · refine wp_if_neg (by simp [ld]) ?_
        try refine wpAny_bind (wpAny_pure ?_)
        exact go2
      · refine wp_if_pos (by simp [ld]) (wpAny_bind (unseen tm hx (fun y my => ?_) ?_))
        · obtain ⟨e, me, rfl⟩ := List.mem_map.mp my
          have me2 : e ∈ es.toList := by
            have : e ∈ es ∧ e.1 = kd.hash k := by simpa using me
            simpa using this.1
          rw [R.rows] at me2
          obtain ⟨p2, m2, rfl⟩ := List.mem_map.mp me2
          exact ⟨p2.2, p2.1, rfl, R.mem p2 m2⟩
        · refine wp_if_neg (by decide) ?_
          try refine wpAny_bind (wpAny_pure ?_)
          exact go2
    · have go' : t.probe (fun i => (es[i]?.map (·.1)).getD 0) (kd.hash k) (stand.getD (t.probeStart (kd.hash k))) = some (.empty (way t.mask (kd.hash k) N) none) := by
        have e2 := wy (N - c)
        rw [Nat.add_sub_cancel' hc] at e2
        rw [est, ← e2]
        exact go
      rw [go']
      dsimp only
      refine wpAny_pure (no fun m => ?_)
      obtain ⟨p', m', hk'⟩ := List.mem_map.mp m
      obtain ⟨j, lj, ej⟩ := List.getElem_of_mem m'
      have hj : L[j]? = some p' := by rw [List.getElem?_eq_getElem lj, ej]
      obtain ⟨c', l1, l2, l3⟩ := hre j p' hj hk'
      refine hno (c' - c) j (by omega) (by rw [wy, Nat.add_sub_cancel' l1]; exact l3) ?_
      show ((es[j]?.map (·.1)).getD 0) = _
      rw [at_ j p' hj, hk']
theorem nfind (tm : Tame kd) (R : NRun kd s.heap a L es ep t) {x : Addr} {k : K} (hx : kd.is s.heap k x) (hu : kd.room A) {Q : SetFound → Shared → Prop} (yes : k ∈ L.map (·.2) → Q (.there none) s)
    (no : ∀ N, k ∉ L.map (·.2) → way t.mask (kd.hash k) N ∉ t.place.toList → (∀ c, c < N → way t.mask (kd.hash k) c ∈ t.place.toList) → Q (.free (way t.mask (kd.hash k) N) false) s) :
    wpAny (model P w) A (setSearch a (.ref x) (kd.hash k) true) Q E s := by
  have hr := R.room
  obtain ⟨N, h1, h2, h3⟩ := R.tab.first (by rw [hshs_len]; omega) (kd.hash k)
  have small : 10 * SetTable.turns t.mask ≤ 1420 := by
    unfold SetTable.turns
    rcases R.tab.mok with e | e | e <;> omega
  unfold setSearch
  refine nsearch tm R hx hu h1 h2 h3 yes (fun z => no N z h2 h3) 100000 0 none rfl (Nat.zero_le _) (by omega) fun i p hp hk => ?_
  have gi : (hshs kd L)[i]? = some (kd.hash k) := by
    show (L.map _)[i]? = _
    rw [List.getElem?_map, hp, ← hk]
    rfl
  have il : i < t.place.toList.length := by
    rw [plc_len R.tab]
    exact (List.getElem?_eq_some_iff.mp hp).1
  obtain ⟨c, lc, e⟩ := R.tab.before h2 gi (List.getElem?_eq_getElem il)
  exact ⟨c, Nat.zero_le _, lc, by rw [List.getElem?_eq_getElem il, e]⟩
end
end Pn

set_option Elab.async false
set_option linter.all false
set_option maxRecDepth 100000
namespace Pn
open PySem PySem.Spec PyProof.Rows L2
section
variable {P : Program} {w : World} {K : Type} [DecidableEq K] {kd : HeapKind P w K} {A : Around} {E : Value → Shared → Prop} {s : Shared} {a : Addr} {L : List (Addr × K)} {es : Array (Int × Value)} {ep : Nat} {t : SetTable}
/-- members picked by their places -/
theorem picked (L : List (Addr × K)) (es : Array (Int × Value)) (he : es.toList = ents kd L) : ∀ l : List Nat, (∀ i ∈ l, i < L.length) → l.filterMap (fun i => es[i]?) = ents kd (l.filterMap fun i => L[i]?) ∧ hshs kd (l.filterMap fun i => L[i]?) = l.map fun i => (es.map (·.1)).getD i 0
  | [], _ => ⟨rfl, rfl⟩
  | i :: l, h => by
    have hi := h i (.head _)
    obtain ⟨e1, e2⟩ := picked L es he l fun j m => h j (.tail _ m)
    have g : L[i]? = some L[i] := List.getElem?_eq_getElem hi
    have ge := entry_of he g
    have gd : (es.map (·.1)).getD i 0 = kd.hash (L[i]).2 := by
      have : (es.map (·.1))[i]? = some (kd.hash (L[i]).2) := by rw [Array.getElem?_map, ge] <;> rfl
      rw [Array.getD_eq_getD_getElem?, this] <;> rfl
    rw [List.filterMap_cons_some ge, List.filterMap_cons_some g, e1, List.map_cons, ← e2, gd]
    exact ⟨rfl, rfl⟩
theorem all_picked (L : List (Addr × K)) : (List.range L.length).filterMap (fun i => L[i]?) = L := by
  have go : ∀ n, n ≤ L.length → (List.range n).filterMap (fun i => L[i]?) = L.take n := by
    intro n
    induction n with
    | zero => exact fun _ => rfl
    | succ n ih =>
      intro h
      have g : L[n]? = some L[n] := List.getElem?_eq_getElem h
      rw [List.range_succ, List.filterMap_append, ih (Nat.le_of_succ_le h), List.take_add_one, g, List.filterMap_cons_some g]
      rfl
  rw [go _ (Nat.le_refl _), List.take_length]
theorem nrelay (tm : Tame kd) {o : Obj} (ho : s.heap.get? a = some o) (hex : o.ExactSet) (hd : o.data = .set es ep t) (rows : es.toList = ents kd L) (T : TabOk t (hshs kd L)) (full : L.length ≤ t.mask)
    (nd : (L.map (·.2)).Nodup) (mem : ∀ p ∈ L, kd.is s.heap p.2 p.1) (led : w.params.followText "set-order" = true ∨ t.led = true) (few : L.length < 64) {want M : Nat} (hM : SetTable.sizeAbove want - 1 = M) (ok : MaskOk M) (small : SetTable.sizeAbove want ≤ 128) (room : L.length * 5 < M * 3)
    {Q : Unit → Shared → Prop} (fin : ∀ h' L' es' ep' t', Heap.SameBut a s.heap h' → NRun kd h' a L' es' ep' t' → L'.Perm L → Q () { s with heap := h' }) : wpAny (model P w) A (setRelay a want) Q E s := by
  have se := size_of rows
  obtain ⟨t', order, e, po, T', em, el, _, _⟩ := relaid_ok t (hs := es.map (·.1)) hM ok (by rw [Array.size_map, se]; omega)
  rw [Array.size_map, se] at po
  obtain ⟨p1, p2⟩ := picked (kd := kd) L es rows order.toList fun i m => List.mem_range.mp (po.mem_iff.mp m)
  have pm : (order.toList.filterMap fun i => L[i]?).Perm L := by
    have := po.filterMap (fun i => L[i]?)
    rw [all_picked] at this
    exact this
  rw [← p2] at T'
  generalize hL2 : (order.toList.filterMap fun i => L[i]?) = L2 at p1 p2 pm T'
  have r1 : (order.filterMap (es[·]?)).toList = ents kd L2 := by
    rw [Array.toList_filterMap]
    exact p1
  have se2 : (order.filterMap (es[·]?)).size = L.length := by rw [size_of r1, pm.length_eq]
  rw [setRelay_eq]
  refine wpAny_bind (wpAny_setState_of ho hd (fits_of rows T full) ?_)
  dsimp only
  refine wp_if_neg (by rw [sizeLine_eq]; omega) ?_
  try refine wpAny_bind (wpAny_pure ?_)
  rw [e]
  dsimp only
  refine wpAny_bind (wp_if_neg (by rw [se2, se]; simp) ?_)
  try refine wpAny_bind (wpAny_pure ?_)
  refine wpAny_pure ?_
  dsimp only
  refine wpAny_storeSet_of ho hd ?_ (by rw [se2, sizeLine_eq]; omega)
  have sb := Heap.SameBut.update s.heap a (Obj.putSet (order.filterMap (es[·]?)) t')
  refine fin _ L2 _ (ep + 1) t' sb ⟨⟨_, store_at ho hd, ⟨hex.1, hex.2.1, hex.2.2⟩, rfl⟩, r1, T', (pm.map (·.2)).nodup_iff.mpr nd, fun p m => tm.stays (mem p (pm.mem_iff.mp m)) ho hd sb, by rw [el]; exact led, ?_, by rw [pm.length_eq]; exact few⟩ pm
  rw [pm.length_eq, em]
  exact room
theorem middle_perm {α : Type} (l : List α) (n : Nat) (x : α) : (l.take n ++ x :: l.drop n).Perm (x :: l) := by
  have h : (l.take n ++ x :: l.drop n).Perm (x :: (l.take n ++ l.drop n)) := List.perm_middle
  rwa [List.take_append_drop] at h
theorem nadd (tm : Tame kd) (R : NRun kd s.heap a L es ep t) {x : Addr} {k : K} (hx : kd.is s.heap k x) (hu : kd.room A) (few : L.length + 1 < 64) {Q : Bool → Shared → Prop}
    (fin : ∀ b h' L' es' ep' t', Heap.SameBut a s.heap h' → NRun kd h' a L' es' ep' t' → (k ∈ L.map (·.2) → L' = L) → (k ∉ L.map (·.2) → L'.Perm ((x, k) :: L)) → Q b { s with heap := h' }) :
    wpAny (model P w) A (setAddHashed a (.ref x) (kd.hash k)) Q E s := by
  obtain ⟨o, ho, hex, hd⟩ := R.ob
  have se := size_of R.rows
  have hr := R.room
  unfold setAddHashed
  refine wpAny_holding ?_
  rw [show (100000 : Nat) = 99999 + 1 from rfl, setAddHashedIn_succ]
  refine wpAny_bind (wpAny_setState_of ho hd R.fit ?_)
  dsimp only
  refine wp_if_neg (by simp [byScan, Value.scannable]) ?_
  try refine wpAny_bind (wpAny_pure ?_)
  refine wpAny_bind (nfind tm R hx hu (fun m => wpAny_pure (fin false s.heap L es ep t (Heap.SameBut.refl a s.heap) R (fun _ => rfl) fun z => absurd m z)) fun N m free full => ?_)
  dsimp only
  refine wpAny_bind (wpAny_setState_of ho hd R.fit ?_)
  dsimp only
  obtain ⟨q1, q2, q3, q4, q5, _, _, _, q9⟩ := R.tab.put free full
  rw [hshs_len] at q2 q9
  generalize t.put (way t.mask (kd.hash k) N) = pt at q1 q3 q4 q5 q9 ⊢
  obtain ⟨t0, n⟩ := pt
  dsimp only at q1 q3 q4 q5 q9 ⊢
  subst q1
  generalize SetTable.below t.place (way t.mask (kd.hash k) N) = n at q2 q3 ⊢
  have cont : ∀ t1 : SetTable, t1.place = t0.place → t1.dummies = t0.dummies → t1.mask = t0.mask → t1.led = t0.led →
      wpAny (model P w) A (do
        storeSet a (SetTable.insertAt es n (kd.hash k, .ref x)) t1
        if !false && t1.tooFull then setRelay a (SetTable.grown (es.size + 1))
        return true) Q E s := fun t1 z1 z2 z3 z4 => by
    have pm := middle_perm L n (x, k)
    have T1 : TabOk t1 (hshs kd (L.take n ++ (x, k) :: L.drop n)) := by
      have e : hshs kd (L.take n ++ (x, k) :: L.drop n) = (hshs kd L).take n ++ kd.hash k :: (hshs kd L).drop n := by
        unfold hshs
        rw [List.map_append, List.map_cons, List.map_take, List.map_drop]
      rw [e]
      exact ⟨by rw [z1]; exact q3.ris, by rw [z2]; exact q3.dm, by rw [z1]; exact q3.sz, by rw [z3]; exact q3.mok, by rw [z1, z3]; exact q3.bd, by rw [z1, z3]; exact q3.reach⟩
    have r1 : (SetTable.insertAt es n (kd.hash k, Value.ref x)).toList = ents kd (L.take n ++ (x, k) :: L.drop n) := by
      rw [SetTable.toList_insertAt, R.rows]
      unfold ents
      rw [List.map_append, List.map_cons, List.map_take, List.map_drop]
    have ll : (L.take n ++ (x, k) :: L.drop n).length = L.length + 1 := pm.length_eq
    generalize L.take n ++ (x, k) :: L.drop n = L1 at pm T1 r1 ll
    generalize SetTable.insertAt es n (kd.hash k, Value.ref x) = es1 at r1 ⊢
    have se1 := size_of r1
    have fl : t1.fill = L.length + 1 := by
      have e : t1.fill = t0.fill := by unfold SetTable.fill; rw [z1, z2]
      rw [e]
      exact q9
    refine wpAny_bind (wpAny_storeSet_of ho hd ?_ (by rw [se1, sizeLine_eq]; omega))
    have sb := Heap.SameBut.update s.heap a (Obj.putSet es1 t1)
    have ho1 := store_at (es' := es1) (t' := t1) ho hd
    generalize s.heap.update a (Obj.putSet es1 t1) = h1 at sb ho1 ⊢
    have nd1 : (L1.map (·.2)).Nodup := (pm.map (·.2)).nodup_iff.mpr (by rw [List.map_cons]; exact List.nodup_cons.mpr ⟨m, R.nd⟩)
    have mem1 : ∀ p ∈ L1, kd.is h1 p.2 p.1 := fun p mp => by
      rcases List.mem_cons.mp (pm.mem_iff.mp mp) with e | mp
      · rw [e]; exact tm.stays hx ho hd sb
      · exact tm.stays (R.mem p mp) ho hd sb
    have led1 : w.params.followText "set-order" = true ∨ t1.led = true := by rw [z4, q5]; exact R.led
    have m1 : t1.mask = t.mask := z3.trans q4
    by_cases tf : t1.tooFull = true
    · have fullT : (L.length + 1) * 5 ≥ t.mask * 3 := by
        have h := tf
        unfold SetTable.tooFull at h
        rw [decide_eq_true_eq, fl, m1] at h
        exact h
      refine wp_if_pos (by simp [tf]) (wpAny_bind ?_)
      have which : (t.mask = 7 ∧ L.length = 4) ∨ (t.mask = 31 ∧ L.length = 18) := by
        rcases R.tab.mok with e | e | e <;> rw [e] at fullT hr
        · exact .inl ⟨e, by omega⟩
        · exact .inr ⟨e, by omega⟩
        · exfalso; omega
      have go : ∀ M, SetTable.sizeAbove (SetTable.grown (L.length + 1)) - 1 = M → MaskOk M → SetTable.sizeAbove (SetTable.grown (L.length + 1)) ≤ 128 → (L.length + 1) * 5 < M * 3 →
          wpAny (model P w) A (setRelay a (SetTable.grown (es.size + 1))) (fun _ s' => wpAny (model P w) A (pure true) Q E s') E { s with heap := h1 } := fun M x1 x2 x3 x4 => by
        rw [se]
        refine nrelay tm (s := { s with heap := h1 }) ho1 ⟨hex.1, hex.2.1, hex.2.2⟩ rfl r1 T1 (by rw [ll, m1]; rcases which with ⟨e, e2⟩ | ⟨e, e2⟩ <;> omega) nd1 mem1 led1 (by rw [ll]; exact few) x1 x2 x3 (by rw [ll]; exact x4) fun h2 L2 es2 ep2 t2 sb2 R2 pm2 => ?_
        exact wpAny_pure (fin true h2 L2 es2 ep2 t2 (sb.trans sb2) R2 (fun z => absurd z m) fun _ => pm2.trans pm)
      rcases which with ⟨_, e2⟩ | ⟨_, e2⟩
      · exact go 31 (by rw [e2, size_20]) (.inr (.inl rfl)) (by rw [e2, size_20]; decide) (by omega)
      · exact go 127 (by rw [e2, size_76]) (.inr (.inr rfl)) (by rw [e2, size_76]; decide) (by omega)
    · refine wp_if_neg (by simp [tf]) ?_
      refine wpAny_pure (fin true h1 L1 es1 (ep + 1) t1 sb ⟨⟨_, ho1, ⟨hex.1, hex.2.1, hex.2.2⟩, rfl⟩, r1, T1, nd1, mem1, led1, ?_, by rw [ll]; exact few⟩ (fun z => absurd z m) fun _ => pm)
      have h := tf
      unfold SetTable.tooFull at h
      rw [decide_eq_true_eq, fl] at h
      rw [ll]
      omega
  by_cases pl : t0.plain = true
  · refine wp_if_pos pl (wpAny_bind (tm.byV hx fun r => ?_))
    cases r
    · exact cont _ rfl rfl rfl rfl
    · exact cont _ rfl rfl rfl rfl
  · refine wp_if_neg pl (wpAny_bind (wpAny_pure ?_))
    exact cont _ rfl rfl rfl rfl
end
end Pn

set_option Elab.async false
set_option linter.all false
set_option maxRecDepth 100000
/-! Nested tuples as members of sets: what a heap kind has to tell beside; sets made of lists of them. -/
namespace Pn
open PySem PySem.Spec PyProof.Rows L2
section
variable {P : Program} {w : World}
def HashAt (P : Program) (w : World) (n : Nat) (s : Shared) (v : Value) : Prop := ∀ (A : Around) (E : Value → Shared → Prop) (Q : Bool → Shared → Prop), (∀ r, Q r s) → wpAny (model P w) A (hashByValue n v) Q E s
def ClsAt (P : Program) (w : World) (n : Nat) (s : Shared) (v : Value) : Prop := ∀ (A : Around) (E : Value → Shared → Prop) (Q : Bool → Shared → Prop), Q false s → wpAny (model P w) A (ofAClassStatement n v) Q E s
theorem HashAt.plain {n : Nat} {s : Shared} {v : Value} {b : Bool} (h : hashByValue n v = pure b) : HashAt P w n s v := fun A E Q hq => by
  rw [h]
  exact wpAny_pure (hq b)
theorem ClsAt.plain {n : Nat} {s : Shared} {v : Value} (h : ofAClassStatement n v = pure false) : ClsAt P w n s v := fun A E Q hq => by
  rw [h]
  exact wpAny_pure hq
theorem HashAt.tuple {n : Nat} {s : Shared} {a : Addr} {o : Obj} {vs : Array Value} {m : Nat} (ho : s.heap.get? a = some o) (hc : o.cls = .type "tuple") (hd : o.data = .seq vs m) (all : ∀ v ∈ vs.toList, HashAt P w n s v) : HashAt P w (n + 1) s (.ref a) := fun A E Q h => by
  have ty : s.TypeIs (.ref a) "tuple" := ⟨o, ho, hc⟩
  unfold hashByValue
  refine wpAny_bind (wpAny_specialOf ty F.slot_tuple_hash.lookup ?_)
  show wpAny _ _ (seqItems? (.ref a) >>= _) _ _ s
  refine wpAny_bind (wpAny_seqItems ho hd (wpAny_bind ?_))
  show wpAny _ _ (forIn vs _ _) _ _ s
  rw [← Array.forIn_toList]
  refine wpAny_forIn_list _ (fun more acc s1 => s1 = s ∧ acc.1 = none ∧ ∀ v ∈ more, HashAt P w n s v) _ ?_ ?_ _ _ ⟨rfl, rfl, all⟩
  · rintro v more acc s1 ⟨rfl, e0, al⟩
    refine wpAny_bind (al v (.head _) _ _ _ fun r => ?_)
    cases r
    · simp only [Bool.not_false, if_true]
      exact wpAny_pure (wpAny_pure (h false))
    · simp only [Bool.not_true, Bool.false_eq_true, if_false]
      exact wpAny_pure ⟨rfl, rfl, fun u m => al u (.tail _ m)⟩
  · rintro ⟨r1, r2⟩ s1 ⟨rfl, e0, _⟩
    dsimp only at e0
    subst e0
    exact wpAny_pure (h true)
theorem ClsAt.tuple {n : Nat} {s : Shared} {a : Addr} {o : Obj} {vs : Array Value} {m : Nat} (ho : s.heap.get? a = some o) (hc : o.cls = .type "tuple") (hd : o.data = .seq vs m) (all : ∀ v ∈ vs.toList, ClsAt P w n s v) : ClsAt P w (n + 1) s (.ref a) := fun A E Q h => by
  have ty : s.TypeIs (.ref a) "tuple" := ⟨o, ho, hc⟩
  unfold ofAClassStatement
  refine wpAny_bind (wpAny_typeOf ty ?_)
  have e : (("tuple" : String) == "tuple") = true := by decide
  simp only [e, if_true]
  try refine wpAny_bind (wpAny_pure ?_)
  simp only [Bool.not_true, Bool.false_eq_true, if_false]
  show wpAny _ _ (seqItems? (.ref a) >>= _) _ _ s
  refine wpAny_bind (wpAny_seqItems ho hd ?_)
  dsimp only
  refine wpAny_bind ?_
  show wpAny _ _ (forIn vs _ _) _ _ s
  rw [← Array.forIn_toList]
  refine wpAny_forIn_list _ (fun more acc s1 => s1 = s ∧ acc.1 = none ∧ ∀ v ∈ more, ClsAt P w n s v) _ ?_ ?_ _ _ ⟨rfl, rfl, all⟩
  · rintro v more acc s1 ⟨rfl, e0, al⟩
    refine wpAny_bind (al v (.head _) _ _ _ ?_)
    simp only [Bool.false_eq_true, if_false]
    exact wpAny_pure ⟨rfl, rfl, fun u m => al u (.tail _ m)⟩
  · rintro ⟨r1, r2⟩ s1 ⟨rfl, e0, _⟩
    dsimp only at e0
    subst e0
    exact wpAny_pure h
mutual
theorem hashAt_key : ∀ (k : NestedKey) (v : Value) (n : Nat) (s : Shared), NestedIs s.heap k v → HashAt P w n s v
  | .none, _, n, s, x => by cases x; exact .plain (b := true) (by cases n <;> rfl)
  | .num i, _, n, s, x => by cases x <;> exact .plain (b := true) (by cases n <;> rfl)
  | .text y, _, n, s, x => by cases x; exact .plain (b := false) (by cases n <;> rfl)
  | .tup ks, _, n, s, x => by
    cases x with
    | tup ho hc hd hk =>
      cases n with
      | zero => exact .plain (b := false) rfl
      | succ n => exact .tuple ho hc hd (hashAt_keys ks _ n s hk)
theorem hashAt_keys : ∀ (ks : List NestedKey) (vs : List Value) (n : Nat) (s : Shared), NestedAll s.heap ks vs → ∀ v ∈ vs, HashAt P w n s v
  | [], _, n, s, x, v, m => by cases x; cases m
  | k :: ks, _, n, s, x, v, m => by
    cases x with
    | cons x1 x2 =>
      rcases List.mem_cons.mp m with e | m
      · rw [e]; exact hashAt_key k _ n s x1
      · exact hashAt_keys ks _ n s x2 v m
end
mutual
theorem clsAt_key : ∀ (k : NestedKey) (v : Value) (n : Nat) (s : Shared), NestedIs s.heap k v → k.depth ≤ n → ClsAt P w n s v
  | .none, _, n, s, x, _ => by cases x; exact .plain (by cases n <;> rfl)
  | .num i, _, n, s, x, _ => by cases x <;> exact .plain (by cases n <;> rfl)
  | .text y, _, n, s, x, _ => by cases x; exact .plain (by cases n <;> rfl)
  | .tup ks, _, n, s, x, l => by
    cases x with
    | tup ho hc hd hk =>
      simp only [NestedKey.depth] at l
      cases n with
      | zero => omega
      | succ n => exact .tuple ho hc hd (clsAt_keys ks _ n s hk (by omega))
theorem clsAt_keys : ∀ (ks : List NestedKey) (vs : List Value) (n : Nat) (s : Shared), NestedAll s.heap ks vs → NestedKey.depthAll ks ≤ n → ∀ v ∈ vs, ClsAt P w n s v
  | [], _, n, s, x, _, v, m => by cases x; cases m
  | k :: ks, _, n, s, x, l, v, m => by
    cases x with
    | cons x1 x2 =>
      simp only [NestedKey.depthAll] at l
      rcases List.mem_cons.mp m with e | m
      · rw [e]; exact clsAt_key k _ n s x1 (by omega)
      · exact clsAt_keys ks _ n s x2 (by omega) v m
end
theorem tame_nk : Tame (nestedKind P w) where
  stays := fun {h h' k b a o es ep t} x ho hd sb => ⟨NestedIs.at (fun c ob vs n hb hc => by
    refine (sb.2 c fun e => ?_).trans hb
    subst e
    rw [ho] at hb
    cases hb
    rw [hd] at hc
    cases hc) k _ x.1, x.2⟩
  keeps := fun x keep => ⟨NestedIs.at (fun c ob vs n hb _ => keep c ob hb) _ _ x.1, x.2⟩
  byV := fun x h => hashAt_key _ _ 8 _ x.1 _ _ _ h
  cls := fun x h => clsAt_key _ _ 8 _ x.1 x.2 _ _ _ h
/-! ### a set, made -/
variable {A : Around} {E : Value → Shared → Prop} {s : Shared}
/-- the set at a, without its members -/
def N0 (P : Program) (w : World) (h : Heap) (a : Addr) (L : List (Addr × NestedKey)) : Prop :=
  ∃ (es : Array (Int × Value)) (ep : Nat) (t : SetTable), (∃ o, h.get? a = some o ∧ o.ExactSet ∧ o.data = .set es ep t) ∧ es.toList = ents (nestedKind P w) L ∧ TabOk t (hshs (nestedKind P w) L) ∧ (L.map (·.2)).Nodup ∧
    (w.params.followText "set-order" = true ∨ t.led = true) ∧ L.length * 5 < t.mask * 3 ∧ L.length < 64
theorem N0.full {h : Heap} {a : Addr} {L : List (Addr × NestedKey)} (R : N0 P w h a L) (m : ∀ p ∈ L, (nestedKind P w).is h p.2 p.1) : ∃ es ep t, NRun (nestedKind P w) h a L es ep t := by
  obtain ⟨es, ep, t, h1, h2, h3, h4, h5, h6, h7⟩ := R
  exact ⟨es, ep, t, h1, h2, h3, h4, m, h5, h6, h7⟩
theorem NRun.n0 {h : Heap} {a : Addr} {L : List (Addr × NestedKey)} {es : Array (Int × Value)} {ep : Nat} {t : SetTable} (R : NRun (nestedKind P w) h a L es ep t) : N0 P w h a L := ⟨es, ep, t, R.ob, R.rows, R.tab, R.nd, R.led, R.room, R.few⟩
theorem n0_fresh {h : Heap} {a : Addr} (ho : h.get? a = some { cls := .type "set", dict := none, data := .set #[] 0 (.fresh 0 0 (!w.params.followText "set-order")) }) : N0 P w h a [] := by
  refine ⟨#[], 0, _, ⟨_, ho, ⟨rfl, rfl, rfl⟩, rfl⟩, rfl, ⟨List.Pairwise.nil, rfl, rfl, .inl rfl, fun x m => (by cases m), fun i h j e => (by simp [hshs] at e)⟩, List.nodup_nil, ?_, (show 0 * 5 < 7 * 3 by decide), (show 0 < 64 by decide)⟩
  show _ ∨ (!w.params.followText "set-order") = true
  cases w.params.followText "set-order"
  · exact .inr rfl
  · exact .inl rfl
/-- while it is made: i items of ks are in -/
def NStep (P : Program) (w : World) (h0 : Heap) (ks : List (Addr × NestedKey)) (S : Addr) (i : Nat) (h : Heap) : Prop :=
  (∀ b o, h0.get? b = some o → h.get? b = some o) ∧ ∃ L, N0 P w h S L ∧ (L.map (·.2)).Perm (Ps.uniqK [] ((ks.take i).map (·.2))) ∧ ∀ p ∈ L, p ∈ ks
theorem nstep_stay {h0 : Heap} {ks : List (Addr × NestedKey)} : Ps.Stay h0.objs.size (NStep P w h0 ks h0.objs.size) := fun i h h' ⟨kp, L, ⟨es, ep, t, ⟨o, ho, r⟩, q⟩, pm, mem⟩ k =>
  ⟨fun b o e => k b o (Nat.le_of_lt (Heap.lt_size e)) (kp b o e), L, ⟨es, ep, t, ⟨o, k _ o (Nat.le_refl _) ho, r⟩, q⟩, pm, mem⟩
theorem nstep_adds {h0 : Heap} {ks : List (Addr × NestedKey)} (hk : ∀ p ∈ ks, (nestedKind P w).is h0 p.2 p.1) (few : ks.length < 64) (hu : A.units + 8 < cLine) :
    Ps.Adds P w A E h0.objs.size (NStep P w h0 ks h0.objs.size) (ks.map fun p => Value.ref p.1) := by
  intro i v s Q hv T fin
  obtain ⟨kp, L, R, pm, mem⟩ := T
  rw [List.getElem?_map] at hv
  cases e : ks[i]? with
  | none => rw [e] at hv; cases hv
  | some p =>
    rw [e] at hv
    cases hv
    have mp : p ∈ ks := List.mem_of_getElem? e
    have at_ : ∀ q ∈ ks, (nestedKind P w).is s.heap q.2 q.1 := fun q mq => tame_nk.keeps (hk q mq) kp
    obtain ⟨es, ep, t, R⟩ := R.full fun q mq => at_ q (mem q mq)
    have et : ks.take (i + 1) = ks.take i ++ [p] := by
      rw [List.take_add_one, e]
      rfl
    have lL : L.length + 1 < 64 := by
      have l1 := pm.length_eq
      have l2 := Ps.uniq_len ((ks.take i).map (·.2)) []
      have l3 : i < ks.length := (List.getElem?_eq_some_iff.mp e).1
      rw [List.length_map] at l1
      rw [List.length_map, List.length_take, List.length_nil] at l2
      omega
    unfold setAdd
    refine wpAny_holding (wpAny_bind ((nestedKind P w).pyHash (k := p.2) hu (at_ p mp) ?_))
    refine nadd tame_nk (s := { s with toks := s.toks + (nestedKind P w).draws p.2 }) R (at_ p mp) hu lL fun b h1 L1 es1 ep1 t1 sb R1 same more => fin b h1 _ (Nat.le_add_right _ _) sb ⟨fun c o ec => ?_, L1, R1.n0, ?_, fun q mq => ?_⟩
    · rw [sb.2 c (Nat.ne_of_lt (Heap.lt_size ec))]
      exact kp c o ec
    · rw [et, List.map_append]
      show (L1.map (·.2)).Perm (Ps.uniqK [] ((ks.take i).map (·.2) ++ [p.2]))
      rw [Ps.uniq_snoc]
      by_cases m : p.2 ∈ L.map (·.2)
      · rw [if_pos (pm.mem_iff.mp m), same m]
        exact pm
      · rw [if_neg fun z => m (pm.mem_iff.mpr z)]
        exact ((more m).map Prod.snd).trans ((pm.cons p.2).trans (List.perm_append_singleton _ _).symm)
    · by_cases m : p.2 ∈ L.map (·.2)
      · rw [same m] at mq
        exact mem q mq
      · rcases List.mem_cons.mp ((more m).mem_iff.mp mq) with z | z
        · rw [z]; exact mp
        · exact mem q z
end
end Pn

set_option Elab.async false
set_option linter.all false
set_option maxRecDepth 100000
/-! Sorting tuples of which some may be empty. -/
namespace Pn
open PySem PySem.W PySem.SeqAt PySem.Calls PyProof.Rows
section
variable {prog : Program} {w : World} {A : Around} {E : Value → Shared → Prop} {s : Shared}
def AllTup (ds : List PyData) : Prop := ∀ d, d ∈ ds → ∃ xs, d = .tuple xs
theorem one_tup {xs ys : List PyData} {a b : Value} {as bs : List Addr} {Q : Bool → Shared → Prop} (ra : Reads s.heap a (.tuple xs) as) (rb : Reads s.heap b (.tuple ys) bs) (h : alike (.tuple xs) (.tuple ys) = true)
    (hu : A.units + min (PyData.tuple xs).depth (PyData.tuple ys).depth < cLine) (hq : Q (dataLt (.tuple xs) (.tuple ys)) s) : wpAny (model prog w) A (oneLt' true a b) Q E s := by
  have al : alikeAll xs ys = true := by simpa [alike] using h
  cases ra with
  | @tuple l o vs n _ _ h1 h2 h3 h4 =>
    cases rb with
    | @tuple l2 o2 vs2 n2 _ _ k1 k2 k3 k4 =>
      have z1 : vs.size = xs.length := by simpa using ReadsAll.length _ _ _ h4
      have z2 : vs2.size = ys.length := by simpa using ReadsAll.length _ _ _ k4
      rw [dataLt_tuple, ← firstLt_toks xs ys al, ← z1, ← z2] at hq
      rw [oneLt'_eq]
      simp only [if_true]
      refine wpAny_bind (wpAny_cRoomFor (room_here hu) ?_)
      have ty : s.TypeIs (.ref l) "tuple" := ⟨o, h1, h2⟩
      obtain ⟨c, dct, dt, sl⟩ := o
      obtain ⟨c2, dct2, dt2, sl2⟩ := o2
      simp only at h2 h3 k2 k3
      subst h2 h3 k2 k3
      refine wpAny_bind (wpAny_callSpecialIfBound?_slot (T := "tuple") ty F.slot_tuple_lt (call_meets F.slot_tuple_lt ty F.entry_tuple_lt (F.args_tuple_lt_2 _ _)
        (tuple_ltAt l l2 vs vs2 n n2 dct dct2 sl sl2 (pairEq xs ys) (fun j => dataLt (xs.getD j .none) (ys.getD j .none))) ⟨h1, k1, fun j j1 j2 => ?_, fun j j1 j2 hj => ?_, ?_⟩))
      · have := eqAt_alikeAll xs ys A.in1 s vs.toList vs2.toList _ _ h4 k4 al (room_in hu) j (by simpa using j1) (by simpa using j2)
        simpa using this
      · have := rcLt_alikeAll xs ys A.in1 s vs.toList vs2.toList _ _ h4 k4 al (room_in hu) j (by simpa using j1) (by simpa using j2) hj
        simpa using this
      · exact wpAny_truthy_bool hq
theorem firsts_tup {M : Model} : ∀ {vs : List Value} {ds : List PyData}, EachIs (fun v d => ∃ as, Reads s.heap v d as) vs ds → AllTup ds → ∃ fs : List (Option Value), (∀ (E : Value → Shared → Prop) (Q : List (Option Value) → Shared → Prop), Q fs s → wpAny M A (vs.mapM firstOfTuple') Q E s) ∧ (.tuple [] ∈ ds → none ∈ fs)
  | _, _, .nil, _ => ⟨[], fun E Q h => by rw [List.mapM_nil]; exact wpAny_pure h, fun m => nomatch m⟩
  | _, _, .cons (b := d) ⟨as, r⟩ t, ht => by
    obtain ⟨fs, h1, h2⟩ := firsts_tup (M := M) t fun d m => ht d (.tail _ m)
    obtain ⟨xs, rfl⟩ := ht d (.head _)
    cases r with
    | @tuple a o vs n _ _ ho hc hd hr =>
      refine ⟨vs[0]? :: fs, fun E Q hq => ?_, fun m => ?_⟩
      · rw [List.mapM_cons]
        refine wpAny_bind ?_
        rw [kas_first_eq]
        refine wpAny_bind (Looks.here (show Looks M s.heap (typeOf (.ref a)) o.cls from (Looks.ld ho).andThen .now) ?_)
        rw [hc, if_neg (by first | decide | simp)]
        refine wpAny_bind (listItems_at ho hd (wpAny_pure ?_))
        exact wpAny_bind (h1 E (fun bs s' => wpAny M A (pure (vs[0]? :: bs)) Q E s') (wpAny_pure hq))
      · rcases List.mem_cons.mp m with e | m
        · cases e
          have z : vs.size = 0 := by simpa using ReadsAll.length _ _ _ hr
          rw [Array.getElem?_eq_none (by omega)]
          exact .head _
        · exact .tail _ (h2 m)
theorem sorts_tup {vs : List Value} {ds : List PyData} (e : EachIs (fun v d => ∃ as, Reads s.heap v d as) vs ds) (al : AllAlike ds) (ht : AllTup ds) (hu : ∀ d, d ∈ ds → A.units + d.depth < cLine) : SortsAt prog w A s (dataKind s.heap ds) vs := by
  by_cases hm : PyData.tuple [] ∈ ds
  · obtain ⟨fs, f1, f2⟩ := firsts_tup (A := A) (M := model prog w) e ht
    have nall : ¬ (fs.toArray.all fun x => x.isSome) = true := fun z => by
      have := List.all_eq_true.mp (by simpa using z : fs.all (fun x => x.isSome) = true) none (f2 hm)
      cases this
    have lt : ∀ (f : Bool), PyProof.Rows.H.LtAt prog w A s (dataKind s.heap ds) (if f then oneType' else general') := fun f E x y a b Q ha hb hq => by
      obtain ⟨d, as, hd, ra, rfl⟩ := dataKind_inv ha
      obtain ⟨d', as', hd', rb, rfl⟩ := dataKind_inv hb
      have room : A.units + min d.depth d'.depth < cLine := Nat.lt_of_le_of_lt (Nat.add_le_add_left (Nat.min_le_left _ _) _) (hu d hd)
      obtain ⟨xs, rfl⟩ := ht d hd
      obtain ⟨ys, rfl⟩ := ht d' hd'
      cases f with
      | false =>
        show wpAny _ _ (oneLt' false x y) _ _ _
        exact oneLt_alike (fun z => nomatch z) ra rb (al _ hd _ hd') (fun z => nomatch z) room hq
      | true =>
        show wpAny _ _ (oneLt' true x y) _ _ _
        exact one_tup ra rb (al _ hd _ hd') room hq
    refine ⟨fun v hv => ?_, ?_⟩
    · obtain ⟨d, hd, as, r⟩ := e.left v hv
      exact ⟨_, dataKind_some al hd r⟩
    · by_cases z : (fs.toArray[0]?.bind id).isSome = true
      · refine ⟨general', lt false, fun h2 E Q hq => ?_⟩
        rw [keyKind'_eq, List.mapM_toArray, map_eq_pure_bind]
        refine wpAny_bind (wpAny_bind (f1 _ _ (wpAny_pure ?_)))
        rw [if_neg nall, if_pos z]
        exact wpAny_pure hq
      · refine ⟨oneType', lt true, fun h2 E Q hq => ?_⟩
        rw [keyKind'_eq, List.mapM_toArray, map_eq_pure_bind]
        refine wpAny_bind (wpAny_bind (f1 _ _ (wpAny_pure ?_)))
        rw [if_neg nall, if_neg z, oneTypeOnly'_eq, List.mapM_toArray, map_eq_pure_bind]
        refine wpAny_bind (wpAny_bind (wpAny_bind (kas_mapM (r := Value.type "tuple") _ (fun v hv Q' q' => ?_) (wpAny_pure ?_))))
        · obtain ⟨d, hd, as, r⟩ := e.left v hv
          obtain ⟨xs, rfl⟩ := ht d hd
          exact (looks_reads r : Looks (model prog w) s.heap (typeOf v) (Value.type "tuple")).here q'
        · have all : ((List.map (fun _ => Value.type "tuple") vs).toArray.all fun x => x == Value.type "tuple") = true := by
            simp only [List.all_toArray, List.all_map, List.all_eq_true]
            intro _ _
            exact beq_self_eq_true _
          have h0 : (List.map (fun _ => Value.type "tuple") vs).toArray[0]? = some (Value.type "tuple") := by
            cases vs with
            | nil => simp at h2
            | cons v r => simp
          rw [h0]
          simp only [all, if_true]
          exact wpAny_pure (wpAny_pure hq)
  · refine SortsAt.data e al (.inl fun d hd => ?_) hu
    obtain ⟨xs, rfl⟩ := ht d hd
    cases xs with
    | nil => exact absurd hd hm
    | cons x r => exact ⟨x, r, rfl⟩
def Sorts (ds : List PyData) : Prop := Sortable ds ∨ AllTup ds
theorem sorts_any {vs : List Value} {ds : List PyData} (e : EachIs (fun v d => ∃ as, Reads s.heap v d as) vs ds) (al : AllAlike ds) (hk : Sorts ds) (hu : ∀ d, d ∈ ds → A.units + d.depth < cLine) : SortsAt prog w A s (dataKind s.heap ds) vs := by
  rcases hk with h | h
  · exact SortsAt.data e al h hu
  · exact sorts_tup e al h hu
variable {β : Type} {vs : List Value} {bs : List β} {enc : β → PyData} {R : Value → β → Prop}
theorem sorted_any {l : Addr} {Q : Value → Shared → Prop} (hl : s.heap.IsList l vs.toArray) (e : EachIs R vs bs) (er : EachIs (fun v b => ∃ as, Reads s.heap v (enc b) as) vs bs) (al : AllAlike (bs.map enc)) (hk : Sorts (bs.map enc)) (hL : bs.length ≤ sizeLine)
    (hu : ∀ b, b ∈ bs → A.units + 2 + (enc b).depth < cLine) (fin : ∀ out, out.length = bs.length → EachIs R out (bs.mergeSort (dataLe false enc)) → Q (.ref (s.heap.objs.size + 1)) { s with heap := sortedAll s.heap vs (List.toArray out) }) :
    wpAny (model prog w) A (call (.builtin "sorted") [.ref l]) Q E s := by
  have er2 : EachIs (fun v b => ∃ as, Reads (sortingHeap (copyHeap s.heap vs) (s.heap.objs.size + 1) vs) v (enc b) as) vs bs := er.mono fun _ _ ⟨as, r⟩ => ⟨as, PyProof.Rows.Reads.keeps (fun _ _ => sorting_copy_old) r⟩
  have S := sorts_any (prog := prog) (w := w) (A := A.in1.in1) (s := { s with heap := sortingHeap (copyHeap s.heap vs) (s.heap.objs.size + 1) vs }) (each_map (R := fun v d => ∃ as, Reads (sortingHeap (copyHeap s.heap vs) (s.heap.objs.size + 1) vs) v d as) enc er2) al hk (bound_map hu)
  exact sorted_vals hl S (by rw [e.length]; exact hL) (fin _ (by rw [sortVals_length false rfl]; exact e.length) (sortVals_data false e er2 al))
theorem list_sort_any {a : Addr} {n : Nat} {Q : Value → Shared → Prop} (ho : s.heap.get? a = some (seqObj "list" vs.toArray n)) (e : EachIs R vs bs) (er : EachIs (fun v b => ∃ as, Reads s.heap v (enc b) as ∧ a ∉ as) vs bs) (al : AllAlike (bs.map enc)) (hk : Sorts (bs.map enc)) (hL : bs.length ≤ sizeLine)
    (hu : ∀ b, b ∈ bs → A.units + 1 + (enc b).depth < cLine) (fin : ∀ out, out.length = bs.length → EachIs R out (bs.mergeSort (dataLe false enc)) → Q .none { s with heap := sortedHeap s.heap a vs (List.toArray out) }) :
    wpAny (model prog w) A (call (.builtin "list.sort") [.ref a]) Q E s := by
  have er2 : EachIs (fun v b => ∃ as, Reads (sortingHeap s.heap a vs) v (enc b) as) vs bs := each_keepBut (h' := sortingHeap s.heap a vs) (fun _ _ hb q => sortingHeap_old hb q) (fun o q => by rw [ho] at q; rw [← Option.some.inj q]) al er
  have S := sorts_any (prog := prog) (w := w) (A := A.in1) (s := { s with heap := sortingHeap s.heap a vs }) (each_map (R := fun v d => ∃ as, Reads (sortingHeap s.heap a vs) v d as) enc er2) al hk (bound_map hu)
  refine wpAny_call_entry slot_list_sort ⟨_, ho, rfl⟩ entry_list_sort (list_sort_vals (κ := dataKind (sortingHeap s.heap a vs) (bs.map enc)) ho S (by rw [e.length]; exact hL) ⟨.none, rfl, ?_⟩) (args_list_sort _)
  exact fin _ (by rw [sortVals_length false rfl]; exact e.length) (sortVals_data false e er2 al)
end
end Pn

set_option Elab.async false
set_option linter.all false
set_option maxRecDepth 100000
/-! enumerate of a tuple. -/
namespace Pn
open PySem PySem.Spec PyProof.Rows L2
theorem meets_enum1 {v : Value} {o : Obj} {H : Heap → Prop} (B : Begins v o H) :
    Meets (Builtin.«enumerate.__new__» ⟨[.type "enumerate", v], []⟩) (fun _ R s => H s.heap ∧
      R (.ok (.ret (.ref (s.heap.push o).objs.size))) { s with heap := (s.heap.push o).push { cls := .type "enumerate", data := .fields #[.none, .bool false, .ref s.heap.objs.size, rawInt 0, .none, .none] } }) :=
  .of_wp fun prog w A R s h => by
    obtain ⟨hp, g, d, tk, os⟩ := s
    obtain ⟨begun, h⟩ := h
    have sub := sub_enumerate
    have it : ∀ {A' : Around} {E : Value → Shared → Prop} {Q : Value → Shared → Prop}, Q (.ref hp.objs.size) ⟨hp.push o, g, d, tk, os⟩ → wpAny (model prog w) A' (pyIter v) Q E ⟨hp, g, d, tk, os⟩ :=
      fun q => B.iter prog w _ _ ⟨hp, g, d, tk, os⟩ _ begun q
    wp_walk using it
    refine wpAny_stack_any fun st => wpAny_pure ?_
    split
    · rename_i c _ _ _ _ _
      cases (c == Value.type "enumerate")
      · wp_walk using it
        exact ⟨_, rfl, h⟩
      · wp_walk using it
        exact ⟨_, rfl, h⟩
    · wp_walk using it
      exact ⟨_, rfl, h⟩
section
variable {prog : Program} {w : World} {A : Around} {E : Value → Shared → Prop} {s : Shared}
theorem call_enumT {t : Addr} {items : Array Value} {Q : Value → Shared → Prop} (ht : s.heap.IsTuple t items)
    (fin : ∀ h', IsEnum h' (s.heap.objs.size + 1) s.heap.objs.size 0 .none → h'.IsTupleIter s.heap.objs.size t 0 → (∀ b o, s.heap.get? b = some o → h'.get? b = some o) → Q (.ref (s.heap.objs.size + 1)) { s with heap := h' }) :
    wpAny (model prog w) A (call (.type "enumerate") [.ref t]) Q E s := by
  refine callType_new F.called_enumerate (by decide) (F.typeCall_enumerate_1 _) (F.newCall_enumerate_1 _) (fun obj => F.args_object_init_2 obj _) F.entry_enumerate_new (meets_enum1 (begins_tuple t items)) ⟨ht, ?_⟩
  have z : (s.heap.push { cls := .type "tuple_iterator", data := .fields #[.ref t, .int 0 0] }).objs.size = s.heap.objs.size + 1 := Heap.size_push ..
  show _ ∧ _
  rw [z]
  have he : IsEnum ((s.heap.push { cls := .type "tuple_iterator", data := .fields #[.ref t, .int 0 0] }).push { cls := .type "enumerate", data := .fields #[.none, .bool false, .ref s.heap.objs.size, rawInt 0, .none, .none] }) (s.heap.objs.size + 1) s.heap.objs.size 0 .none := by
    have := Heap.get?_push_size (s.heap.push { cls := .type "tuple_iterator", data := .fields #[.ref t, .int 0 0] }) (o := { cls := .type "enumerate", data := .fields #[.none, .bool false, .ref s.heap.objs.size, rawInt 0, .none, .none] }) rfl
    rw [z] at this
    exact this
  exact ⟨⟨_, he, rfl⟩, fin _ he ⟨_, Heap.get?_push_of_some _ (Heap.get?_push_size _ rfl), rfl, rfl⟩ fun b o e => Heap.get?_push_of_some _ (Heap.get?_push_of_some _ e)⟩
theorem enum_endT {e it a : Addr} {i : Nat} {c : Int} {items : Array Value} {old : Value} {Q : Option Value → Shared → Prop} (hh : A.in1.handled = none) (he : IsEnum s.heap e it c old) (hit : s.heap.IsTupleIter it a i) (ht : s.heap.IsTuple a items) (hx : items[i]? = none)
    (hQ : ∀ h', Heap.ExtBut it s.heap h' → Q none { s with heap := h' }) : wpAny (model prog w) A (pyNext (.ref e)) Q E s := by
  have D : Draws prog w A.in1 it [it, a] i (fun _ _ => False) (fun j h => j = i ∧ h.IsTupleIter it a i ∧ h.IsTuple a items) := {
    live := fun _ _ st => let ⟨o, ho, _⟩ := st.2.1; ⟨o, ho⟩
    frame := fun _ _ _ st k => ⟨st.1, st.2.1.at fun o e => k it (by simp) o e, st.2.2.at fun o e => k a (by simp) o e⟩
    item := fun j s Q E lt st _ => absurd st.1 (Nat.ne_of_lt lt)
    done := fun s Q E st hE => wpAny_nextOf_tuple_end hh st.2.1 st.2.2 hx hE }
  exact wpAny_pyNext_enum_endD D he ⟨rfl, hit, ht⟩ hQ
end
/-- the tuple at a, each item in a new pair with its number -/
def Iet (K : PySem.W.Frag) (a : Addr) : It :=
  ⟨fun i H => ∃ (xs : List V) (x : V), SqT K H a xs ∧ xs[i]? = some x, fun i H v H' => ∃ T x, v = .ref T ∧ H T = none ∧ H' = upd H T (.tup [.int (i : Nat), x]) ∧ ∀ xs, SqT K H a xs → xs[i]? = some x, fun i H => ∃ xs : List V, SqT K H a xs ∧ xs.length ≤ i⟩
theorem turn_enumT {P : Program} {w : World} {K : PySem.W.Frag} {elts : List Expr} {kk : Nat} {tpos : Pos} (a e it : Addr) :
    Turn P w K (.Tuple elts kk tpos) (Iet K a) [e, it] e (fun i h => (∃ old, IsEnum h e it ((i : Nat) : Int) old) ∧ h.IsTupleIter it a i ∧ e ≠ it ∧ a ≠ it ∧ e ≠ a) where
  mem := by simp
  obj := fun i h st b hb => by
    obtain ⟨⟨old, he⟩, ⟨o, ho, hc, hd⟩, _⟩ := st
    have e' : b = e ∨ b = it := by simpa using hb
    rcases e' with z | z
    · subst z; exact ⟨_, he, fun v q => nomatch q⟩
    · subst z; exact ⟨o, ho, fun v q => by rw [hd] at q; cases q⟩
  keep := fun i h h' st k => by
    obtain ⟨⟨old, he⟩, hi, ne⟩ := st
    exact ⟨⟨old, k e (by simp) _ he⟩, hi.at fun o q => k it (by simp) o q, ne⟩
  item := by
    intro X hP hw hK hc i pins s σ H E I hf st hg
    subst hP hw hK
    obtain ⟨⟨old, he⟩, hit, n1, n2, n3⟩ := st
    obtain ⟨xs, x, hq, hx⟩ := hg
    obtain ⟨its, rv, p, hz⟩ := I.tuple hq
    obtain ⟨u, hu, ru⟩ := rv.get hx
    have le : e < s.heap.objs.size := Heap.lt_size he
    have li : it < s.heap.objs.size := by
      obtain ⟨_, q, _⟩ := hit
      exact Heap.lt_size q
    have hlt : i < its.toArray.size := by
      have := (List.getElem?_eq_some_iff.mp hu).1
      simpa using this
    refine wpAny_pyNext_enum_itemD (Draws.tuple (A := X.A.in1) (I.ok.hd hc) it a n2 its.toArray) he ⟨hit, p⟩ hlt n1 (by simp [n1, n3]) fun v h1 tk hv ho hit1 hT hsz hk => ?_
    have ev : v = u := by
      have : its[i]? = some v := by simpa using hv
      rw [hu] at this
      exact (Option.some.inj this).symm
    subst ev
    refine ⟨_, rfl, wpAny_letOwnedTupleGo_enum (s := { s with heap := h1, toks := tk + 1 }) ho fun h2 he2 sb => ?_⟩
    have hT2 : h2.get? s.heap.objs.size = some { cls := .type "tuple", data := .seq #[.int i tk, v] } := (sb.2 _ (Nat.ne_of_gt le)).trans hT
    have new : ObjOk X.prog X.w (upd H s.heap.objs.size (.tup [.int (i : Nat), x])) h2 s.heap.objs.size (.tup [.int (i : Nat), x]) :=
      ⟨by show 2 ≤ sizeLine; decide, [.int i tk, v], .cons ⟨_, rfl⟩ (.cons ru .nil), ⟨_, hT2, rfl, _, rfl⟩⟩
    have I1 : Inv X pins σ (upd H s.heap.objs.size (.tup [.int (i : Nat), x])) { s with heap := h2, toks := tk + 1 } :=
      I.turnedNew (ch := [e, it]) (fun b ob hb q => (sb.2 b (fun z => hb (by simp [z]))).trans (hk b ob (fun z => hb (by simp [z])) (fun z => hb (by simp [z])) q)) hf (Nat.le_refl _) new
    refine ⟨.ref s.heap.objs.size, _, I1, rfl, ⟨_, x, rfl, I.hok.fresh (Nat.le_refl _), rfl, fun ys hy => by rw [I.tuple_inj hy hq]; exact hx⟩, ⟨⟨v, ?_⟩, hit1.1.at fun o q => (sb.2 it (Ne.symm n1)).trans q, n1, n2, n3⟩, fun b hb => ?_⟩
    · have e1 : ((i + 1 : Nat) : Int) = (i : Int) + 1 := by omega
      rw [e1]
      exact he2
    · have lb : b < s.heap.objs.size := by
        have e' : b = e ∨ b = it := by simpa using hb
        rcases e' with z | z
        · rw [z]; exact le
        · rw [z]; exact li
      rw [upd_ne (Nat.ne_of_lt lb)]
      exact (hf b hb).1
  done := by
    intro X hP hw hK hc i pins s σ H E I hf st hg
    subst hP hw hK
    obtain ⟨⟨old, he⟩, hit, n1, n2, n3⟩ := st
    obtain ⟨xs, hq, hx⟩ := hg
    obtain ⟨its, rv, p, hz⟩ := I.tuple hq
    obtain ⟨f0, f1, f2, f3, f4, f5⟩ := hf it (by simp)
    have hl := rv.length
    exact enum_endT (I.ok.hd hc) he hit p (by simp; omega) fun h' eb => ⟨rfl, I.turned (t' := s.toks) (fun b o hb q => eb b o hb q) f0 f1 f3 f4 f5⟩
  self := fun A i s Q E st h => let ⟨⟨_, he⟩, _⟩ := st; wpAny_pyIter_enum he h
def iEnumA (K : PySem.W.Frag) (ta : TA) : TI := fun σ H R => ta σ H fun vs H1 => ∃ a, vs = [.ref a] ∧ ((∃ xs, SqL K H1 a xs ∧ R (Ite K a) H1) ∨ ∃ xs, SqT K H1 a xs ∧ R (Iet K a) H1)
theorem pi_enumA {X : Cx} {e : Expr} {ta : TA} {p pos tpos : Pos} {elts : List Expr} {kk : Nat} (hg : Gl X "enumerate") (hm : X.mg "enumerate" = none) (ha : PA X [e] ta) (hs : starEach [e] X.env = [(false, eval e X.env)] := by rfl) :
    PI X (.Tuple elts kk tpos) (.Call (.Name "enumerate" p) [e] [] pos) (iEnumA X.K ta) := by
  refine ⟨fun pins s σ H R I h => ?_⟩
  refine Call_ (ld_blt I hg hm boot_enumerate (PyProof.Rows.callWith_type1 (thn (ha.run pos pins s σ H _ I h) fun us s1 ⟨vs, H1, I1, r1, q1⟩ => ?_) hs rfl))
  obtain ⟨a, ex, q1⟩ := q1
  subst ex
  cases r1 with
  | cons r rr =>
    cases rr
    cases r
    have low : ∀ b, b ∈ [s1.heap.objs.size + 1, s1.heap.objs.size] → s1.heap.objs.size ≤ b := fun b hb => by
      have e' : b = s1.heap.objs.size + 1 ∨ b = s1.heap.objs.size := by simpa using hb
      rcases e' with z | z
      · rw [z]; exact Nat.le_add_right _ _
      · rw [z]; exact Nat.le_refl _
    rcases q1 with ⟨xs, hq, q⟩ | ⟨xs, hq, q⟩
    · obtain ⟨its, rv, p', hz⟩ := I1.list hq
      refine call_enumerate_list p'.isList fun h' he hit hsz hk => wpAny_pyIter_enum he ?_
      have I2 : Inv X pins σ H1 { s1 with heap := h' } := I1.kept (t' := s1.toks) hk
      exact ⟨s1.heap.objs.size + 1, [s1.heap.objs.size + 1, s1.heap.objs.size], _, _, H1, rfl, I2, turn_enum a (s1.heap.objs.size + 1) s1.heap.objs.size, ⟨⟨.none, he⟩, hit, Nat.succ_ne_self _⟩, fun b hb => I1.fpOk (low b hb) (I1.hok.fresh (low b hb)), q⟩
    · obtain ⟨its, rv, p', hz⟩ := I1.tuple hq
      have la : a < s1.heap.objs.size := by
        obtain ⟨_, g, _⟩ := p'
        exact Heap.lt_size g
      refine call_enumT p' fun h' he hit hk => wpAny_pyIter_enum he ?_
      have I2 : Inv X pins σ H1 { s1 with heap := h' } := I1.kept (t' := s1.toks) hk
      exact ⟨s1.heap.objs.size + 1, [s1.heap.objs.size + 1, s1.heap.objs.size], _, _, H1, rfl, I2, turn_enumT a (s1.heap.objs.size + 1) s1.heap.objs.size, ⟨⟨.none, he⟩, hit, Nat.succ_ne_self _, Nat.ne_of_lt la, Nat.ne_of_gt (Nat.lt_succ_of_lt la)⟩, fun b hb => I1.fpOk (low b hb) (I1.hok.fresh (low b hb)), q⟩
end Pn

set_option Elab.async false
set_option linter.all false
set_option maxRecDepth 100000
/-! t[::-1] of a tuple. -/
namespace Ps
open PySem PySem.Spec PyProof.Rows L2
section
variable {prog : Program} {w : World} {A : Around} {E : Value → Shared → Prop} {s : Shared}
theorem adjust_rev (n : Nat) : Builtin.Slice.sliceAdjust none none (-1) (n : Int) = ((n : Int) - 1, -1) := by
  unfold Builtin.Slice.sliceAdjust
  first | rfl | simp
theorem places_rev (n : Nat) : Builtin.Slice.slicePlaces ((n : Int) - 1) (-1) (-1) = n := by
  unfold Builtin.Slice.slicePlaces
  by_cases h : n = 0
  · subst h; rfl
  · have : ((-1 : Int) < (n : Int) - 1) := by omega
    simp
    omega
theorem sliceApplied_rev {sl : Addr} {n : Nat} {t : Tok} {Q : Int × Int × Nat → Shared → Prop} (hs : s.heap.IsSliceOf sl .none .none (.int (-1) t)) (h : Q ((n : Int) - 1, -1, n) s) : wpAny (model prog w) A (Builtin.Slice.sliceApplied (.ref sl) (pure (n : Int))) Q E s := by
  obtain ⟨os, hos, hcs, hds⟩ := id hs
  unfold Builtin.Slice.sliceApplied Builtin.Slice.sliceFields
  refine wpAny_bind (wpAny_bind (wpAny_field hos hds (x := .none) rfl (wpAny_bind (wpAny_field hos hds (x := .none) rfl (wpAny_bind (wpAny_field hos hds (x := .int (-1) t) rfl (wpAny_pure ?_)))))))
  refine wpAny_bind (slicePart_int ?_)
  show wpAny _ _ (if ((-1 : Int) == 0) = true then _ else _) _ _ s
  rw [if_neg (by decide)]
  refine wpAny_bind (slicePart_none (wpAny_bind (slicePart_none (wpAny_bind (wpAny_pure ?_)))))
  show wpAny _ _ (match Builtin.Slice.sliceAdjust none none (-1) (n : Int) with | (lo, hi) => pure (lo, (-1 : Int), Builtin.Slice.slicePlaces lo hi (-1))) _ _ s
  rw [adjust_rev n]
  show wpAny _ _ (pure (((n : Int) - 1), (-1 : Int), Builtin.Slice.slicePlaces ((n : Int) - 1) (-1) (-1))) _ _ s
  rw [places_rev]
  exact wpAny_pure h
theorem pick_rev (xs : Array Value) : ((List.range xs.size).filterMap fun (m : Nat) => xs[((xs.size : Int) - 1 + (m : Int) * -1).toNat]?).toArray = xs.toList.reverse.toArray := by
  have e : ∀ m ∈ List.range xs.size, xs[((xs.size : Int) - 1 + (m : Int) * -1).toNat]? = xs[xs.size - 1 - m]? := fun m hm => by
    have := List.mem_range.mp hm
    have : ((xs.size : Int) - 1 + (m : Int) * -1).toNat = xs.size - 1 - m := by omega
    rw [this]
  have k := PySem.W.krv_pick xs
  unfold slicePick at k
  rw [PySem.W.krv_bounds] at k
  change ((sliceRange ((xs.size : Int) - 1) (-1) (-1)).filterMap (xs[·]?)).toArray = _ at k
  rw [PySem.W.krv_sliceRange, List.filterMap_map] at k
  rw [← k]
  have fc : ∀ (l : List Nat) (f g : Nat → Option Value), (∀ m ∈ l, f m = g m) → l.filterMap f = l.filterMap g := fun l f g h => by
    induction l with
    | nil => rfl
    | cons a r ih => rw [List.filterMap_cons, List.filterMap_cons, h a (.head _), ih fun m hm => h m (.tail _ hm)]
  rw [fc _ _ _ e]
  rfl
theorem getItem_tuple_rev {t sl : Addr} {items : Array Value} {tk : Tok} {Q : Value → Shared → Prop} (ht : IsTup s.heap t items) (hs : s.heap.IsSliceOf sl .none .none (.int (-1) tk))
    (h : Q (.ref s.heap.objs.size) { s with heap := s.heap.push { cls := .type "tuple", data := .seq items.toList.reverse.toArray } })
    (hsz : items.size ≤ sizeLine) : wpAny (model prog w) A (getItem (.ref t) (.ref sl)) Q E s := by
  have htake : sizeOk (.seq items.toList.reverse.toArray) := by
    show items.toList.reverse.toArray.size ≤ sizeLine
    rw [List.size_toArray, List.length_reverse, Array.length_toList]
    exact hsz
  obtain ⟨os, hos, hcs, hds⟩ := id hs
  have hTs : s.TypeIs (.ref sl) "slice" := ⟨os, hos, hcs⟩
  unfold getItem
  try with_reducible refine wpAny_holding ?_
  first | refine wpAny_bind (wpAny_pure ?_) | skip
  refine wpAny_bind (wpAny_sequenceKey ht.typeIs (by decide) ?_)
  refine wpAny_bind (wpAny_callSpecial?_slot (name := Str.ofString "__getitem__") ht.typeIs PyProof.Rows.slot_tuple_getitem
    (wpAny_call_entry PyProof.Rows.slot_tuple_getitem ht.typeIs entry_tuple_getitem ?_ (args_tuple_getitem _ _)))
  show wpAny _ _ (Builtin.Tuple.tupleItemsOf (.ref t) >>= _) _ _ s
  refine wpAny_bind (tupleItemsOf_ ht ?_)
  refine wpAny_bind (wpAny_typeOf hTs ?_)
  rw [if_pos (by decide)]
  refine wpAny_bind (sliceApplied_rev hs ?_)
  have hno : ¬ ((((items.size : Int) - 1) == 0 && (-1 : Int) == 1 && items.size == items.size) = true) := by
    intro q
    rw [Bool.and_eq_true, Bool.and_eq_true] at q
    exact absurd q.1.2 (by decide)
  show wpAny _ _ (if ((((items.size : Int) - 1) == 0 && (-1 : Int) == 1 && items.size == items.size) = true) then _ else _) _ _ s
  rw [if_neg hno, pick_rev]
  first
    | exact wpAny_bind (m := Builtin.Tuple.tupleExact _) (wpAny_newObj_type (wpAny_pure ⟨_, rfl, wpAny_pure h⟩) htake)
    | exact wpAny_bind (m := Builtin.Tuple.tupleExact _) (wpAny_newObj_type (wpAny_bind (wpAny_pure (wpAny_pure ⟨_, rfl, wpAny_pure h⟩))) htake)
    | exact wpAny_bind (wpAny_bind (m := Builtin.Tuple.tupleExact _) (wpAny_newObj_type (wpAny_pure (wpAny_pure ⟨_, rfl, wpAny_pure h⟩)) htake))
    | exact wpAny_bind (wpAny_bind (m := Builtin.Tuple.tupleExact _) (wpAny_newObj_type (wpAny_pure ⟨_, rfl, wpAny_pure h⟩) htake))
end
end Ps

set_option Elab.async false
set_option linter.all false
set_option maxRecDepth 100000
set_option maxHeartbeats 1000000
/-! Plain data, what a def's own lists are, how both lie in the layer's heap. -/
namespace Pd
open PySem L2

abbrev D := PyData
/-- what stands at a place of a def's own: a list, a dict that it may change; gone -/
inductive MO where
  | lst (xs : List D)
  | dic (kvs : List (D × D))
  | dead
/-- what a name holds: data that nobody changes any more; the k-th own thing -/
inductive C where
  | d (x : D)
  | r (k : Nat)
/-- what an expression gives: that, or a list | a dict that nobody else has -/
inductive RV where
  | c (x : C)
  | f (xs : List D)
  | g (kvs : List (D × D))
/-- what a def is handed, what it gives -/
inductive Arg where
  | d (x : D)
  | m (o : MO)
inductive FR where
  | d (x : D)
  | f (xs : List D)
  | g (kvs : List (D × D))
structure Xn where
  cls : Str
  fs : List (Str × D)
inductive Rs (α : Type) where
  | ok (a : α)
  | ex (x : Xn)
abbrev EnvP := List (Option C)
structure PSt where
  env : EnvP
  L : List MO
abbrev M (α : Type) := PSt → Option (Rs α × PSt)
def M.pure {α : Type} (a : α) : M α := fun s => some (.ok a, s)
def M.bind {α β : Type} (m : M α) (f : α → M β) : M β := fun s => match m s with
  | some (.ok a, s') => f a s'
  | some (.ex x, s') => some (.ex x, s')
  | none => none
def M.fail {α : Type} : M α := fun _ => none
abbrev FT := List Arg → Option (Rs FR × List MO)

/-! ### how it lies -/
structure Wd where
  B : Hp
  al : List Addr

def Sub (B H : Hp) : Prop := ∀ a o, B a = some o → H a = some o
theorem Sub.rfl' {H : Hp} : Sub H H := fun _ _ h => h
theorem Sub.trans {A B H : Hp} (x : Sub A B) (y : Sub B H) : Sub A H := fun a o h => y a o (x a o h)
theorem Sub.upd {B H : Hp} {p : Addr} {o : HO} (x : Sub B H) (h : B p = none) : Sub B (upd H p o) := fun a u e => by
  rw [upd_ne (ne_of_none e h)]
  exact x a u e
theorem Sub.new {H : Hp} {p : Addr} {o : HO} (h : H p = none) : Sub H (L2.upd H p o) := Sub.upd .rfl' h
theorem Sub.free {B H : Hp} {p : Addr} (x : Sub B H) (h : H p = none) : B p = none := by
  cases e : B p with
  | none => rfl
  | some o => rw [x p o e] at h; cases h
theorem Sub.l {K : PySem.W.Frag} {B H : Hp} {a : Addr} {xs : List V} (e : Sub B H) (h : SqL K B a xs) : SqL K H a xs := Evl.ex_l e h
theorem Sub.t {K : PySem.W.Frag} {B H : Hp} {a : Addr} {xs : List V} (e : Sub B H) (h : SqT K B a xs) : SqT K H a xs := Evl.ex_t e h

/-- a tuple as it is: its very object, or one of the module -/
def SqE (K : PySem.W.Frag) (H : Hp) (a : Addr) (xs : List V) : Prop :=
  (∃ o, H a = some (.frz o (.tup xs)) ∧ o.dict = none) ∨
    ∃ (o : Obj) (its : Array Value) (n : Nat), K.lookup a = some o ∧ o.cls = .type "tuple" ∧ o.dict = none ∧ o.data = .seq its n ∧ its.size ≤ sizeLine ∧ Vals xs its.toList
theorem SqE.t {K : PySem.W.Frag} {H : Hp} {a : Addr} {xs : List V} : SqE K H a xs → SqT K H a xs
  | .inl ⟨o, h, _⟩ => .inl (.inr ⟨o, h⟩)
  | .inr ⟨o, its, n, h1, h2, _, h3, h4, h5⟩ => .inr ⟨o, its, n, h1, h2, h3, h4, h5⟩
theorem Sub.e {K : PySem.W.Frag} {B H : Hp} {a : Addr} {xs : List V} (e : Sub B H) : SqE K B a xs → SqE K H a xs
  | .inl ⟨o, h, d⟩ => .inl ⟨o, e _ _ h, d⟩
  | .inr h => .inr h
mutual
/-- the data d lies at v: lists and tuples tracked, or of the module -/
inductive Dq (K : PySem.W.Frag) (H : Hp) : V → D → Prop
  | non : Dq K H .non .none
  | bl (b : Bool) : Dq K H (.bl b) (.bool b)
  | int (i : Int) : Dq K H (.int i) (.int i)
  | str (x : Str) : Dq K H (.str x) (.str x)
  | lst {a : Addr} {xs : List V} {ds : List D} : SqL K H a xs → Dqs K H xs ds → Dq K H (.ref a) (.list ds)
  | tup {a : Addr} {xs : List V} {ds : List D} : SqE K H a xs → Dqs K H xs ds → Dq K H (.ref a) (.tuple ds)
inductive Dqs (K : PySem.W.Frag) (H : Hp) : List V → List D → Prop
  | nil : Dqs K H [] []
  | cons {v : V} {vs : List V} {d : D} {ds : List D} : Dq K H v d → Dqs K H vs ds → Dqs K H (v :: vs) (d :: ds)
end
mutual
theorem Dq.mono {K : PySem.W.Frag} {B H : Hp} (e : Sub B H) : ∀ (d : D) (v : V), Dq K B v d → Dq K H v d
  | _, _, .non => .non
  | _, _, .bl b => .bl b
  | _, _, .int i => .int i
  | _, _, .str x => .str x
  | .list ds, _, .lst h a => .lst (e.l h) (Dqs.mono e ds _ a)
  | .tuple ds, _, .tup h a => .tup (e.e h) (Dqs.mono e ds _ a)
theorem Dqs.mono {K : PySem.W.Frag} {B H : Hp} (e : Sub B H) : ∀ (ds : List D) (vs : List V), Dqs K B vs ds → Dqs K H vs ds
  | _, _, .nil => .nil
  | d :: ds, _, .cons h t => .cons (Dq.mono e d _ h) (Dqs.mono e ds _ t)
end
mutual
theorem Dq.dp {K : PySem.W.Frag} {H : Hp} : ∀ (d : D) (v : V), Dq K H v d → Dp K H v d
  | _, _, .non => .non
  | _, _, .bl b => .bl b
  | _, _, .int i => .int i
  | _, _, .str x => .str x
  | .list ds, _, .lst h a => .lst h (Dqs.dp ds _ a)
  | .tuple ds, _, .tup h a => .tup h.t (Dqs.dp ds _ a)
theorem Dqs.dp {K : PySem.W.Frag} {H : Hp} : ∀ (ds : List D) (vs : List V), Dqs K H vs ds → DpAll K H vs ds
  | _, _, .nil => .nil
  | d :: ds, _, .cons h t => .cons (Dq.dp d _ h) (Dqs.dp ds _ t)
end
theorem dl_len {K : PySem.W.Frag} {B : Hp} : ∀ {vs : List V} {ds : List D}, Dqs K B vs ds → vs.length = ds.length
  | _, _, .nil => rfl
  | _, _, .cons _ t => congrArg (· + 1) (dl_len t)
theorem dl_get {K : PySem.W.Frag} {B : Hp} : ∀ {vs : List V} {ds : List D} {i : Nat} {d : D}, Dqs K B vs ds → ds[i]? = some d → ∃ v, vs[i]? = some v ∧ Dq K B v d
  | _, _, _, _, .nil, h => by simp at h
  | _, _, 0, d, .cons h t, e => by
    cases (Option.some.inj e : _ = d)
    exact ⟨_, rfl, h⟩
  | _, _, i + 1, d, .cons h t, e => dl_get (i := i) t (by simpa using e)
theorem dl_getV {K : PySem.W.Frag} {B : Hp} : ∀ {vs : List V} {ds : List D} {i : Nat} {v : V}, Dqs K B vs ds → vs[i]? = some v → ∃ d, ds[i]? = some d ∧ Dq K B v d
  | _, _, _, _, .nil, h => by simp at h
  | _, _, 0, d, .cons h t, e => by
    cases (Option.some.inj e : _ = d)
    exact ⟨_, rfl, h⟩
  | _, _, i + 1, d, .cons h t, e => dl_getV (i := i) t (by simpa using e)
theorem dl_app {K : PySem.W.Frag} {B : Hp} : ∀ {vs ws : List V} {ds es : List D}, Dqs K B vs ds → Dqs K B ws es → Dqs K B (vs ++ ws) (ds ++ es)
  | _, _, _, _, .nil, h => h
  | _, _, _, _, .cons h t, g => .cons h (dl_app t g)
theorem dl_take {K : PySem.W.Frag} {B : Hp} : ∀ {vs : List V} {ds : List D} (n : Nat), Dqs K B vs ds → Dqs K B (vs.take n) (ds.take n)
  | _, _, 0, _ => .nil
  | _, _, _ + 1, .nil => .nil
  | _, _, n + 1, .cons h t => .cons h (dl_take n t)
theorem dl_drop {K : PySem.W.Frag} {B : Hp} : ∀ {vs : List V} {ds : List D} (n : Nat), Dqs K B vs ds → Dqs K B (vs.drop n) (ds.drop n)
  | _, _, 0, h => h
  | _, _, _ + 1, .nil => .nil
  | _, _, n + 1, .cons _ t => dl_drop n t
theorem dl_set {K : PySem.W.Frag} {B : Hp} {v : V} {d : D} (h : Dq K B v d) : ∀ {vs : List V} {ds : List D} (n : Nat), Dqs K B vs ds → Dqs K B (vs.set n v) (ds.set n d)
  | _, _, _, .nil => .nil
  | _, _, 0, .cons _ t => .cons h t
  | _, _, n + 1, .cons g t => .cons g (dl_set h n t)
theorem dl_erase {K : PySem.W.Frag} {B : Hp} : ∀ {vs : List V} {ds : List D} (n : Nat), Dqs K B vs ds → Dqs K B (vs.eraseIdx n) (ds.eraseIdx n)
  | _, _, _, .nil => .nil
  | _, _, 0, .cons _ t => t
  | _, _, n + 1, .cons g t => .cons g (dl_erase n t)

/-- the dict's entries: keys ints and texts -/
def keyD : D → Option Key
  | .int i => some (.inl i)
  | .str x => some (.inr x)
  | _ => none
inductive KvRep (K : PySem.W.Frag) (B : Hp) : List (Key × V) → List (D × D) → Prop
  | nil : KvRep K B [] []
  | cons {k : Key} {v : V} {x d : D} {r : List (Key × V)} {q : List (D × D)} : keyD x = some k → Dq K B v d → KvRep K B r q → KvRep K B ((k, v) :: r) ((x, d) :: q)
theorem KvRep.mono {K : PySem.W.Frag} {B H : Hp} (e : Sub B H) : ∀ {r : List (Key × V)} {q : List (D × D)}, KvRep K B r q → KvRep K H r q
  | _, _, .nil => .nil
  | _, _, .cons a b c => .cons a (Dq.mono e _ _ b) (c.mono e)

/-- the own thing at a -/
def MoRep (K : PySem.W.Frag) (B H : Hp) (a : Addr) : MO → Prop
  | .lst xs => B a = none ∧ ∃ vs, H a = some (.lst vs) ∧ Dqs K B vs xs
  | .dic kvs => B a = none ∧ ∃ es, H a = some (.dK es) ∧ KvRep K B es kvs
  | .dead => H a ≠ none
inductive Objs (K : PySem.W.Frag) (B H : Hp) : List Addr → List MO → Prop
  | nil : Objs K B H [] []
  | cons {a : Addr} {o : MO} {as : List Addr} {os : List MO} : MoRep K B H a o → Objs K B H as os → Objs K B H (a :: as) (o :: os)

def CRep (K : PySem.W.Frag) (W : Wd) (v : V) : C → Prop
  | .d x => Dq K W.B v x
  | .r k => ∃ a, W.al[k]? = some a ∧ v = .ref a
/-- the names of a def: those known stand in their slots -/
def EnvRep (K : PySem.W.Frag) (W : Wd) (σ : L2.St) (env : EnvP) : Prop :=
  σ.length = env.length ∧ ∀ (i : Nat) (c : C), env[i]? = some (some c) → ∃ v, σ[i]? = some (some v) ∧ CRep K W v c
structure Sim (K : PySem.W.Frag) (W : Wd) (s : PSt) (σ : L2.St) (H : Hp) : Prop where
  sub : Sub W.B H
  nod : W.al.Nodup
  objs : Objs K W.B H W.al s.L
  env : EnvRep K W σ s.env

/-- from one state to a later one: data stays, what is tracked and not our own stays, what is new was free -/
structure StepS (W : Wd) (H : Hp) (W' : Wd) (H' : Hp) : Prop where
  sub : Sub W.B W'.B
  keep : ∀ a o, H a = some o → a ∉ W.al → H' a = some o
  al : ∀ a, a ∈ W'.al → a ∈ W.al ∨ H a = none
  nb : ∀ a o, W'.B a = some o → W.B a = some o ∨ a ∈ W.al ∨ H a = none
  trk : ∀ a, H' a = none → H a = none
theorem StepS.rfl' {W : Wd} {H : Hp} : StepS W H W H := ⟨.rfl', fun _ _ h _ => h, fun _ h => .inl h, fun _ _ h => .inl h, fun _ h => h⟩
theorem StepS.trans {W W1 W2 : Wd} {H H1 H2 : Hp} (x : StepS W H W1 H1) (y : StepS W1 H1 W2 H2) : StepS W H W2 H2 where
  sub := x.sub.trans y.sub
  keep := fun a o h n => y.keep a o (x.keep a o h n) fun m => (x.al a m).elim n fun q => by rw [q] at h; cases h
  al := fun a m => (y.al a m).elim (fun q => x.al a q) fun q => .inr (x.trk a q)
  nb := fun a o h => (y.nb a o h).elim (fun q => x.nb a o q) fun q => q.elim (fun m => .inr (x.al a m)) fun q => .inr (.inr (x.trk a q))
  trk := fun a h => x.trk a (y.trk a h)
/-- .. within an expression: no own thing is new -/
structure Step (W : Wd) (H : Hp) (W' : Wd) (H' : Hp) : Prop extends StepS W H W' H' where
  pre : ∃ n, W'.al = W.al.take n
theorem Step.rfl' {W : Wd} {H : Hp} : Step W H W H := ⟨.rfl', W.al.length, List.take_length.symm⟩
theorem Step.trans {W W1 W2 : Wd} {H H1 H2 : Hp} (x : Step W H W1 H1) (y : Step W1 H1 W2 H2) : Step W H W2 H2 :=
  ⟨x.toStepS.trans y.toStepS, by
    obtain ⟨n, e⟩ := x.pre
    obtain ⟨k, e'⟩ := y.pre
    exact ⟨min k n, by rw [e', e, List.take_take]⟩⟩

theorem Objs.len {K : PySem.W.Frag} {B H : Hp} : ∀ {as : List Addr} {os : List MO}, Objs K B H as os → as.length = os.length
  | _, _, .nil => rfl
  | _, _, .cons _ t => congrArg (· + 1) t.len
theorem Objs.get {K : PySem.W.Frag} {B H : Hp} : ∀ {as : List Addr} {os : List MO} {i : Nat} {o : MO}, Objs K B H as os → os[i]? = some o → ∃ a, as[i]? = some a ∧ MoRep K B H a o
  | _, _, _, _, .nil, h => by simp at h
  | _, _, 0, o, .cons h t, e => by
    cases (Option.some.inj e : _ = o)
    exact ⟨_, rfl, h⟩
  | _, _, i + 1, o, .cons h t, e => Objs.get (i := i) t (by simpa using e)
theorem Objs.getA {K : PySem.W.Frag} {B H : Hp} : ∀ {as : List Addr} {os : List MO} {i : Nat} {a : Addr}, Objs K B H as os → as[i]? = some a → ∃ o, os[i]? = some o ∧ MoRep K B H a o
  | _, _, _, _, .nil, h => by simp at h
  | _, _, 0, o, .cons h t, e => by
    cases (Option.some.inj e : _ = o)
    exact ⟨_, rfl, h⟩
  | _, _, i + 1, o, .cons h t, e => Objs.getA (i := i) t (by simpa using e)
theorem MoRep.trk {K : PySem.W.Frag} {B H : Hp} {a : Addr} : ∀ {o : MO}, MoRep K B H a o → H a ≠ none
  | .lst _, ⟨_, _, h, _⟩ => by rw [h]; exact fun q => nomatch q
  | .dic _, ⟨_, _, h, _⟩ => by rw [h]; exact fun q => nomatch q
  | .dead, h => h
theorem Objs.trk {K : PySem.W.Frag} {B H : Hp} {as : List Addr} {os : List MO} (h : Objs K B H as os) {a : Addr} (m : a ∈ as) : H a ≠ none := by
  obtain ⟨i, e⟩ := List.mem_iff_getElem?.mp m
  obtain ⟨_, _, q⟩ := h.getA e
  exact q.trk
/-- .. over another heap, where each address's fact goes over -/
theorem Objs.imp {K : PySem.W.Frag} {B B' H H' : Hp} : ∀ {as : List Addr} {os : List MO}, Objs K B H as os → (∀ a ∈ as, ∀ o, MoRep K B H a o → MoRep K B' H' a o) → Objs K B' H' as os
  | _, _, .nil, _ => .nil
  | _, _, .cons h t, f => .cons (f _ (.head _) _ h) (t.imp fun a m => f a (.tail _ m))
/-- an own thing, by a bigger stock of data and a heap that is the same at it -/
theorem MoRep.mono {K : PySem.W.Frag} {B B' H H' : Hp} {a : Addr} (hs : Sub B B') (hn : B a = none → B' a = none) (he : H a = H' a) : ∀ {o : MO}, MoRep K B H a o → MoRep K B' H' a o
  | .lst _, ⟨n, vs, h, q⟩ => ⟨hn n, vs, he ▸ h, Dqs.mono hs _ _ q⟩
  | .dic _, ⟨n, vs, h, q⟩ => ⟨hn n, vs, he ▸ h, q.mono hs⟩
  | .dead, h => by
    show H' a ≠ none
    rw [← he]
    exact h
theorem CRep.mono {K : PySem.W.Frag} {W W' : Wd} {v : V} (hs : Sub W.B W'.B) (ha : ∀ (k : Nat) (a : Addr), W.al[k]? = some a → W'.al[k]? = some a) : ∀ {c : C}, CRep K W v c → CRep K W' v c
  | .d _, h => Dq.mono hs _ _ h
  | .r _, ⟨a, h, e⟩ => ⟨a, ha _ _ h, e⟩
theorem EnvRep.mono {K : PySem.W.Frag} {W W' : Wd} {σ : L2.St} {env : EnvP} (hs : Sub W.B W'.B) (ha : ∀ (k : Nat) (a : Addr), W.al[k]? = some a → W'.al[k]? = some a) (h : EnvRep K W σ env) : EnvRep K W' σ env :=
  ⟨h.1, fun i c e => let ⟨v, a, b⟩ := h.2 i c e; ⟨v, a, b.mono hs ha⟩⟩
/-- a new object of data -/
def Wd.put (W : Wd) (p : Addr) (o : HO) : Wd := ⟨upd W.B p o, W.al⟩
theorem Sim.put {K : PySem.W.Frag} {W : Wd} {s : PSt} {σ : L2.St} {H : Hp} {p : Addr} {o : HO} (S : Sim K W s σ H) (hp : H p = some o) (hn : W.B p = none) (ha : p ∉ W.al) : Sim K (W.put p o) s σ H where
  sub := fun a u e => by
    by_cases h : a = p
    · subst h
      rw [show (W.put a o).B a = some o from upd_same] at e
      cases e
      exact hp
    · exact S.sub a u ((upd_ne h).symm.trans e)
  nod := S.nod
  objs := S.objs.imp fun a m q r => r.mono (Sub.new hn) (fun z => (upd_ne (fun e => by subst e; exact ha m)).trans z) rfl
  env := S.env.mono (Sub.new hn) fun _ _ h => h
theorem Sim.alloc {K : PySem.W.Frag} {W : Wd} {s : PSt} {σ : L2.St} {H : Hp} {p : Addr} {o : HO} (S : Sim K W s σ H) (hn : H p = none) : Sim K W s σ (upd H p o) where
  sub := S.sub.upd (S.sub.free hn)
  nod := S.nod
  objs := S.objs.imp fun a m q r => r.mono .rfl' (fun z => z) (upd_ne fun e => by subst e; exact r.trk hn).symm
  env := S.env
theorem StepS.alloc {W : Wd} {H : Hp} {p : Addr} {o : HO} (hn : H p = none) : StepS W H W (upd H p o) where
  sub := .rfl'
  keep := fun a u h _ => by rw [upd_ne (ne_of_none h hn)]; exact h
  al := fun _ h => .inl h
  nb := fun _ _ h => .inl h
  trk := fun a h => by
    by_cases e : a = p
    · rw [e]; exact hn
    · rw [upd_ne e] at h; exact h
theorem Step.alloc {W : Wd} {H : Hp} {p : Addr} {o : HO} (hn : H p = none) : Step W H W (upd H p o) := ⟨.alloc hn, W.al.length, List.take_length.symm⟩
/-- what was made since H and is nobody's yet joins the data -/
theorem StepS.put {W W' : Wd} {H H' : Hp} {p : Addr} {o : HO} (S : StepS W H W' H') (hn : H p = none) (hb : W'.B p = none) : StepS W H (W'.put p o) H' where
  sub := S.sub.trans (Sub.new hb)
  keep := S.keep
  al := S.al
  nb := fun a u h => by
    by_cases e : a = p
    · rw [e]; exact .inr (.inr hn)
    · exact S.nb a u ((upd_ne e).symm.trans h)
  trk := S.trk
theorem Step.put {W W' : Wd} {H H' : Hp} {p : Addr} {o : HO} (S : Step W H W' H') (hn : H p = none) (hb : W'.B p = none) : Step W H (W'.put p o) H' := ⟨S.toStepS.put hn hb, S.pre⟩
end Pd

set_option Elab.async false
set_option linter.all false
set_option maxRecDepth 100000
set_option maxHeartbeats 1000000
/-! The pure reading of the syntax: what an expression gives, what a block does, over plain data alone. -/
namespace Pd
open PySem L2

/-! ### names -/
def slot (N : List Str) (x : Str) : Option Nat := N.findIdx? fun y => decide (y = x)
def visB (sc : Scope) (x : Str) : Bool := match sc.names.lookup x with
  | some .local => true
  | some .cell => true
  | some .free => true
  | _ => false
def locB (sc : Scope) (x : Str) : Bool := match sc.names.lookup x with
  | some .local => true
  | some .cell => true
  | _ => false
def glB (sc : Scope) (x : Str) : Bool := match sc.names.lookup x with
  | some .globalImplicit => true
  | _ => false
/-- the module: its defs, constants, which built-in names are left as they are -/
structure Mdl where
  fn : Str → Option (List Bool × FT)
  cst : Str → Option D
  free : Str → Bool

/-! ### a def's own things -/
def hiC (n : Nat) : Option C → Nat
  | some (.r k) => max n (k + 1)
  | _ => n
def hi (env : EnvP) : Nat := env.foldl hiC 0
/-- what no name reaches is dropped, m of them stay -/
def gc (m : Nat) (env : EnvP) (L : List MO) : List MO := L.take (max m (hi env))
def subC (k : Nat) (x : D) : Option C → Option C
  | some (.r j) => if j = k then some (.d x) else some (.r j)
  | c => c
/-- the k-th own list becomes data -/
def fzAt (m k : Nat) (x : D) (s : PSt) : PSt := ⟨s.env.map (subC k x), gc m (s.env.map (subC k x)) (s.L.set k .dead)⟩
def fz (m : Nat) : C → M D
  | .d x => M.pure x
  | .r k => fun s => match s.L[k]? with
    | some (.lst xs) => if m ≤ k then some (.ok (.list xs), fzAt m k (.list xs) s) else none
    | _ => none
/-- a value that is wanted as data -/
def fzR (m : Nat) : RV → M D
  | .c x => fz m x
  | .f xs => M.pure (.list xs)
  | .g _ => M.fail
def toC : RV → M C
  | .c x => M.pure x
  | .f xs => M.pure (.d (.list xs))
  | .g _ => M.fail
def ret (x : D) : M RV := M.pure (.c (.d x))

/-- what is read off, as it stands -/
def rdD (s : PSt) : C → Option D
  | .d x => some x
  | .r k => match s.L[k]? with
    | some (.lst xs) => some (.list xs)
    | some (.dic kvs) => some (.dict kvs)
    | _ => none
def rdM (c : C) : M D := fun s => match rdD s c with
  | some x => some (.ok x, s)
  | none => none
def seqOf : D → Option (List D)
  | .list xs => some xs
  | .tuple xs => some xs
  | _ => none
def optM {α : Type} : Option α → M α
  | some a => M.pure a
  | none => M.fail

/-! ### operators on data -/
def big (i : Int) : Bool := decide (i.natAbs < 2 ^ 64)
inductive OpO where
  | d (x : D)
  | f (xs : List D)
def OpO.rv : OpO → RV
  | .d x => .c (.d x)
  | .f xs => .f xs
def fits (n : Nat) : Bool := decide (n ≤ 1000000)
def mulOk (n : Nat) (k : Int) : Bool := decide (n ≤ 1000 ∧ k.natAbs ≤ 1000)
theorem mulOk_io {n : Nat} {k : Int} (h : mulOk n k = true) : n ≤ 1000 ∧ -(2 ^ 60) ≤ k ∧ k ≤ 1000 := by
  have h : n ≤ 1000 ∧ k.natAbs ≤ 1000 := of_decide_eq_true h
  exact ⟨h.1, by omega, by omega⟩
theorem big_io {i : Int} (h : big i = true) : -(2 ^ 64) < i ∧ i < 2 ^ 64 := by
  have h : i.natAbs < 2 ^ 64 := of_decide_eq_true h
  exact ⟨by omega, by omega⟩
theorem fd_io {j : Int} (h : 0 < j ∧ j.natAbs < 1073741824) : 0 < j ∧ j < 1073741824 := ⟨h.1, by omega⟩
theorem pw_io {i j : Int} (h : 0 ≤ j ∧ j.natAbs ≤ 1000000 ∧ i.natAbs < 2 ^ 64) : 0 ≤ j ∧ j ≤ 1000000 ∧ i.natAbs < 2 ^ 64 := ⟨h.1, by omega, h.2.2⟩
def binO : Operator → D → D → Option OpO
  | .Add, .int i, .int j => some (.d (.int (i + j)))
  | .Add, .str a, .str b => if fits (a.length + b.length) then some (.d (.str (a ++ b))) else none
  | .Add, .tuple a, .tuple b => if fits (a.length + b.length) then some (.d (.tuple (a ++ b))) else none
  | .Add, .list a, .list b => if fits (a.length + b.length) then some (.f (a ++ b)) else none
  | .Sub, .int i, .int j => some (.d (.int (i - j)))
  | .Add, .bool a, .int j => some (.d (.int ((if a = true then (1 : Int) else 0) + j)))
  | .Add, .int i, .bool b => some (.d (.int (i + if b = true then (1 : Int) else 0)))
  | .Sub, .bool a, .int j => some (.d (.int ((if a = true then (1 : Int) else 0) - j)))
  | .Sub, .int i, .bool b => some (.d (.int (i - if b = true then (1 : Int) else 0)))
  | .Mult, .list a, .int k => if mulOk a.length k then some (.f (List.replicate k.toNat a).flatten) else none
  | .Mult, .tuple a, .int k => if mulOk a.length k then some (.d (.tuple (List.replicate k.toNat a).flatten)) else none
  | .Mult, .int i, .int j => if big i || big j then some (.d (.int (i * j))) else none
  | .FloorDiv, .int i, .int j => if decide (0 < j ∧ j.natAbs < 1073741824) then some (.d (.int (i / j))) else none
  | .Mod, .int i, .int j => if decide (0 < j) then some (.d (.int (i % j))) else none
  | .Pow, .int i, .int j => if decide (0 ≤ j ∧ j.natAbs ≤ 1000000 ∧ i.natAbs < 2 ^ 64) then some (.d (.int (i ^ j.toNat))) else none
  | _, _, _ => none
def keyEqD (a b : D) : Bool := decide (keyD a = keyD b)
def findD (kvs : List (D × D)) (k : D) : Option D := (kvs.find? fun kv => keyEqD kv.1 k).map (·.2)
def putD (kvs : List (D × D)) (k v : D) : List (D × D) := if kvs.any fun kv => keyEqD kv.1 k then kvs.map fun kv => if keyEqD kv.1 k then (kv.1, v) else kv else kvs ++ [(k, v)]
def mergeD (kvs more : List (D × D)) : List (D × D) := more.foldl (fun acc kv => putD acc kv.1 kv.2) kvs
def noD : D → Bool
  | .dict _ => false
  | _ => true
def strs2 : D → D → Bool
  | .str _, .str _ => true
  | _, _ => false
def eqO (x y : D) : Option Bool := if strs2 x y || (noD x && noD y && SeqAt.shaped x && SeqAt.shaped y) then some (PyData.eqv x y) else none
def inO (x y : D) : Option Bool := match y with
  | .list ds => if noD x && SeqAt.shaped x && SeqAt.shaped (.list ds) then some (ds.any fun z => PyData.eqv z x) else none
  | .tuple ds => if noD x && SeqAt.shaped x && SeqAt.shaped (.tuple ds) then some (ds.any fun z => PyData.eqv z x) else none
  | .dict kvs => if (keyD x).isSome then some (findD kvs x).isSome else none
  | _ => none
def isNone : D → Bool
  | .none => true
  | _ => false
def cmpO : CmpOp → D → D → Option Bool
  | .Eq, x, y => eqO x y
  | .NotEq, x, y => (eqO x y).map (!·)
  | .In, x, y => inO x y
  | .NotIn, x, y => (inO x y).map (!·)
  | .Is, x, .none => some (isNone x)
  | .IsNot, x, .none => some (!isNone x)
  | .Lt, .int i, .int j => some (decide (i < j))
  | .Lt, .str i, .str j => some (decide (i.cps.toList < j.cps.toList))
  | .LtE, .int i, .int j => some (decide (i ≤ j))
  | .Gt, .int i, .int j => some (decide (j < i))
  | .GtE, .int i, .int j => some (decide (j ≤ i))
  | _, _, _ => none
def ixO (x i : D) : Option D := match x, i with
  | .list xs, .int i => atI xs i
  | .tuple xs, .int i => atI xs i
  | .str z, .int i => if fits z.length then (atI z.cps.toList i).map fun c => .str ⟨#[c]⟩ else none
  | .dict kvs, k => if (keyD k).isSome then findD kvs k else none
  | _, _ => none
def cutD (xs : List D) (lo hi : Option Int) : List D := (xs.drop (HT.sIx xs.length 0 lo)).take (HT.sIx xs.length xs.length hi - HT.sIx xs.length 0 lo)
def slO (x : D) (lo hi : Option Int) : Option OpO := match x with
  | .list xs => some (.f (cutD xs lo hi))
  | .tuple xs => some (.d (.tuple (cutD xs lo hi)))
  | .str z => if fits z.length then some (.d (.str (cutS z lo hi))) else none
  | _ => none

def revO : D → Option OpO
  | .list xs => some (.f xs.reverse)
  | .tuple xs => some (.d (.tuple xs.reverse))
  | _ => none

/-! ### expressions -/
def M.map {α β : Type} (f : α → β) (m : M α) : M β := M.bind m fun a => M.pure (f a)
/-- as a cell; as data; as what is read off -/
def asC (m : M RV) : M C := M.bind m toC
def asD (k : Nat) (m : M RV) : M D := M.bind m (fzR k)
def seqM {α : Type} : List (M α) → M (List α)
  | [] => M.pure []
  | a :: r => M.bind a fun x => M.bind (seqM r) fun xs => M.pure (x :: xs)
def notStar : Expr → Bool
  | .Starred .. => false
  | _ => true
/-- an expression whose truth is its value's -/
def plainT : Expr → Bool
  | .UnaryOp .Not _ _ => false
  | .BoolOp .. => false
  | .IfExp .. => false
  | .Compare .. => false
  | _ => true
def plainIx : Expr → Bool
  | .Slice .. => false
  | .Name .. => true
  | .Constant .. => true
  | .BinOp .. => true
  | .UnaryOp .. => true
  | .Call .. => true
  | .Subscript .. => true
  | .IfExp .. => true
  | _ => false
def boolM : RV → M Bool
  | .c (.d (.bool b)) => M.pure b
  | _ => M.fail
def intM : RV → M Int
  | .c (.d (.int b)) => M.pure b
  | _ => M.fail
/-- the names of a comprehension's own -/
def ownOf (N : List Str) (scope : Scope) : List (Str × Nat) := scope.names.filterMap fun y => match y.2 with
  | .local => (slot N y.1).map fun i => (y.1, i)
  | .cell => (slot N y.1).map fun i => (y.1, i)
  | _ => none
def wipeE (env : EnvP) (vs : List Nat) : EnvP := vs.foldl (fun e i => e.set i none) env
end Pd

set_option Elab.async false
set_option linter.all false
set_option maxRecDepth 100000
set_option maxHeartbeats 1000000
namespace Pd
open PySem L2

def dbgB (x : Str) : Bool := (x == ("__debug__" : Str)) || (x == ("__classdict__" : Str))
/-! ### pieces -/
def nameM (G : Mdl) (N : List Str) (sc : Scope) (x : Str) : M RV := fun s =>
  if dbgB x then none else
  match slot N x with
  | some i => if visB sc x then (match s.env[i]? with
    | some (some c) => some (.ok (.c c), s)
    | _ => none) else none
  | none => if glB sc x then (match G.cst x with
    | some d => some (.ok (.c (.d d)), s)
    | none => none) else none
def opM (o : Option OpO) : M RV := M.bind (optM o) fun z => M.pure z.rv
def binM (op : Operator) (a b : M RV) : M RV := M.bind (asC a) fun c1 => M.bind (asC b) fun c2 => M.bind (rdM c1) fun x => M.bind (rdM c2) fun y => opM (binO op x y)
def blM (o : Option Bool) : M RV := M.bind (optM o) fun b => ret (.bool b)
def cmpM (op : CmpOp) (a b : M RV) : M RV := M.bind (asC a) fun c1 => M.bind (asC b) fun c2 => M.bind (rdM c1) fun x => M.bind (rdM c2) fun y => blM (cmpO op x y)
def chainM (op op' : CmpOp) (a b c : M RV) : M RV := M.bind (asC a) fun c1 => M.bind (asC b) fun c2 => M.bind (rdM c1) fun x => M.bind (rdM c2) fun y =>
  M.bind (optM (cmpO op x y)) fun r => if r then M.bind (asC c) fun c3 => M.bind (rdM c2) fun y => M.bind (rdM c3) fun z => blM (cmpO op' y z) else ret (.bool false)
def ixM (a i : M RV) : M RV := M.bind (asC a) fun c1 => M.bind (asC i) fun c2 => M.bind (rdM c1) fun x => M.bind (rdM c2) fun y => opM ((ixO x y).map .d)
def revM (a : M RV) : M RV := M.bind (asC a) fun c => M.bind (rdM c) fun x => opM (revO x)
/-- -1 -/
def isNeg1 : Option Expr → Bool
  | some (.UnaryOp .USub (.Constant (.int 1) _ _) _) => true
  | _ => false
def partM (o : Option (M RV)) : M (Option Int) := match o with
  | none => M.pure none
  | some m => M.bind (M.bind m intM) fun i => M.pure (some i)
def slM (a : M RV) (lo hi : Option (M RV)) : M RV := M.bind (asC a) fun c1 => M.bind (partM lo) fun l => M.bind (partM hi) fun h => M.bind (rdM c1) fun x => opM (slO x l h)
/-- and, or as values: all but the last are truths -/
def andM : List (M RV) → M RV
  | [] => M.fail
  | [a] => a
  | a :: r => M.bind (M.bind a boolM) fun b => if b then andM r else ret (.bool false)
def orM : List (M RV) → M RV
  | [] => M.fail
  | [a] => a
  | a :: r => M.bind (M.bind a boolM) fun b => if b then ret (.bool true) else orM r
/-- and, or as tests -/
def notSet : Expr → Bool
  | .Set .. => false
  | _ => true
def allT : List (M Bool) → M Bool
  | [] => M.pure true
  | a :: r => M.bind a fun b => if b then allT r else M.pure false
def anyT : List (M Bool) → M Bool
  | [] => M.pure false
  | a :: r => M.bind a fun b => if b then M.pure true else anyT r

/-! ### calls -/
def setAll : List (Nat × MO) → List MO → List MO
  | [], L => L
  | (k, o) :: r, L => setAll r (L.set k o)
inductive AV where
  | d (x : D)
  | k (n : Nat)
def AV.ks : List AV → List Nat
  | [] => []
  | .d _ :: r => AV.ks r
  | .k n :: r => n :: AV.ks r
def AV.args (L : List MO) : List AV → Option (List Arg)
  | [] => some []
  | .d x :: r => (AV.args L r).map (.d x :: ·)
  | .k n :: r => match L[n]? with
    | some .dead => none
    | some o => (AV.args L r).map (.m o :: ·)
    | none => none
def nodupB : List Nat → Bool
  | [] => true
  | k :: r => !r.elem k && nodupB r
def FR.rv : FR → RV
  | .d x => .c (.d x)
  | .f xs => .f xs
  | .g kvs => .g kvs
def callM (ft : FT) (as : List AV) : M RV := fun s => if nodupB (AV.ks as) then
    match AV.args s.L as with
    | none => none
    | some l => match ft l with
      | some (.ok r, os) => if os.length = (AV.ks as).length then some (.ok r.rv, ⟨s.env, setAll ((AV.ks as).zip os) s.L⟩) else none
      | some (.ex x, os) => if os.length = (AV.ks as).length then some (.ex x, ⟨s.env, setAll ((AV.ks as).zip os) s.L⟩) else none
      | none => none
  else none
/-- an argument, by whether it is handed on to be changed -/
def avM (m : Nat) (md : Bool) (a : M RV) : M AV := if md then M.bind a fun r => match r with
    | .c (.r k) => M.pure (.k k)
    | _ => M.fail
  else M.bind (asD m a) fun x => M.pure (.d x)
def argsM (m : Nat) : List Bool → List (M RV) → M (List AV)
  | [], [] => M.pure []
  | b :: bs, a :: as => M.bind (avM m b a) fun x => M.bind (argsM m bs as) fun xs => M.pure (x :: xs)
  | _, _ => M.fail
/-- built-in functions of data -/
def lenO : List D → Option OpO
  | [.list l] => some (.d (.int l.length))
  | [.tuple l] => some (.d (.int l.length))
  | [.str z] => if fits z.length then some (.d (.int z.length)) else none
  | [.dict kvs] => some (.d (.int kvs.length))
  | _ => none
def tupO : List D → Option OpO
  | [.list l] => some (.d (.tuple l))
  | [.tuple l] => some (.d (.tuple l))
  | _ => none
def lstO : List D → Option OpO
  | [.list l] => some (.f l)
  | [.tuple l] => some (.f l)
  | [.dict kvs] => some (.f (kvs.map (·.1)))
  | _ => none
def boolsOf : List D → Option (List Bool)
  | [] => some []
  | .bool b :: r => (boolsOf r).map (b :: ·)
  | _ => none
def intsOf : List D → Option (List Int)
  | [] => some []
  | .int b :: r => (intsOf r).map (b :: ·)
  | _ => none
def leastI : List Int → Option Int
  | [] => none
  | [i] => some i
  | i :: r => (leastI r).map fun j => if j < i then j else i
def mostI : List Int → Option Int
  | [] => none
  | [i] => some i
  | i :: r => (mostI r).map fun j => if j > i then j else i
def minO : List D → Option OpO
  | [.int i, .int j] => some (.d (.int (if j < i then j else i)))
  | [.list ds] => (intsOf ds).bind fun ns => (leastI ns).map fun i => .d (.int i)
  | _ => none
def maxO : List D → Option OpO
  | [.int i, .int j] => some (.d (.int (if j > i then j else i)))
  | [.list ds] => (intsOf ds).bind fun ns => (mostI ns).map fun i => .d (.int i)
  | _ => none
def allO : List D → Option OpO
  | [.list ds] => (boolsOf ds).map fun bs => .d (.bool (bs.all id))
  | _ => none
def anyO : List D → Option OpO
  | [.list ds] => (boolsOf ds).map fun bs => .d (.bool (bs.any id))
  | _ => none
def sumO : List D → Option OpO
  | [.list ds] => (intsOf ds).map fun ns => .d (.int ns.sum)
  | _ => none
def intO : List D → Option OpO
  | [.int i] => some (.d (.int i))
  | [.bool b] => some (.d (.int (if b then 1 else 0)))
  | _ => none
def allAlike (ds : List D) : Bool := ds.all fun d => ds.all fun d' => PySem.W.alike d d'
def tupNe : D → Bool
  | .tuple (_ :: _) => true
  | _ => false
def notTup : D → Bool
  | .tuple _ => false
  | .none => false
  | _ => true
def isTupB : D → Bool
  | .tuple _ => true
  | _ => false
def sortOk (ds : List D) : Bool := allAlike ds && (ds.all tupNe || ds.all notTup || ds.all isTupB) && ds.all (fun d => decide (d.depth ≤ 60)) && fits ds.length
abbrev leD : D → D → Bool := PySem.W.dataLe false id
def insD (a : D) : List D → List D
  | [] => [a]
  | b :: r => if leD a b then a :: b :: r else b :: insD a r
def sortD : List D → List D
  | [] => []
  | a :: r => insD a (sortD r)
def srtO : List D → Option OpO
  | [.list ds] => if sortOk ds then some (.f (sortD ds)) else none
  | [.dict kvs] => if sortOk (kvs.map (·.1)) then some (.f (sortD (kvs.map (·.1)))) else none
  | _ => none
def repO : List D → Option OpO
  | [x] => if noD x && x.showable && SeqAt.shaped x && fits x.shown.length then some (.d (.str x.shown)) else none
  | _ => none
inductive Blt where
  | len | tup | lst | min | max | rep | all | any | sum | int | srt
def bltO : Blt → List D → Option OpO
  | .len, xs => lenO xs
  | .tup, xs => tupO xs
  | .lst, xs => lstO xs
  | .min, xs => minO xs
  | .max, xs => maxO xs
  | .rep, xs => repO xs
  | .all, xs => allO xs
  | .any, xs => anyO xs
  | .sum, xs => sumO xs
  | .int, xs => intO xs
  | .srt, xs => srtO xs
def bltOf (x : Str) : Option Blt := if x = ("len" : Str) then some .len else if x = ("tuple" : Str) then some .tup else if x = ("list" : Str) then some .lst
  else if x = ("min" : Str) then some .min else if x = ("max" : Str) then some .max else if x = ("repr" : Str) then some .rep
  else if x = ("all" : Str) then some .all else if x = ("any" : Str) then some .any else if x = ("sum" : Str) then some .sum else if x = ("int" : Str) then some .int else if x = ("sorted" : Str) then some .srt else none
def rdAll : List C → M (List D)
  | [] => M.pure []
  | c :: r => M.bind (rdM c) fun x => M.bind (rdAll r) fun xs => M.pure (x :: xs)
def bltM (f : Blt) (as : List (M RV)) : M RV := M.bind (seqM (as.map asC)) fun cs => M.bind (rdAll cs) fun xs => opM (bltO f xs)

/-! ### sets, kinds -/
mutual
def eqK : D → D → Bool
  | .none, .none => true
  | .int a, .int b => decide (a = b)
  | .str a, .str b => decide (a = b)
  | .tuple a, .tuple b => eqKs a b
  | _, _ => false
def eqKs : List D → List D → Bool
  | [], [] => true
  | a :: as, b :: bs => eqK a b && eqKs as bs
  | _, _ => false
end
/-- each one once, in the order in which they came first -/
def uniqD : List D → List D → List D
  | acc, [] => acc
  | acc, d :: r => uniqD (if acc.any (eqK d) then acc else acc ++ [d]) r
def atomB : D → Bool
  | .int _ => true
  | .str _ => true
  | _ => false
mutual
/-- numbers, texts, None, and tuples of these -/
def nkB : D → Bool
  | .none => true
  | .int _ => true
  | .str _ => true
  | .tuple xs => nkBs xs
  | _ => false
def nkBs : List D → Bool
  | [] => true
  | x :: xs => nkB x && nkBs xs
end
def nestB (d : D) : Bool := isTupB d && nkB d && decide (d.depth ≤ 7)
def setDs (x : D) : Option (List D) := (seqOf x).bind fun ds => if (ds.all atomB && decide (ds.length ≤ 4000)) || (ds.all nestB && decide (ds.length < 64)) then some (uniqD [] ds) else none
def srtSetO (x : D) : Option OpO := (setDs x).bind fun ds => if sortOk ds then some (.f (sortD ds)) else none
def lenSetO (x : D) : Option OpO := (setDs x).map fun ds => .d (.int ds.length)
def srtSetM (a : M RV) : M RV := M.bind (asC a) fun c => M.bind (rdM c) fun x => opM (srtSetO x)
def lenSetM (a : M RV) : M RV := M.bind (asC a) fun c => M.bind (rdM c) fun x => opM (lenSetO x)
def tyN : D → String
  | .none => "NoneType"
  | .bool _ => "bool"
  | .int _ => "int"
  | .str _ => "str"
  | .list _ => "list"
  | .tuple _ => "tuple"
  | .dict _ => "dict"
inductive Ty where
  | int | bool | str | tuple | list
def Ty.nm : Ty → String
  | .int => "int"
  | .bool => "bool"
  | .str => "str"
  | .tuple => "tuple"
  | .list => "list"
def isT : Ty → D → Bool
  | .int, .int _ => true
  | .int, .bool _ => true
  | .bool, .bool _ => true
  | .str, .str _ => true
  | .tuple, .tuple _ => true
  | .list, .list _ => true
  | _, _ => false
def tyOf (x : Str) : Option Ty := if x = ("int" : Str) then some .int else if x = ("bool" : Str) then some .bool else if x = ("str" : Str) then some .str else if x = ("tuple" : Str) then some .tuple else if x = ("list" : Str) then some .list else none
def isiM (t : Ty) (a : M RV) : M RV := M.bind (asC a) fun c => M.bind (rdM c) fun x => ret (.bool (isT t x))
/-- isinstance(a, T) -/
def isiOf (x : Str) (as : List Expr) : Option (Expr × Str × Ty) := match as with
  | [a, .Name y _] => if x = ("isinstance" : Str) then (tyOf y).map fun t => (a, y, t) else none
  | _ => none
/-- f(set(a)) -/
def setOf1 (as : List Expr) : Option Expr := match as with
  | [.Call (.Name g _) [a] [] _] => if g = ("set" : Str) then some a else none
  | _ => none

/-! ### loops of a comprehension -/
def compL (body : D → M (Option D)) : List D → M (List D)
  | [] => M.pure []
  | x :: r => M.bind (body x) fun o => M.bind (compL body r) fun ys => M.pure (match o with
    | some y => y :: ys
    | none => ys)
def setEnv (f : EnvP → EnvP) : M Unit := fun s => some (.ok (), ⟨f s.env, s.L⟩)
def eachT : List (D → M Unit) → List D → M Unit
  | t :: ts, x :: xs => M.bind (t x) fun _ => eachT ts xs
  | _, _ => M.pure ()
/-- a target's store, of data -/
def tgtM (m : Nat) (N : List Str) (sc : Scope) : Nat → Expr → D → M Unit
  | 0, _, _ => M.fail
  | n + 1, tg, x => match tg with
    | .Name y _ => match slot N y with
      | some i => if locB sc y then setEnv fun e => e.set i (some (.d x)) else M.fail
      | none => M.fail
    | .Tuple ts _ _ => match x with
      | .tuple xs => if ts.all notStar && xs.length == ts.length then eachT (ts.map (tgtM m N sc n)) xs else M.fail
      | .list xs => if ts.all notStar && xs.length == ts.length then eachT (ts.map (tgtM m N sc n)) xs else M.fail
      | _ => M.fail
    | _ => M.fail
def tgSlots (N : List Str) : Nat → Expr → List Nat
  | 0, _ => []
  | n + 1, tg => match tg with
    | .Name y _ => (slot N y).toList
    | .Tuple ts _ _ => ts.flatMap (tgSlots N n)
    | _ => []
def plainC : Option C → Bool
  | some (.r _) => false
  | _ => true
def ownFree (vs : List Nat) (env : EnvP) : Bool := vs.all fun i => plainC (env.getD i none)
def restore (vs : List Nat) (e0 e : EnvP) : EnvP := vs.foldl (fun q i => q.set i (e0.getD i none)) e
def withOwn {α : Type} (vs : List Nat) (b : M α) : M α := fun s => if ownFree vs s.env then
    match b s with
    | some (.ok r, s') => some (.ok r, ⟨restore vs s.env s'.env, s'.L⟩)
    | _ => none
  else none
def compM (m : Nat) (vs : List Nat) (tg : D → M Unit) (test : M Bool) (elt : M RV) (items : List D) : M RV :=
  M.bind (withOwn vs (compL (fun x => M.bind (setEnv fun e => wipeE e vs) fun _ => M.bind (tg x) fun _ => M.bind test fun b => if b then M.bind (asD m elt) fun y => M.pure (some y) else M.pure none) items)) fun ys => if fits ys.length then M.pure (.f ys) else M.fail

/-! ### the evaluator -/
def isRange : Expr → Option (List Expr)
  | .Call (.Name f _) [a] [] _ => if f = ("range" : Str) then some [a] else none
  | .Call (.Name f _) [a, b] [] _ => if f = ("range" : Str) then some [a, b] else none
  | _ => none
def callIs (f : Str) : Expr → Option (List Expr)
  | .Call (.Name g _) as [] _ => if g = f then some as else none
  | _ => none
def isTupE : Expr → Bool
  | .Tuple .. => true
  | _ => false
/-- list(range(..)) -/
def lrgOf (x : Str) (as : List Expr) : Option (List Expr) := match as with
  | [e] => if x = ("list" : Str) then isRange e else none
  | _ => none
/-- pairs, anew at each turn -/
def pairsD : List D → List D → List D
  | x :: xs, y :: ys => .tuple [x, y] :: pairsD xs ys
  | _, _ => []
def smallI (i : Int) : Bool := decide (i.natAbs < 2 ^ 60)
theorem small_io {i : Int} (h : smallI i = true) : -(2 ^ 60) ≤ i ∧ i < 2 ^ 60 := by
  have h : i.natAbs < 2 ^ 60 := of_decide_eq_true h
  exact ⟨by omega, by omega⟩
def rangeL (a b : Int) : List D := (List.range (b - a).toNat).map fun k => .int (a + (k : Nat))
def zipO : List D → Option (List D)
  | [.list xs, .list ys] => some (pairsD xs ys)
  | [.tuple xs, .tuple ys] => some (pairsD xs ys)
  | _ => none
def enumO : List D → Option (List D)
  | [.list xs] => some (pairsD (rangeL 0 xs.length) xs)
  | [.tuple xs] => some (pairsD (rangeL 0 xs.length) xs)
  | _ => none
def rangeM (as : List (M RV)) : M (List D) := match as with
  | [a] => M.bind (M.bind a intM) fun j => if smallI j then M.pure (rangeL 0 j) else M.fail
  | [a, b] => M.bind (M.bind a intM) fun i => M.bind (M.bind b intM) fun j => if smallI i && smallI j then M.pure (rangeL i j) else M.fail
  | _ => M.fail
def iterM (m : Nat) (a : M RV) : M (List D) := M.bind (asD m a) fun x => optM (seqOf x)
/-! dicts -/
def pairsOf : List D → Option (List (D × D))
  | [] => some []
  | .tuple [k, v] :: r => if (keyD k).isSome then (pairsOf r).map ((k, v) :: ·) else none
  | _ => none
def dctO : D → Option (List (D × D))
  | .list ds => (pairsOf ds).map (mergeD [])
  | .tuple ds => (pairsOf ds).map (mergeD [])
  | _ => none
def dctM (a : M RV) : M RV := M.bind (asC a) fun c => M.bind (rdM c) fun x => M.bind (optM (dctO x)) fun kvs => M.pure (.g kvs)
def soleOf : List Expr → Option Expr
  | [a] => some a
  | _ => none
def dct1 : Option (M RV) → M RV
  | some a => dctM a
  | none => M.fail
theorem soleOf_some : ∀ {as : List Expr} {a : Expr}, soleOf as = some a → as = [a]
  | [_], _, h => by cases h; rfl
def dptrM (r : RV) : M Nat := fun s => match r with
  | .c (.r k) => (match s.L[k]? with
    | some (.dic _) => some (.ok k, s)
    | _ => none)
  | _ => none
def getO (L : List MO) (k : Nat) : List D → Option D
  | [x] => match L[k]? with
    | some (.dic kvs) => if (keyD x).isSome then some ((findD kvs x).getD .none) else none
    | _ => none
  | [x, z] => match L[k]? with
    | some (.dic kvs) => if (keyD x).isSome then some ((findD kvs x).getD z) else none
    | _ => none
  | _ => none
def getM (m : Nat) (o : M RV) (as : List (M RV)) : M RV := M.bind (M.bind o dptrM) fun k => M.bind (seqM (as.map (asD m))) fun ds => fun s => match getO s.L k ds with
  | some x => some (.ok (.c (.d x)), s)
  | none => none
/-- a method of an own list -/
def appO (L : List MO) (k : Nat) (x : D) : Option (List MO) := match L[k]? with
  | some (.lst xs) => if fits xs.length then some (L.set k (.lst (xs ++ [x]))) else none
  | _ => none
def ptrM (r : RV) : M Nat := fun s => match r with
  | .c (.r k) => (match s.L[k]? with
    | some (.lst _) => some (.ok k, s)
    | _ => none)
  | _ => none
def setL (f : List MO → Option (List MO)) : M Unit := fun s => match f s.L with
  | some L => some (.ok (), ⟨s.env, L⟩)
  | none => none
def appendM (m : Nat) (o a : M RV) : M RV := M.bind (M.bind o ptrM) fun k => M.bind (asD m a) fun x => M.bind (setL fun L => appO L k x) fun _ => ret .none
def extO (L : List MO) (k : Nat) (zs : List D) : Option (List MO) := match L[k]? with
  | some (.lst xs) => if fits (xs.length + zs.length) then some (L.set k (.lst (xs ++ zs))) else none
  | _ => none
def extendM (o a : M RV) : M RV := M.bind (M.bind o ptrM) fun k => M.bind (asC a) fun c => M.bind (rdM c) fun x => M.bind (optM (seqOf x)) fun zs => M.bind (setL fun L => extO L k zs) fun _ => ret .none
def popM (o a : M RV) : M RV := M.bind (M.bind o ptrM) fun k => M.bind (M.bind a intM) fun i => fun s => match s.L[k]? with
  | some (.lst xs) => match ixN xs.length i with
    | some j => match xs[j]? with
      | some x => if smallI i then some (.ok (.c (.d x)), ⟨s.env, s.L.set k (.lst (xs.eraseIdx j))⟩) else none
      | none => none
    | none => none
  | _ => none

def plainBase : Expr → Bool
  | .Call .. => false
  | _ => true
def ifRV (b : Bool) (x y : M RV) : M RV := if b then x else y
mutual
def exN (G : Mdl) (N : List Str) (m : Nat) : Nat → Scope → Expr → M RV
  | 0, _, _ => M.fail
  | n + 1, sc, e => match e with
    | .Name x _ => nameM G N sc x
    | .Constant c _ _ => (match c with
      | .int i => ret (.int i)
      | .bool b => ret (.bool b)
      | .none => ret .none
      | .str z => ret (.str z)
      | _ => M.fail)
    | .BinOp a op b _ => binM op (exN G N m n sc a) (exN G N m n sc b)
    | .UnaryOp op a _ => (match op with
      | .Not => M.bind (M.bind (exN G N m n sc a) boolM) fun b => ret (.bool (!b))
      | .USub => M.bind (M.bind (exN G N m n sc a) intM) fun i => ret (.int (-i))
      | _ => M.fail)
    | .BoolOp op vs _ => (match op with
      | .And => andM (vs.map fun v => exN G N m n sc v)
      | .Or => orM (vs.map fun v => exN G N m n sc v))
    | .IfExp t a b _ => M.bind (exT G N m n sc t) fun c => ifRV c (exN G N m n sc a) (exN G N m n sc b)
    | .Compare a [op] [b] _ => if behindInMarks op b then M.fail else cmpM op (exN G N m n sc a) (exN G N m n sc b)
    | .Compare a [op, op'] [b, c] _ => if behindInMarks op b || behindInMarks op' c then M.fail else chainM op op' (exN G N m n sc a) (exN G N m n sc b) (exN G N m n sc c)
    | .Subscript a i _ => (match i with
      | .Slice lo hi st _ => if st.isNone then slM (exN G N m n sc a) (lo.map fun z => exN G N m n sc z) (hi.map fun z => exN G N m n sc z) else if lo.isNone && hi.isNone && isNeg1 st then revM (exN G N m n sc a) else M.fail
      | _ => if plainIx i then ixM (exN G N m n sc a) (exN G N m n sc i) else M.fail)
    | .Tuple es _ _ => if es.all notStar then M.bind (seqM (es.map fun z => asD m (exN G N m n sc z))) fun ds => if fits ds.length then ret (.tuple ds) else M.fail else M.fail
    | .List es _ => if es.all notStar then M.bind (seqM (es.map fun z => asD m (exN G N m n sc z))) fun ds => if fits ds.length then M.pure (.f ds) else M.fail else M.fail
    | .Dict ks vs _ => if ks.isEmpty && vs.isEmpty then M.pure (.g []) else M.fail
    | .ListComp elt gens scope _ => (match gens with
      | [⟨tg, it, ifs, 0⟩] => if blkC N sc scope (ownOf N scope) && decide (ifs.length ≤ 1) && (tgSlots N 3 tg).all (fun i => ((ownOf N scope).map (·.2)).elem i) && notSet it then
          M.bind (itN G N m n sc tg it) fun items => compM m ((ownOf N scope).map (·.2)) (fun x => tgtM m N scope 3 tg x) (allT (ifs.map fun z => exT G N m n (relS scope sc) z)) (exN G N m n (relS scope sc) elt) items
        else M.fail
      | _ => M.fail)
    | .Call f as kws cp => (match kws, f with
      | [], .Name x _ => if as.all notStar && !dbgB x && glB sc x && as.length != 0 then (match G.fn x with
          | some (md, ft) => M.bind (argsM m md (as.map fun z => exN G N m n sc z)) fun vs => callM ft vs
          | none => if G.free x then (match lrgOf x as with
            | some as' => if glB sc "range" && G.free "range" && as'.all notStar then M.bind (rangeM (as'.map fun z => exN G N m n sc z)) fun xs => if fits xs.length then M.pure (.f xs) else M.fail else M.fail
            | none => if x = ("dict" : Str) then dct1 ((soleOf as).map fun a => exN G N m n sc a) else match isiOf x as with
              | some (a, y, t) => if glB sc y && G.free y && notStar a then isiM t (exN G N m n sc a) else M.fail
              | none => match setOf1 as with
                | some a => if glB sc "set" && G.free "set" && notStar a then (if x = ("sorted" : Str) then srtSetM (exN G N m n sc a) else if x = ("len" : Str) then lenSetM (exN G N m n sc a) else M.fail) else M.fail
                | none => match bltOf x with
                  | some b => bltM b (as.map fun z => exN G N m n sc z)
                  | none => M.fail) else M.fail)
        else M.fail
      | [], .Attribute o meth ap => (match as with
        | as => if meth = ("get" : Str) then (if as.all notStar && plainBase o && (ap.endLine == cp.line) && decide (as.length ≤ 3) && as.length != 0 then getM m (exN G N m n sc o) (as.map fun z => exN G N m n sc z) else M.fail) else match soleOf as with
        | some a => if notStar a && plainBase o && (ap.endLine == cp.line) then (if meth = ("append" : Str) then appendM m (exN G N m n sc o) (exN G N m n sc a)
            else if meth = ("extend" : Str) then extendM (exN G N m n sc o) (exN G N m n sc a)
            else if meth = ("pop" : Str) then popM (exN G N m n sc o) (exN G N m n sc a) else M.fail) else M.fail
        | none => M.fail)
      | _, _ => M.fail)
    | _ => M.fail
def exT (G : Mdl) (N : List Str) (m : Nat) : Nat → Scope → Expr → M Bool
  | 0, _, _ => M.fail
  | n + 1, sc, e => match e with
    | .UnaryOp .Not a _ => M.bind (exT G N m n sc a) fun b => M.pure (!b)
    | .BoolOp .And (v :: r) _ => allT ((v :: r).map fun v => exT G N m n sc v)
    | .BoolOp .Or (v :: r) _ => anyT ((v :: r).map fun v => exT G N m n sc v)
    | .BoolOp .. => M.fail
    | .IfExp .. => M.fail
    | .Compare a [op] [b] _ => if behindInMarks op b then M.fail else M.bind (cmpM op (exN G N m n sc a) (exN G N m n sc b)) boolM
    | .Compare a [op, op'] [b, c] _ => if behindInMarks op b || behindInMarks op' c then M.fail else M.bind (chainM op op' (exN G N m n sc a) (exN G N m n sc b) (exN G N m n sc c)) boolM
    | .Compare .. => M.fail
    | _ => M.bind (exN G N m n sc e) boolM
def itN (G : Mdl) (N : List Str) (m : Nat) : Nat → Scope → Expr → Expr → M (List D)
  | 0, _, _, _ => M.fail
  | n + 1, sc, tg, e => match isRange e with
    | some as => if glB sc "range" && G.free "range" && as.all notStar then rangeM (as.map fun z => exN G N m n sc z) else M.fail
    | none => match callIs "zip" e with
      | some as => if isTupE tg && glB sc "zip" && G.free "zip" && as.all notStar && as.length == 2 then M.bind (seqM (as.map fun z => asD m (exN G N m n sc z))) fun ds => optM (zipO ds) else M.fail
      | none => match callIs "enumerate" e with
        | some as => if isTupE tg && glB sc "enumerate" && G.free "enumerate" && as.all notStar && as.length == 1 then M.bind (seqM (as.map fun z => asD m (exN G N m n sc z))) fun ds => optM (enumO ds) else M.fail
        | none => iterM m (exN G N m n sc e)
end
end Pd

set_option Elab.async false
set_option linter.all false
set_option maxRecDepth 100000
set_option maxHeartbeats 1000000
/-! What a reading over plain data says over the layer's heap. -/
namespace Pd
open PySem L2

def wpM {α : Type} (m : M α) (s : PSt) (P : α → PSt → Prop) (PX : Xn → PSt → Prop) : Prop := match m s with
  | some (.ok a, s') => P a s'
  | some (.ex x, s') => PX x s'
  | none => False
theorem wp_bind {α β : Type} {m : M α} {f : α → M β} {s : PSt} {P : β → PSt → Prop} {PX : Xn → PSt → Prop} {P1 : α → PSt → Prop} {PX1 : Xn → PSt → Prop} (h : wpM (M.bind m f) s P PX) (k : ∀ a s1, wpM (f a) s1 P PX → P1 a s1) (kx : ∀ x s1, PX x s1 → PX1 x s1) : wpM m s P1 PX1 := by
  unfold wpM M.bind at h
  unfold wpM
  cases e : m s with
  | none => rw [e] at h; exact h
  | some q =>
    obtain ⟨r, s1⟩ := q
    rw [e] at h
    cases r with
    | ok a => exact k a s1 h
    | ex x => exact kx x s1 h
theorem wp_pure {α : Type} {a : α} {s : PSt} {P : α → PSt → Prop} {PX : Xn → PSt → Prop} (h : wpM (M.pure a) s P PX) : P a s := h
theorem wp_fail {α : Type} {s : PSt} {P : α → PSt → Prop} {PX : Xn → PSt → Prop} (h : wpM M.fail s P PX) : False := h
theorem wp_imp {α : Type} {m : M α} {s : PSt} {P P1 : α → PSt → Prop} {PX PX1 : Xn → PSt → Prop} (h : wpM m s P PX) (k : ∀ a s1, P a s1 → P1 a s1) (kx : ∀ x s1, PX x s1 → PX1 x s1) : wpM m s P1 PX1 := by
  unfold wpM at h ⊢
  cases e : m s with
  | none => rw [e] at h; exact h
  | some q =>
    obtain ⟨r, s1⟩ := q
    rw [e] at h
    cases r with
    | ok a => exact k a s1 h
    | ex x => exact kx x s1 h
theorem wp_opt {α : Type} {o : Option α} {s : PSt} {P : α → PSt → Prop} {PX : Xn → PSt → Prop} (h : wpM (optM o) s P PX) : ∃ a, o = some a ∧ P a s := by
  cases o with
  | none => exact (wp_fail h).elim
  | some a => exact ⟨a, rfl, h⟩
theorem wp_bindE {α β : Type} {m : M α} {f : α → M β} {s : PSt} {P : β → PSt → Prop} {PX : Xn → PSt → Prop} {a : α} {s1 : PSt} (h : wpM (M.bind m f) s P PX) (e : m s = some (.ok a, s1)) : wpM (f a) s1 P PX := by
  unfold wpM M.bind at h
  rw [e] at h
  exact h
theorem wp_bindO {α β : Type} {o : Option α} {f : α → M β} {s : PSt} {P : β → PSt → Prop} {PX : Xn → PSt → Prop} (h : wpM (M.bind (optM o) f) s P PX) : ∃ a, o = some a ∧ wpM (f a) s P PX := by
  cases o with
  | none => exact h.elim
  | some a => exact ⟨a, rfl, h⟩
theorem wp_bindR {β : Type} {c : C} {f : D → M β} {s : PSt} {P : β → PSt → Prop} {PX : Xn → PSt → Prop} (h : wpM (M.bind (rdM c) f) s P PX) : ∃ x, rdD s c = some x ∧ wpM (f x) s P PX := by
  unfold wpM M.bind rdM at h
  cases e : rdD s c with
  | none => rw [e] at h; exact h.elim
  | some x => rw [e] at h; exact ⟨x, rfl, h⟩

/-! ### what is wanted of exceptions, of an end -/
abbrev XO := Xn → Wd → Hp → Prop
def PXO (K : PySem.W.Frag) (xo : XO) (W : Wd) (H : Hp) (σ : L2.St) : Xn → PSt → Prop := fun x s' => ∀ W' H', Step W H W' H' → Sim K W' s' σ H' → xo x W' H'
theorem PXO.later {K : PySem.W.Frag} {xo : XO} {W W1 : Wd} {H H1 : Hp} {σ : L2.St} (st : Step W H W1 H1) : ∀ x s', PXO K xo W H σ x s' → PXO K xo W1 H1 σ x s' := fun _ _ h W' H' st' S => h W' H' (st.trans st') S
abbrev Rel (α β : Type) := α → β → Wd → Hp → Hp → Prop
def PO {α β : Type} (K : PySem.W.Frag) (R : Rel α β) (W : Wd) (H : Hp) (σ : L2.St) (Q : β → Hp → Prop) : α → PSt → Prop := fun a s' => ∀ b W' H', Step W H W' H' → Sim K W' s' σ H' → R a b W' H' H → Q b H'
def Tr {α β : Type} (K : PySem.W.Frag) (xo : XO) (R : Rel α β) (m : M α) : L2.St → Hp → (β → Hp → Prop) → Prop := fun σ H Q => ∃ W s, Sim K W s σ H ∧ wpM m s (PO K R W H σ Q) (PXO K xo W H σ)

def RC (K : PySem.W.Frag) : Rel C V := fun c v W _ _ => CRep K W v c
def RD (K : PySem.W.Frag) : Rel D V := fun x v W _ _ => Dq K W.B v x
/-- a value: data, an own thing, or a list | a dict that is new and nobody's -/
def RR (K : PySem.W.Frag) : Rel RV V := fun r v W H' H => match r with
  | .c c => CRep K W v c
  | .f xs => ∃ p vs, v = .ref p ∧ H p = none ∧ W.B p = none ∧ p ∉ W.al ∧ H' p = some (.lst vs) ∧ Dqs K W.B vs xs
  | .g kvs => ∃ p es, v = .ref p ∧ H p = none ∧ W.B p = none ∧ p ∉ W.al ∧ H' p = some (.dK es) ∧ KvRep K W.B es kvs
def RB : Rel Bool Bool := fun a b _ _ _ => a = b
def RDs (K : PySem.W.Frag) : Rel (List D) (List V) := fun xs vs W _ _ => Dqs K W.B vs xs
def RO : Rel (Option Int) (Option Int) := fun a b _ _ _ => a = b
abbrev T (K : PySem.W.Frag) (xo : XO) (m : M RV) : TE := Tr K xo (RR K) m

/-- a list that nobody has joins the data -/
theorem Sim.join {K : PySem.W.Frag} {W : Wd} {s : PSt} {σ : L2.St} {H : Hp} {p : Addr} {vs : List V} {xs : List D} (S : Sim K W s σ H) (hb : W.B p = none) (ha : p ∉ W.al) (hp : H p = some (.lst vs)) (hd : Dqs K W.B vs xs) :
    Sim K (W.put p (.lst vs)) s σ H ∧ Dq K (W.put p (.lst vs)).B (.ref p) (.list xs) :=
  ⟨S.put hp hb ha, .lst (.of upd_same) (Dqs.mono (Sub.new hb) _ _ hd)⟩
/-- the k-th own list joins the data -/
theorem nodup_get {as : List Addr} (h : as.Nodup) {i j : Nat} {a : Addr} (x : as[i]? = some a) (y : as[j]? = some a) : i = j := by
  obtain ⟨h1, e1⟩ := List.getElem?_eq_some_iff.mp x
  obtain ⟨h2, e2⟩ := List.getElem?_eq_some_iff.mp y
  exact (List.getElem_inj h).mp (e1.trans e2.symm)
theorem Objs.set {K : PySem.W.Frag} {B H : Hp} {o : MO} : ∀ {as : List Addr} {os : List MO} {k : Nat}, Objs K B H as os → (∀ a, as[k]? = some a → MoRep K B H a o) → Objs K B H as (os.set k o)
  | _, _, _, .nil, _ => .nil
  | _, _, 0, .cons _ t, f => .cons (f _ rfl) t
  | _, _, k + 1, .cons h t, f => .cons h (t.set fun a e => f a (by simpa using e))
/-- .. where one address's fact is another one afterwards -/
theorem Objs.impSet {K : PySem.W.Frag} {B B' H H' : Hp} {o : MO} : ∀ {as : List Addr} {os : List MO} {k : Nat} {p : Addr}, as.Nodup → as[k]? = some p → Objs K B H as os → (∀ a ∈ as, a ≠ p → ∀ o, MoRep K B H a o → MoRep K B' H' a o) → MoRep K B' H' p o → Objs K B' H' as (os.set k o)
  | _, _, _, _, _, e, .nil, _, _ => by simp at e
  | a :: as, _, 0, p, nd, e, .cons h t, f, q => by
    cases (Option.some.inj e : a = p)
    refine .cons q (t.imp fun b m => f b (.tail _ m) fun e => ?_)
    subst e
    exact (List.nodup_cons.mp nd).1 m
  | a :: as, _, k + 1, p, nd, e, .cons h t, f, q => by
    have e' : as[k]? = some p := by simpa using e
    refine .cons (f a (.head _) (fun z => ?_) _ h) (Objs.impSet (List.nodup_cons.mp nd).2 e' t (fun b m => f b (.tail _ m)) q)
    subst z
    exact (List.nodup_cons.mp nd).1 (List.mem_of_getElem? e')
theorem Objs.take {K : PySem.W.Frag} {B H : Hp} : ∀ {as : List Addr} {os : List MO} (n : Nat), Objs K B H as os → Objs K B H (as.take n) (os.take n)
  | _, _, 0, _ => .nil
  | _, _, _ + 1, .nil => .nil
  | _, _, n + 1, .cons h t => .cons h (t.take n)
theorem hi_ge : ∀ (env : EnvP) (n : Nat), n ≤ env.foldl hiC n ∧ ∀ k : Nat, some (C.r k) ∈ env → k < env.foldl hiC n
  | [], n => ⟨Nat.le_refl _, fun _ m => nomatch m⟩
  | c :: r, n => by
    have a := hi_ge r (hiC n c)
    have b : n ≤ hiC n c := by
      unfold hiC
      split
      · exact Nat.le_max_left _ _
      · exact Nat.le_refl _
    refine ⟨Nat.le_trans b a.1, fun k m => ?_⟩
    rcases List.mem_cons.mp m with e | m
    · subst e
      have : k + 1 ≤ hiC n (some (C.r k)) := Nat.le_max_right _ _
      exact Nat.lt_of_lt_of_le this a.1
    · exact a.2 k m
theorem Sim.gc {K : PySem.W.Frag} {W : Wd} {env : EnvP} {L : List MO} {σ : L2.St} {H : Hp} (S : Sim K W ⟨env, L⟩ σ H) (m : Nat) : Sim K ⟨W.B, W.al.take (max m (hi env))⟩ ⟨env, gc m env L⟩ σ H where
  sub := S.sub
  nod := S.nod.sublist (List.take_sublist _ _)
  objs := S.objs.take _
  env := ⟨S.env.1, fun i c e => by
    obtain ⟨v, a, b⟩ := S.env.2 i c e
    refine ⟨v, a, ?_⟩
    cases c with
    | d x => exact b
    | r k =>
      obtain ⟨p, h, q⟩ := b
      refine ⟨p, ?_, q⟩
      show (W.al.take _)[k]? = some p
      rw [List.getElem?_take_of_lt]
      · exact h
      · exact Nat.lt_of_lt_of_le ((hi_ge env 0).2 k (List.mem_of_getElem? e)) (Nat.le_max_right _ _)⟩
theorem Step.gc {W W' : Wd} {H H' : Hp} (S : Step W H W' H') (n : Nat) : Step W H ⟨W'.B, W'.al.take n⟩ H' := ⟨⟨S.sub, S.keep, fun a m => S.al a (List.mem_of_mem_take m), S.nb, S.trk⟩, by
  obtain ⟨k, e⟩ := S.pre
  exact ⟨min n k, by show W'.al.take n = _; rw [e, List.take_take]⟩⟩
theorem Sim.fz {K : PySem.W.Frag} {W : Wd} {s : PSt} {σ : L2.St} {H : Hp} {k m : Nat} {p : Addr} {xs : List D} (S : Sim K W s σ H) (hk : s.L[k]? = some (.lst xs)) (hp : W.al[k]? = some p) :
    ∃ vs n, Sim K ⟨(W.put p (.lst vs)).B, W.al.take n⟩ (fzAt m k (.list xs) s) σ H ∧ Dq K (W.put p (.lst vs)).B (.ref p) (.list xs) ∧ Step W H ⟨(W.put p (.lst vs)).B, W.al.take n⟩ H := by
  obtain ⟨a, ha, hr⟩ := S.objs.get hk
  rw [hp] at ha
  cases ha
  obtain ⟨hb, vs, hH, hd⟩ := hr
  have hD : Dq K (W.put p (.lst vs)).B (.ref p) (.list xs) := .lst (.of upd_same) (Dqs.mono (Sub.new hb) _ _ hd)
  have mp : p ∈ W.al := List.mem_of_getElem? hp
  have S1 : Sim K (W.put p (.lst vs)) ⟨s.env.map (subC k (.list xs)), s.L.set k .dead⟩ σ H := by
    refine ⟨fun a u e => ?_, S.nod, Objs.impSet S.nod hp S.objs (fun a ma ne o r => r.mono (Sub.new hb) (fun z => (upd_ne ne).trans z) rfl) (by show H p ≠ none; rw [hH]; exact fun q => nomatch q), by rw [List.length_map]; exact S.env.1, fun i c e => ?_⟩
    · by_cases h : a = p
      · subst h
        rw [show (W.put a (.lst vs)).B a = some (.lst vs) from upd_same] at e
        cases e
        exact hH
      · exact S.sub a u ((upd_ne h).symm.trans e)
    · rw [List.getElem?_map] at e
      cases e0 : s.env[i]? with
      | none => rw [e0] at e; cases e
      | some oc =>
        rw [e0] at e
        have e1 : subC k (.list xs) oc = some c := Option.some.inj e
        cases oc with
        | none => cases e1
        | some c0 =>
          obtain ⟨v, a, b⟩ := S.env.2 i c0 e0
          refine ⟨v, a, ?_⟩
          cases c0 with
          | d x =>
            cases (show some (C.d x) = some c from e1)
            exact Dq.mono (Sub.new hb) _ _ b
          | r j =>
            obtain ⟨q, hq, ev⟩ := b
            by_cases hj : j = k
            · subst hj
              rw [hp] at hq
              cases hq
              have : subC j (.list xs) (some (.r j)) = some (.d (.list xs)) := if_pos rfl
              rw [this] at e1
              cases e1
              subst ev
              exact hD
            · have : subC k (.list xs) (some (.r j)) = some (.r j) := if_neg hj
              rw [this] at e1
              cases e1
              exact ⟨q, hq, ev⟩
  refine ⟨vs, max m (hi (s.env.map (subC k (.list xs)))), S1.gc m, hD, Step.gc (W' := W.put p (.lst vs)) ⟨⟨Sub.new hb, fun _ _ h _ => h, fun _ h => .inl h, fun a u h => ?_, fun _ h => h⟩, W.al.length, List.take_length.symm⟩ _⟩
  by_cases e : a = p
  · rw [e]; exact .inr (.inl mp)
  · exact .inl ((upd_ne e).symm.trans h)

/-- what a cell is read as -/
inductive Rdv (K : PySem.W.Frag) (B H : Hp) : V → D → Prop
  | d {v : V} {x : D} : Dq K B v x → Rdv K B H v x
  | r {p : Addr} {vs : List V} {xs : List D} : H p = some (.lst vs) → Dqs K B vs xs → Rdv K B H (.ref p) (.list xs)
  | g {p : Addr} {es : List (Key × V)} {kvs : List (D × D)} : H p = some (.dK es) → KvRep K B es kvs → Rdv K B H (.ref p) (.dict kvs)
theorem Sim.rd {K : PySem.W.Frag} {W : Wd} {s : PSt} {σ : L2.St} {H : Hp} {c : C} {v : V} {x : D} (S : Sim K W s σ H) (r : CRep K W v c) (e : rdD s c = some x) : Rdv K W.B H v x := by
  cases c with
  | d y =>
    cases (Option.some.inj e : y = x)
    exact .d r
  | r k =>
    obtain ⟨p, hp, rfl⟩ := r
    unfold rdD at e
    simp only at e
    split at e
    · rename_i xs hk
      cases e
      obtain ⟨a, ha, hr⟩ := S.objs.get hk
      rw [hp] at ha
      cases ha
      obtain ⟨_, vs, h1, h2⟩ := hr
      exact .r h1 h2
    · rename_i kvs hk
      cases e
      obtain ⟨a, ha, hr⟩ := S.objs.get hk
      rw [hp] at ha
      cases ha
      obtain ⟨_, vs, h1, h2⟩ := hr
      exact .g h1 h2
    · cases e
/-- a cell that was told earlier and is read now -/
theorem Step.cell {K : PySem.W.Frag} {W W' : Wd} {s : PSt} {σ : L2.St} {H H' : Hp} {c : C} {v : V} {x : D} (st : Step W H W' H') (S : Sim K W' s σ H') (r : CRep K W v c) (e : rdD s c = some x) : CRep K W' v c := by
  cases c with
  | d y => exact Dq.mono st.sub _ _ r
  | r k =>
    obtain ⟨p, hp, rfl⟩ := r
    have hl : k < W'.al.length := by
      rw [S.objs.len]
      unfold rdD at e
      simp only at e
      split at e
      · rename_i q
        exact (List.getElem?_eq_some_iff.mp q).1
      · rename_i q
        exact (List.getElem?_eq_some_iff.mp q).1
      · cases e
    obtain ⟨n, en⟩ := st.pre
    refine ⟨p, ?_, rfl⟩
    rw [en] at hl ⊢
    rw [List.getElem?_take_of_lt]
    · exact hp
    · rw [List.length_take] at hl
      omega
theorem Rdv.dp {K : PySem.W.Frag} {B H : Hp} {v : V} {x : D} (S : Sub B H) (hx : noD x = true) : Rdv K B H v x → Dp K H v x
  | .d h => Dq.dp _ _ (Dq.mono S _ _ h)
  | .r h q => .lst (SqL.of h) (Dqs.dp _ _ (Dqs.mono S _ _ q))
  | .g h q => nomatch hx
/-- a dict -/
theorem Rdv.dic {K : PySem.W.Frag} {B H : Hp} {v : V} {kvs : List (D × D)} : Rdv K B H v (.dict kvs) → ∃ p es, v = .ref p ∧ H p = some (.dK es) ∧ KvRep K B es kvs
  | .d h => nomatch h
  | .g h q => ⟨_, _, rfl, h, q⟩
/-- a list -/
theorem Rdv.lst {K : PySem.W.Frag} {B H : Hp} {v : V} {xs : List D} (S : Sub B H) : Rdv K B H v (.list xs) → ∃ p vs, v = .ref p ∧ SqL K H p vs ∧ Dqs K B vs xs
  | .d (.lst h q) => ⟨_, _, rfl, S.l h, q⟩
  | .r h q => ⟨_, _, rfl, .of h, q⟩
theorem Rdv.tup {K : PySem.W.Frag} {B H : Hp} {v : V} {xs : List D} (S : Sub B H) : Rdv K B H v (.tuple xs) → ∃ p vs, v = .ref p ∧ SqT K H p vs ∧ Dqs K B vs xs ∧ Dq K B v (.tuple xs)
  | .d (.tup h q) => ⟨_, _, rfl, S.t h.t, q, .tup h q⟩
theorem Rdv.int {K : PySem.W.Frag} {B H : Hp} {v : V} {i : Int} : Rdv K B H v (.int i) → v = .int i
  | .d (.int _) => rfl
theorem Rdv.str {K : PySem.W.Frag} {B H : Hp} {v : V} {i : Str} : Rdv K B H v (.str i) → v = .str i
  | .d (.str _) => rfl
theorem Rdv.bool {K : PySem.W.Frag} {B H : Hp} {v : V} {i : Bool} : Rdv K B H v (.bool i) → v = .bl i
  | .d (.bl _) => rfl
theorem Rdv.none {K : PySem.W.Frag} {B H : Hp} {v : V} : Rdv K B H v .none → v = .non
  | .d .non => rfl

/-! ### from a value to a cell, to data -/
theorem _root_.L2.PE.weak {X : Cx} {e : Expr} {t t' : TE} (h : PE X e t) (k : ∀ σ H Q, t' σ H Q → t σ H Q) : PE X e t' := ⟨fun pins s σ H Q I q => h.run pins s σ H Q I (k σ H Q q)⟩
theorem _root_.L2.PT.weak {X : Cx} {e : Expr} {t t' : TT} (h : PT X e t) (k : ∀ σ H Q, t' σ H Q → t σ H Q) : PT X e t' := ⟨fun pins s σ H Q I q => h.run pins s σ H Q I (k σ H Q q)⟩
/-- the ends of an asC, of an asD -/
theorem tr_asC {K : PySem.W.Frag} {xo : XO} {m : M RV} {σ : L2.St} {H : Hp} {Q : VK} (h : Tr K xo (RC K) (asC m) σ H Q) : T K xo m σ H Q := by
  obtain ⟨W, s, S, h⟩ := h
  refine ⟨W, s, S, wp_bind h (fun r s1 h1 v W1 H1 st S1 rr => ?_) fun _ _ q => q⟩
  cases r with
  | c c => exact (wp_pure h1) v W1 H1 st S1 rr
  | f xs =>
    obtain ⟨p, vs, rfl, hn, hb, ha, hp, hd⟩ := rr
    obtain ⟨S2, q⟩ := S1.join hb ha hp hd
    exact (wp_pure h1) _ _ H1 (st.put hn hb) S2 q
  | g kvs => exact (wp_fail h1).elim
theorem tr_fz {K : PySem.W.Frag} {m : Nat} {c : C} {v : V} {W : Wd} {s : PSt} {σ : L2.St} {H : Hp} {P : D → PSt → Prop} {PX : Xn → PSt → Prop} (S : Sim K W s σ H) (r : CRep K W v c) (h : wpM (fz m c) s P PX) :
    ∃ x s' W', P x s' ∧ Sim K W' s' σ H ∧ Step W H W' H ∧ Dq K W'.B v x := by
  cases c with
  | d x => exact ⟨x, s, W, h, S, .rfl', r⟩
  | r k =>
    obtain ⟨p, hp, rfl⟩ := r
    unfold wpM fz at h
    simp only at h
    split at h
    · rename_i e
      split at e
      · rename_i xs hk
        split at e
        · cases e
          obtain ⟨vs, n, S1, q, st⟩ := S.fz (m := m) hk hp
          exact ⟨_, _, _, h, S1, st, q⟩
        · cases e
      · cases e
    · rename_i e
      split at e
      · split at e <;> cases e
      · cases e
    · exact h.elim
theorem tr_asD {K : PySem.W.Frag} {xo : XO} {n : Nat} {m : M RV} {σ : L2.St} {H : Hp} {Q : VK} (h : Tr K xo (RD K) (asD n m) σ H Q) : T K xo m σ H Q := by
  obtain ⟨W, s, S, h⟩ := h
  refine ⟨W, s, S, wp_bind h (fun r s1 h1 v W1 H1 st S1 rr => ?_) fun _ _ q => q⟩
  cases r with
  | c c =>
    obtain ⟨x, s2, W2, hP, S2, st2, q⟩ := tr_fz S1 rr h1
    exact hP v W2 H1 (st.trans st2) S2 q
  | f xs =>
    obtain ⟨p, vs, rfl, hn, hb, ha, hp, hd⟩ := rr
    obtain ⟨S2, q⟩ := S1.join hb ha hp hd
    exact (wp_pure h1) _ _ H1 (st.put hn hb) S2 q
  | g kvs => exact (wp_fail h1).elim
end Pd

set_option Elab.async false
set_option linter.all false
set_option maxRecDepth 100000
set_option maxHeartbeats 2000000
/-! Sums and products of lists and tuples, the module's own or not, by any whole number. -/
namespace Pd
open PySem PySem.Spec PyProof.Rows L2
section
variable {X : Cx}
/-- a tuple that was just laid -/
theorem lay_tup {pins : List (Addr × Obj)} {σ : L2.St} {H : Hp} {s : Shared} {vs : List V} {its : List Value} {tk : Nat} (I : L2.Inv X pins σ H s) (r : Vals vs its) (hz : vs.length ≤ sizeLine) :
    L2.Inv X pins σ (L2.upd H s.heap.objs.size (.frz { cls := .type "tuple", data := .seq its.toArray } (.tup vs))) { s with heap := s.heap.push { cls := .type "tuple", data := .seq its.toArray }, toks := tk } :=
  I.laid (fun _ _ q => Heap.get?_push_of_some _ q) (Nat.le_refl _) ⟨Heap.get?_push_size _ rfl, hz, its, r, IsTup.new _ _⟩
/-- how a new tuple is told -/
def NewT (H : Hp) (vs : List V) (Q : VK) : Prop := ∀ p ob, H p = none → ob.dict = none → Q (.ref p) (L2.upd H p (.frz ob (.tup vs)))
theorem NewT.ep {pins : List (Addr × Obj)} {σ : L2.St} {H : Hp} {s : Shared} {vs : List V} {its : List Value} {tk : Nat} {Q : VK} (q : NewT H vs Q) (I : L2.Inv X pins σ H s) (r : Vals vs its) (hz : vs.length ≤ sizeLine) :
    EP X pins σ Q (.ref s.heap.objs.size) { s with heap := s.heap.push { cls := .type "tuple", data := .seq its.toArray }, toks := tk } :=
  ⟨.ref _, _, lay_tup I r hz, rfl, q _ _ (I.hok.fresh (Nat.le_refl _)) rfl⟩
def rCatL (K : PySem.W.Frag) : R2 := fun x y H Q => ∃ l b xs zs, x = .ref l ∧ y = .ref b ∧ SqL K H l xs ∧ SqL K H b zs ∧ xs.length + zs.length ≤ sizeLine ∧ ∀ p, H p = none → Q (.ref p) (L2.upd H p (.lst (xs ++ zs)))
theorem op_catL : OpR X (binaryOp .Add) (rCatL X.K) := by
  rintro pins s σ H _ _ v u Q I rx ry ⟨l, b, xs, zs, rfl, rfl, h1, h2, hz, q⟩
  cases rx
  cases ry
  obtain ⟨its, r1, ⟨⟨c1, d1, e1, s1⟩, n1, g1, hc1, _, hd1⟩, z1⟩ := I.list h1
  obtain ⟨its2, r2, ⟨⟨c2, d2, e2, s2⟩, n2, g2, hc2, _, hd2⟩, z2⟩ := I.list h2
  simp only at hc1 hd1 hc2 hd2
  subst hc1 hd1 hc2 hd2
  have sz : its.toArray.size + its2.toArray.size ≤ sizeLine := by
    rw [List.size_toArray, List.size_toArray, ← r1.length, ← r2.length]
    exact hz
  refine concat_meets ⟨_, g1, rfl⟩ ⟨_, g2, rfl⟩ noFill_list_add seq_list_add PySem.F.slot_list_add PySem.F.entry_list_add (PySem.F.args_list_add_2 _ _) (PyProof.Rows.list_addW l b its.toArray its2.toArray n1 n2 d1 d2 s1 s2 sz) ⟨g1, g2, ?_⟩
  rw [show its.toArray ++ its2.toArray = (its ++ its2).toArray by simp]
  refine ⟨.ref _, _, I.lnew (t' := s.toks) (r1.append r2) ?_, rfl, q _ I.fresh⟩
  rw [List.length_append]
  exact hz
/-! ### list * int -/
theorem rep_len {α : Type} (k : Nat) (xs : List α) : (List.replicate k xs).flatten.length = k * xs.length := by
  induction k with
  | zero => simp
  | succ k ih => rw [List.replicate_succ, List.flatten_cons, List.length_append, ih, Nat.succ_mul, Nat.add_comm]
theorem vals_rep {xs : List V} {us : List Value} (h : Vals xs us) : ∀ k : Nat, Vals (List.replicate k xs).flatten (List.replicate k us).flatten
  | 0 => .nil
  | k + 1 => by
    rw [List.replicate_succ, List.replicate_succ, List.flatten_cons, List.flatten_cons]
    exact h.append (vals_rep h k)
theorem arr_rep (its : List Value) : ∀ (k : Nat) (acc : List Value), List.foldl (fun x1 x2 => x1 ++ x2) acc.toArray (List.replicate k its.toArray) = (acc ++ (List.replicate k its).flatten).toArray
  | 0, acc => by simp
  | k + 1, acc => by
    rw [List.replicate_succ, List.replicate_succ, List.foldl_cons, List.flatten_cons, ← List.append_assoc, ← arr_rep its k (acc ++ its)]
    simp
def rMulL (K : PySem.W.Frag) : R2 := fun x y H Q => ∃ l k xs, x = .ref l ∧ y = .int k ∧ SqL K H l xs ∧ -(2 ^ 60) ≤ k ∧ k ≤ 1000 ∧ xs.length ≤ 1000 ∧ ∀ p, H p = none → Q (.ref p) (L2.upd H p (.lst (List.replicate k.toNat xs).flatten))
theorem prod_le {k : Int} {n : Nat} (h : k ≤ 1000) (hn : n ≤ 1000) : n * k.toNat ≤ 1000000 := by
  have : n * k.toNat ≤ 1000 * 1000 := Nat.mul_le_mul hn (by omega)
  omega
theorem op_mulL : OpR X (binaryOp .Mult) (rMulL X.K) := by
  rintro pins s σ H _ _ v u Q I rx ry ⟨l, k, xs, rfl, rfl, h1, k1, k2, hz, q⟩
  cases rx
  obtain ⟨t, rfl⟩ := ry
  obtain ⟨its, r, ⟨⟨c, d, e, sl⟩, n, g, hc, _, hd⟩, _⟩ := I.list h1
  simp only at hc hd
  subst hc hd
  have hl : its.toArray.size = xs.length := by rw [List.size_toArray, r.length]
  have pl := prod_le k2 hz
  have sl1 : (1000000 : Nat) ≤ sizeLine := by decide
  have sl2 : (sizeLine : Nat) ≤ (2 ^ 63 - 1) / 8 := by decide
  have hfit : ¬ (!Builtin.List.listFitsIndex k) = true := by simp [Builtin.List.listFitsIndex]; omega
  have hcap : ¬ its.toArray.size * k.toNat > (2 ^ 63 - 1) / 8 := by rw [hl]; omega
  have hlong : ¬ Builtin.List.listTooLong (its.toArray.size * k.toNat) = true := by
    rw [hl]
    unfold Builtin.List.listTooLong
    intro z
    have := of_decide_eq_true z
    omega
  refine wpAny_binaryOp_repeat_ref (T := "list") (U := "int") (by decide) ⟨_, g, rfl⟩ (fun s' => typeIs_int s' k t) noFill_list_mul PySem.F.fills_int_mul PySem.F.slot_int_rmul repeat_list PySem.F.slot_int_index.lookup
    (call_meets PySem.F.slot_int_rmul (typeIs_int s k t) PySem.F.entry_int_rmul (PySem.F.args_int_rmul_2 _ _) (lm_int_rmul_list_any k t l its.toArray n d sl) ⟨g, rfl, ⟨_, g, rfl⟩,
      call_meets PySem.F.slot_list_mul ⟨_, g, rfl⟩ PySem.F.entry_list_mul (PySem.F.args_list_mul_2 _ _) (lm_list_mul_any l its.toArray n d sl k t hfit hcap hlong) ⟨g, ?_⟩⟩)
  have e1 : List.foldl (fun x1 x2 => x1 ++ x2) #[] (List.replicate (if its.toArray.isEmpty = true then 0 else k.toNat) its.toArray) = (List.replicate k.toNat its).flatten.toArray := by
    cases its with
    | nil =>
      have := arr_rep [] k.toNat []
      simp
    | cons a b =>
      rw [if_neg (by simp)]
      have := arr_rep (a :: b) k.toNat []
      rw [List.nil_append] at this
      exact this
  rw [e1]
  refine ⟨.ref _, _, I.lnew (t' := s.toks) (vals_rep r k.toNat) ?_, rfl, q _ I.fresh⟩
  rw [rep_len, Nat.mul_comm]
  omega
/-! ### tuple * int -/
theorem tmul_one (l : Addr) (items : Array Value) (n : Nat) (dd : Option Addr) (sl : Array (Option Value)) (x : Int) (u : Tok) (c0 : (decide (x < -(2 ^ 63)) || decide (x ≥ 2 ^ 63)) = false) (c1 : (items.isEmpty || x == 1) = true) :
    Meets (Builtin.«tuple.__mul__» ⟨[.ref l, .int x u], []⟩) (fun _ R s => s.heap.get? l = some { cls := .type "tuple", dict := dd, data := .seq items n, slots := sl } ∧ R (.ok (.ret (Value.ref l))) s) :=
  .of_wp fun prog w A R s h => by
    obtain ⟨hp, g, d, tk, os⟩ := s
    obtain ⟨hl, h⟩ := h
    have f1 := PySem.AutoSeq1.idx_int
    wp_walk using wpAny_loadPart' hl
    repeat (first
      | (refine wpAny_ite_false (decide_eq_false (by rw [c0]; exact Bool.false_ne_true)) ?_; wp_walk using wpAny_loadPart' hl)
      | (refine wpAny_ite_true (decide_eq_true c1) ?_; wp_walk using wpAny_loadPart' hl))
    exact ⟨_, rfl, h⟩
theorem tmul_none (l : Addr) (items : Array Value) (n : Nat) (dd : Option Addr) (sl : Array (Option Value)) (x : Int) (u : Tok) (c0 : (decide (x < -(2 ^ 63)) || decide (x ≥ 2 ^ 63)) = false) (c1 : (items.isEmpty || x == 1) = false) (c2 : (decide (x ≤ 0) || items.isEmpty) = true) :
    Meets (Builtin.«tuple.__mul__» ⟨[.ref l, .int x u], []⟩) (fun _ R s => s.heap.get? l = some { cls := .type "tuple", dict := dd, data := .seq items n, slots := sl } ∧
      R (.ok (.ret (Value.ref s.heap.objs.size))) { s with heap := s.heap.push { cls := Value.type "tuple", data := Data.seq #[] }, toks := s.toks }) :=
  .of_wp fun prog w A R s h => by
    obtain ⟨hp, g, d, tk, os⟩ := s
    obtain ⟨hl, h⟩ := h
    have f1 := PySem.AutoSeq1.idx_int
    wp_walk using wpAny_loadPart' hl
    repeat (first
      | (refine wpAny_ite_false (decide_eq_false (by rw [c0]; exact Bool.false_ne_true)) ?_; wp_walk using wpAny_loadPart' hl)
      | (refine wpAny_ite_false (decide_eq_false (by rw [c1]; exact Bool.false_ne_true)) ?_; wp_walk using wpAny_loadPart' hl)
      | (refine wpAny_ite_true (decide_eq_true c2) ?_; wp_walk using wpAny_loadPart' hl))
    exact ⟨_, rfl, h⟩
def rMulT (K : PySem.W.Frag) : R2 := fun x y H Q => ∃ l k xs, x = .ref l ∧ y = .int k ∧ SqT K H l xs ∧ -(2 ^ 60) ≤ k ∧ k ≤ 1000 ∧ xs.length ≤ 1000 ∧ ((List.replicate k.toNat xs).flatten = xs → Q (.ref l) H) ∧ NewT H (List.replicate k.toNat xs).flatten Q
theorem op_mulT : OpR X (binaryOp .Mult) (rMulT X.K) := by
  rintro pins s σ H x y v u Q I rx ry ⟨l, k, xs, e1, e2, h1, k1, k2, hz, q1, q2⟩
  subst e1
  subst e2
  cases rx
  obtain ⟨t, rfl⟩ := ry
  obtain ⟨its, r, ⟨⟨c, d, e, sl⟩, g, hc, n, hd⟩, _⟩ := I.tuple h1
  simp only at hc hd
  subst hc hd
  have hl : its.length = xs.length := r.length.symm
  have hs : its.toArray.size = xs.length := by rw [List.size_toArray, hl]
  have c0 : (decide (k < -(2 ^ 63)) || decide (k ≥ 2 ^ 63)) = false := by
    rw [decide_eq_false (by omega), decide_eq_false (by omega)] <;> rfl
  have pl := prod_le k2 hz
  have sl1 : (1000000 : Nat) ≤ sizeLine := by decide
  cases c1 : (its.toArray.isEmpty || k == 1) with
  | true =>
    refine wpAny_binaryOp_repeat_ref (T := "tuple") (U := "int") (by decide) ⟨_, g, rfl⟩ (fun s' => typeIs_int s' k t) L2.noFill_tuple_mul PySem.F.fills_int_mul PySem.F.slot_int_rmul L2.repeat_tuple PySem.F.slot_int_index.lookup
      (call_meets PySem.F.slot_int_rmul (typeIs_int s k t) PySem.F.entry_int_rmul (PySem.F.args_int_rmul_2 _ _) (int_rmul_tuple k t l its.toArray n d sl) ⟨g, rfl, ⟨_, g, rfl⟩,
        call_meets PySem.F.slot_tuple_mul ⟨_, g, rfl⟩ PySem.F.entry_tuple_mul (PySem.F.args_tuple_mul_2 _ _) (tmul_one l its.toArray n d sl k t c0 c1) ⟨g, ?_⟩⟩)
    refine ⟨.ref l, H, I, rfl, q1 ?_⟩
    rcases Bool.or_eq_true_iff.mp c1 with z | z
    · have : its = [] := by simpa using z
      rw [this] at hl
      have : xs = [] := List.eq_nil_of_length_eq_zero hl.symm
      rw [this]
      simp
    · rw [eq_of_beq z]
      simp
  | false =>
    cases c2 : (decide (k ≤ 0) || its.toArray.isEmpty) with
    | true =>
      refine wpAny_binaryOp_repeat_ref (T := "tuple") (U := "int") (by decide) ⟨_, g, rfl⟩ (fun s' => typeIs_int s' k t) L2.noFill_tuple_mul PySem.F.fills_int_mul PySem.F.slot_int_rmul L2.repeat_tuple PySem.F.slot_int_index.lookup
        (call_meets PySem.F.slot_int_rmul (typeIs_int s k t) PySem.F.entry_int_rmul (PySem.F.args_int_rmul_2 _ _) (int_rmul_tuple k t l its.toArray n d sl) ⟨g, rfl, ⟨_, g, rfl⟩,
          call_meets PySem.F.slot_tuple_mul ⟨_, g, rfl⟩ PySem.F.entry_tuple_mul (PySem.F.args_tuple_mul_2 _ _) (tmul_none l its.toArray n d sl k t c0 c1 c2) ⟨g, ?_⟩⟩)
      have z1 := (Bool.or_eq_false_iff.mp c1).1
      rw [z1, Bool.or_false] at c2
      have k3 := of_decide_eq_true c2
      rw [show k.toNat = 0 by omega] at q2
      exact NewT.ep (its := []) q2 I .nil (Nat.zero_le _)
    | false =>
      have flen : (List.foldl (fun x1 x2 => x1 ++ x2) #[] (List.replicate k.toNat its.toArray)).size ≤ sizeLine := by
        have := arr_rep its k.toNat []
        rw [List.nil_append] at this
        rw [show (#[] : Array Value) = ([] : List Value).toArray from rfl, this, List.size_toArray, rep_len, hl, Nat.mul_comm]
        omega
      have c3 : ((its.toArray.size : Nat) : Int) * k ≤ 1000000 := by
        have z1 := (Bool.or_eq_false_iff.mp c2).1
        have z2 := of_decide_eq_false z1
        rw [hs]
        have e3 : ((xs.length : Nat) : Int) * k = ((xs.length * k.toNat : Nat) : Int) := by
          rw [Int.natCast_mul, Int.toNat_of_nonneg (by omega)]
        rw [e3]
        omega
      have c4 : Builtin.Tuple.tupleTooMany (((its.toArray.size : Nat) : Int) * k) = false := by
        unfold Builtin.Tuple.tupleTooMany
        exact decide_eq_false (by omega)
      refine wpAny_binaryOp_repeat_ref (T := "tuple") (U := "int") (by decide) ⟨_, g, rfl⟩ (fun s' => typeIs_int s' k t) L2.noFill_tuple_mul PySem.F.fills_int_mul PySem.F.slot_int_rmul L2.repeat_tuple PySem.F.slot_int_index.lookup
        (call_meets PySem.F.slot_int_rmul (typeIs_int s k t) PySem.F.entry_int_rmul (PySem.F.args_int_rmul_2 _ _) (int_rmul_tuple k t l its.toArray n d sl) ⟨g, rfl, ⟨_, g, rfl⟩,
          call_meets PySem.F.slot_tuple_mul ⟨_, g, rfl⟩ PySem.F.entry_tuple_mul (PySem.F.args_tuple_mul_2 _ _) (L2.tuple_mulW l its.toArray n d sl k t c0 c1 c2 (by omega) c4 flen) ⟨g, ?_⟩⟩)
      have := arr_rep its k.toNat []
      rw [List.nil_append] at this
      rw [show (#[] : Array Value) = ([] : List Value).toArray from rfl, this]
      refine NewT.ep q2 I (vals_rep r k.toNat) ?_
      rw [rep_len, Nat.mul_comm]
      omega
/-! ### sums and cuts of tuples, tuples of lists -/
def rCatE (K : PySem.W.Frag) : R2 := fun x y H Q => ∃ a b xs ys, x = .ref a ∧ y = .ref b ∧ SqT K H a xs ∧ SqT K H b ys ∧ xs.length + ys.length ≤ sizeLine ∧ (xs = [] → Q (.ref b) H) ∧ (ys = [] → Q (.ref a) H) ∧ NewT H (xs ++ ys) Q
theorem op_catE : OpR X (binaryOp .Add) (rCatE X.K) := by
  rintro pins s σ H _ _ v u Q I rx ry ⟨a, b, xs, ys, rfl, rfl, ha, hb, hz, q0, q1, q2⟩
  cases rx
  cases ry
  obtain ⟨its, r1, p1, _⟩ := I.tuple ha
  obtain ⟨its2, r2, p2, _⟩ := I.tuple hb
  by_cases hx : its = []
  · subst hx
    cases r1
    exact L2.cat_tup0 p1 p2 ⟨.ref b, H, I, rfl, q0 rfl⟩
  · refine HT.cat_tup p1 p2 hx (fun z => ⟨.ref a, H, I, rfl, q1 ?_⟩) (fun z => ?_) (by rw [← r1.length, ← r2.length]; exact hz)
    · subst z
      cases r2
      rfl
    · exact NewT.ep (tk := s.toks) q2 I (r1.append r2) (by rw [List.length_append]; exact hz)
def rSlE (K : PySem.W.Frag) : V → Option Int → Option Int → Hp → VK → Prop := fun x lo hi H Q => ∃ a xs, x = .ref a ∧ SqT K H a xs ∧ (HT.sIx xs.length 0 lo = 0 ∧ HT.sIx xs.length xs.length hi = xs.length → Q (.ref a) H) ∧ NewT H (cutV xs lo hi) Q
theorem sl_tupE : SlR X (rSlE X.K) := by
  rintro pins s σ H _ v vl vu lo hi sl Q I rx hs pl pu ⟨a, xs, rfl, hx, q1, q2⟩
  cases rx
  obtain ⟨its, r, ht, hz⟩ := I.tuple hx
  have hl : its.toArray.size = xs.length := by rw [List.size_toArray]; exact r.length.symm
  refine ⟨"tuple", _, PyProof.Rows.slot_tuple_getitem.lookup, ht.typeIs, ?_⟩
  by_cases hw : HT.sIx xs.length 0 lo = 0 ∧ HT.sIx xs.length xs.length hi = xs.length
  · exact L2.getItem_tuple_whole ht hs pl pu (by rw [hl]; exact hw) ⟨.ref a, H, I, rfl, q1 hw⟩
  · refine HT.getItem_tuple_cut ht hs pl pu (by rw [hl]; exact hw) ?_ (by rw [hl]; exact hz)
    rw [hl]
    exact NewT.ep (tk := s.toks) q2 I ((r.drop (HT.sIx xs.length 0 lo)).take (HT.sIx xs.length xs.length hi - HT.sIx xs.length 0 lo)) (Nat.le_trans (cutV_length xs lo hi) hz)
theorem call_tupE : CallR X (.type "tuple") (fun xs H Q => ∃ p ys, xs = [.ref p] ∧ ((SqL X.K H p ys ∧ NewT H ys Q) ∨ (SqT X.K H p ys ∧ Q (.ref p) H))) := by
  rintro pins s σ H _ us Q I r ⟨p, ys, rfl, h⟩
  obtain ⟨u, rfl, rx⟩ := vals1 r
  cases rx
  rcases h with ⟨hq, q⟩ | ⟨hq, q⟩
  · obtain ⟨its, r', pl, hz⟩ := I.list hq
    refine call_tuple_list pl.isList (fun h' kp => ?_) (by rw [List.size_toArray, ← r'.length]; exact hz)
    exact NewT.ep (s := { s with heap := h' }) (tk := s.toks) q (I.kept (t' := s.toks) kp) r' hz
  · obtain ⟨its, r', pl, hz⟩ := I.tuple hq
    exact call_tuple_same pl ⟨.ref p, H, I, rfl, q⟩
def tTupE (t : TA) : TE := fun σ H Q => t σ H fun xs H1 => xs.length ≤ sizeLine ∧ NewT H1 xs Q
theorem pe_tupE {es : List Expr} {t : TA} {pos : Pos} {n : Nat} (h : PA X es t) : PE X (.Tuple es n pos) (tTupE t) :=
  ⟨fun pins s σ H Q I hq => wpAny_Tuple_spliced (thn (h.run pos pins s σ H _ I hq) fun us s1 ⟨xs, H1, I1, r, z, q⟩ => ⟨by rw [← r.length]; exact z, NewT.ep (tk := s1.toks) q I1 r z⟩)⟩
/-! ### extend by any list -/
theorem ext_any (l : Addr) (items : Array Value) (n : Nat) (b : Addr) (items2 : Array Value) (n2 : Nat) (d2 : Option Addr) (sl2 : Array (Option Value)) (hc0 : ¬(!items.isEmpty && Builtin.List.listTooLong (items.size + items2.size)) = true) (hc1 : items.size ≤ sizeLine) (hz' : (items ++ items2).size ≤ sizeLine + 1) :
    Meets (Builtin.«list.extend» ⟨[.ref l, .ref b], []⟩) (fun _ R s => s.heap.get? l = some { cls := .type "list", dict := none, data := .seq items n, slots := #[] } ∧ s.heap.get? b = some { cls := .type "list", dict := d2, data := .seq items2 n2, slots := sl2 } ∧
      R (.ok (.ret Value.none)) { s with heap := s.heap.update l (Obj.mapSeq fun x => x ++ items2), toks := s.toks }) :=
  .of_wp fun prog w A R s h => by
    obtain ⟨hp, g, d, tk, os⟩ := s
    obtain ⟨hl, hb, h⟩ := h
    have f1 := PySem.AutoSeq1.idx_int
    have f3 := PySem.AutoSeq1.sub_list_list
    wp_walk using (PySem.wpAny_updateSeq hl rfl (hz := hc1) (_hz' := hz')), wpAny_loadPart' hl, wpAny_loadPart' hb
    exact ⟨_, rfl, h⟩
theorem ext_tup (l : Addr) (items : Array Value) (n : Nat) (b : Addr) (items2 : Array Value) (n2 : Nat) (d2 : Option Addr) (sl2 : Array (Option Value)) (hc0 : ¬(!items.isEmpty && Builtin.List.listTooLong (items.size + items2.size)) = true) (hc1 : items.size ≤ sizeLine) (hz' : (items ++ items2).size ≤ sizeLine + 1) :
    Meets (Builtin.«list.extend» ⟨[.ref l, .ref b], []⟩) (fun _ R s => s.heap.get? l = some { cls := .type "list", dict := none, data := .seq items n, slots := #[] } ∧ s.heap.get? b = some { cls := .type "tuple", dict := d2, data := .seq items2 n2, slots := sl2 } ∧
      R (.ok (.ret Value.none)) { s with heap := s.heap.update l (Obj.mapSeq fun x => x ++ items2), toks := s.toks }) :=
  .of_wp fun prog w A R s h => by
    obtain ⟨hp, g, d, tk, os⟩ := s
    obtain ⟨hl, hb, h⟩ := h
    have f1 := PySem.AutoSeq1.idx_int
    have f2 := PySem.AutoSeq1.sub_tuple_tuple
    have f3 := PySem.AutoSeq1.sub_list_list
    have f4 := PySem.AutoSeq1.sub_tuple_list
    have f5 := PySem.AutoSeq1.sub_list_tuple
    wp_walk using (PySem.wpAny_updateSeq hl rfl (hz := hc1) (_hz' := hz')), wpAny_loadPart' hl, wpAny_loadPart' hb
    exact ⟨_, rfl, h⟩
def rExtA (K : PySem.W.Frag) : V → List V → Hp → VK → Prop := fun x vs H Q => ∃ l b xs zs, x = .ref l ∧ vs = [.ref b] ∧ H l = some (.lst xs) ∧ (SqL K H b zs ∨ SqT K H b zs) ∧ xs.length + zs.length ≤ sizeLine ∧ Q .non (L2.upd H l (.lst (xs ++ zs)))
theorem mt_extA : MtM X "list.extend" (rExtA X.K) := by
  rintro pins s σ H x vs v us Q I rx rv ⟨l, b, xs, zs, rfl, rfl, hH, hB, hz, q⟩
  cases rx
  obtain ⟨u, rfl, ru⟩ := rv.one
  cases ru
  obtain ⟨z, its, n, r, hl, e⟩ := I.lstM hH
  have more : ∀ its2 : List Value, Vals zs its2 → ¬ (!its.toArray.isEmpty && Builtin.List.listTooLong (its.toArray.size + its2.toArray.size)) = true ∧ its.toArray.size ≤ sizeLine ∧ (its.toArray ++ its2.toArray).size ≤ sizeLine + 1 := fun its2 r2 => by
    have h2 := r2.length
    refine ⟨?_, by rw [List.size_toArray]; omega, by rw [Array.size_append, List.size_toArray, List.size_toArray]; omega⟩
    rw [notLongL (by rw [List.size_toArray, List.size_toArray]; omega), Bool.and_false]
    exact Bool.false_ne_true
  have fin : ∀ its2 : List Value, Vals zs its2 → EP X pins σ Q .none { s with heap := s.heap.update l (Obj.mapSeq fun x => x ++ its2.toArray), toks := s.toks } := fun its2 r2 => by
    refine ⟨.non, _, I.lset (its' := its ++ its2) hH e (by simp) (r.append r2) ?_, rfl, q⟩
    rw [List.length_append]
    omega
  rcases hB with hB | hB
  · obtain ⟨its2, r2, ⟨⟨c2, d2, e2, s2⟩, n2, g2, hc2, _, hd2⟩, _⟩ := I.list hB
    simp only at hc2 hd2
    subst hc2 hd2
    obtain ⟨m1, m2, m3⟩ := more its2 r2
    exact call_meets PySem.F.slot_list_extend ⟨_, e, rfl⟩ PySem.F.entry_list_extend (PySem.F.args_list_extend_2 _ _) (ext_any l its.toArray n b its2.toArray n2 d2 s2 m1 m2 m3) ⟨e, g2, fin its2 r2⟩
  · obtain ⟨its2, r2, ⟨⟨c2, d2, e2, s2⟩, g2, hc2, n2, hd2⟩, _⟩ := I.tuple hB
    simp only at hc2 hd2
    subst hc2 hd2
    obtain ⟨m1, m2, m3⟩ := more its2 r2
    exact call_meets PySem.F.slot_list_extend ⟨_, e, rfl⟩ PySem.F.entry_list_extend (PySem.F.args_list_extend_2 _ _) (ext_tup l its.toArray n b its2.toArray n2 d2 s2 m1 m2 m3) ⟨e, g2, fin its2 r2⟩
end
end Pd

set_option Elab.async false
set_option linter.all false
set_option maxRecDepth 100000
set_option maxHeartbeats 2000000
/-! Entries of a dict, as data. -/
namespace Pd
open PySem PySem.Spec PyProof.Rows L2
theorem kv_any {K : PySem.W.Frag} {B : Hp} {x : D} {k : Key} (hk : keyD x = some k) : ∀ {r : List (Key × V)} {q : List (D × D)}, KvRep K B r q → (r.any fun kv => decide (kv.1 = k)) = q.any fun kv => keyEqD kv.1 x
  | _, _, .nil => rfl
  | _, _, .cons (k := k') (x := x') h _ t => by
    rw [List.any_cons, List.any_cons, kv_any hk t]
    congr 1
    unfold keyEqD
    rw [h, hk]
    by_cases e : k' = k
    · rw [decide_eq_true e, decide_eq_true (congrArg some e)]
    · rw [decide_eq_false e, decide_eq_false fun z => e (Option.some.inj z)]
theorem kv_set {K : PySem.W.Frag} {B : Hp} {x d : D} {v : V} {k : Key} (hk : keyD x = some k) (hd : Dq K B v d) : ∀ {r : List (Key × V)} {q : List (D × D)}, KvRep K B r q → KvRep K B (r.map fun kv => if kv.1 = k then (kv.1, v) else kv) (q.map fun kv => if keyEqD kv.1 x then (kv.1, d) else kv)
  | _, _, .nil => .nil
  | _, _, .cons (k := k') (x := x') h g t => by
    rw [List.map_cons, List.map_cons]
    have e : keyEqD x' x = decide (k' = k) := by
      unfold keyEqD
      rw [h, hk]
      by_cases e : k' = k
      · rw [decide_eq_true e, decide_eq_true (congrArg some e)]
      · rw [decide_eq_false e, decide_eq_false fun z => e (Option.some.inj z)]
    by_cases e2 : k' = k
    · rw [if_pos (show (k', _).1 = k from e2), if_pos (show keyEqD (x', _).1 x = true by show keyEqD x' x = true; rw [e, decide_eq_true e2])]
      exact .cons h hd (kv_set hk hd t)
    · rw [if_neg (show ¬ (k', _).1 = k from e2), if_neg (show ¬ keyEqD (x', _).1 x = true by show ¬ keyEqD x' x = true; rw [e, decide_eq_false e2]; exact Bool.false_ne_true)]
      exact .cons h g (kv_set hk hd t)
theorem kv_app {K : PySem.W.Frag} {B : Hp} : ∀ {r r' : List (Key × V)} {q q' : List (D × D)}, KvRep K B r q → KvRep K B r' q' → KvRep K B (r ++ r') (q ++ q')
  | _, _, _, _, .nil, h => h
  | _, _, _, _, .cons a b c, h => .cons a b (kv_app c h)
theorem kv_put {K : PySem.W.Frag} {B : Hp} {x d : D} {v : V} {k : Key} {r : List (Key × V)} {q : List (D × D)} (h : KvRep K B r q) (hk : keyD x = some k) (hd : Dq K B v d) : KvRep K B (putK r k v) (putD q x d) := by
  unfold putK putD
  rw [kv_any hk h]
  split
  · exact kv_set hk hd h
  · exact kv_app h (.cons hk hd .nil)
theorem kv_merge {K : PySem.W.Frag} {B : Hp} : ∀ {r' : List (Key × V)} {q' : List (D × D)}, KvRep K B r' q' → ∀ {r : List (Key × V)} {q : List (D × D)}, KvRep K B r q → KvRep K B (mergeK r r') (mergeD q q')
  | _, _, .nil, _, _, h => h
  | _, _, .cons a b c, _, _, h => kv_merge c (kv_put h a b)
theorem kv_find {K : PySem.W.Frag} {B : Hp} {x : D} {k : Key} (hk : keyD x = some k) : ∀ {r : List (Key × V)} {q : List (D × D)}, KvRep K B r q → (valV r k = none ∧ findD q x = none) ∨ ∃ v d, valV r k = some v ∧ findD q x = some d ∧ Dq K B v d
  | _, _, .nil => .inl ⟨rfl, rfl⟩
  | _, _, .cons (k := k') (x := x') (v := v) (d := d) h g t => by
    have e : keyEqD x' x = decide (k' = k) := by
      unfold keyEqD
      rw [h, hk]
      by_cases e : k' = k
      · rw [decide_eq_true e, decide_eq_true (congrArg some e)]
      · rw [decide_eq_false e, decide_eq_false fun z => e (Option.some.inj z)]
    unfold valV findD
    rw [List.find?_cons, List.find?_cons]
    show (_ ∧ _) ∨ _
    simp only [e]
    by_cases e2 : k' = k
    · rw [decide_eq_true e2]
      exact .inr ⟨v, d, rfl, rfl, g⟩
    · rw [decide_eq_false e2]
      exact kv_find hk t
theorem key_dq {K : PySem.W.Frag} {B : Hp} {v : V} {x : D} {k : Key} (h : Dq K B v x) (hk : keyD x = some k) : v = kV k := by
  cases h <;> first | (cases hk; done) | (cases (Option.some.inj hk); rfl)
theorem Rdv.key {K : PySem.W.Frag} {B H : Hp} {v : V} {x : D} {k : Key} (hk : keyD x = some k) : Rdv K B H v x → v = kV k
  | .d h => key_dq h hk
  | .r _ _ => nomatch hk
  | .g _ _ => nomatch hk
theorem kv_some {K : PySem.W.Frag} {B : Hp} {x : D} {k : Key} (hk : keyD x = some k) {r : List (Key × V)} {q : List (D × D)} (h : KvRep K B r q) : (valV r k).isSome = (findD q x).isSome := by
  rcases kv_find hk h with ⟨a, b⟩ | ⟨v, d, a, b, _⟩ <;> rw [a, b] <;> rfl
theorem kv_keys {K : PySem.W.Frag} {B B' : Hp} : ∀ {r : List (Key × V)} {q : List (D × D)}, KvRep K B r q → Dqs K B' (r.map fun kv => kV kv.1) (q.map (·.1))
  | _, _, .nil => .nil
  | _, _, .cons (k := k) (x := x) h _ t => .cons (by
      cases x with
      | int i => cases (Option.some.inj h); exact .int i
      | str i => cases (Option.some.inj h); exact .str i
      | _ => cases h) (kv_keys t)
theorem kv_len {K : PySem.W.Frag} {B : Hp} : ∀ {r : List (Key × V)} {q : List (D × D)}, KvRep K B r q → r.length = q.length
  | _, _, .nil => rfl
  | _, _, .cons _ _ t => congrArg (· + 1) (kv_len t)
section
variable {X : Cx}
def rIxDic : R2 := fun x y H Q => ∃ a kvs k v, x = .ref a ∧ H a = some (.dK kvs) ∧ y = kV k ∧ valV kvs k = some v ∧ Q v H
theorem ix_dic : IxR X rIxDic := by
  intro value slice pins s σ H x y o i Q I rx ry h hs
  obtain ⟨a, kvs, k, v, rfl, e, rfl, l, q⟩ := h
  cases rx
  obtain ⟨z, hd, vs, rel, dd⟩ := dk_of I.hok e
  obtain ⟨w', hw, rw'⟩ := RelO.some_of (v := v) (o := valueAt vs k) (by rw [← l]; exact rel.val k)
  unfold subscriptTail
  refine wpAny_bind ?_
  rw [getitemInPython_of_ne dd.typeIs.not_modules]
  refine wpAny_bind (wpAny_specialOf dd.typeIs PySem.F.slot_dict_getitem.lookup ?_)
  have fin : wpAny (model X.prog X.w) X.A (subscripted slice false (.ref a) i) (fun r s₃ => wpAny (model X.prog X.w) X.A (letTemporaryGo value (.ref a) r >>= fun _ => pure r) (EP X pins σ Q) X.xe s₃) X.xe s := by
    rw [hs]
    exact wpAny_operating (wpAny_getItem_of (kV_is ry) dd.mapOf hw (wpAny_bind (wpAny_letTemporaryGo (wpAny_pure ⟨v, H, I.tok _, rw', q⟩))))
  first
    | exact wpAny_pure (wpAny_bind fin)
    | exact wpAny_bind (wpAny_pure (wpAny_bind fin))
    | exact wpAny_bind fin
def rSetDic : V → V → V → Hp → (Hp → Prop) → Prop := fun o i v H Q => ∃ a kvs k, o = .ref a ∧ H a = some (.dK kvs) ∧ i = kV k ∧ kvs.length < sizeLine ∧ Q (upd H a (.dK (putK kvs k v)))
theorem set_dic : PSet X rSetDic := by
  intro pins s σ H o i v ov iv u Q I ro ri rv h
  obtain ⟨a, kvs, k, rfl, e, rfl, l, q⟩ := h
  cases ro
  obtain ⟨z, hd, vs, rel, dd⟩ := dk_of I.hok e
  have hz : vs.length ≤ sizeLine := by rw [← rel.length]; exact z
  have hl : (putK kvs k v).length ≤ sizeLine := by have := length_putK kvs k v; omega
  refine wpAny_setItem_pairs (hsz := hz) (kV_is ri) dd fun h' dd' hs => ?_
  have he : ∃ q, h'.get? a = some q := let ⟨q, _, _, hq, _⟩ := dd'; ⟨q, hq⟩
  exact ⟨_, d_write I (by rw [e]; exact True.intro) hs he (dk_new hl hd (rel.put k rv) dd'), q⟩
end
end Pd

set_option Elab.async false
set_option linter.all false
set_option maxRecDepth 100000
set_option maxHeartbeats 2000000
namespace Pd
open PySem L2

theorem fits_le {n : Nat} (h : fits n = true) : n ≤ sizeLine := Nat.le_trans (of_decide_eq_true h) (by decide)
theorem fits_lt {n : Nat} (h : fits n = true) : n < sizeLine := Nat.lt_of_le_of_lt (of_decide_eq_true h) (by decide)
def OPost (K : PySem.W.Frag) (B H : Hp) (o : OpO) (Q : VK) : Prop := match o with
  | .d z => (∀ v, Dq K B v z → Q v H) ∧ ∀ vs zs, z = .tuple zs → Dqs K B vs zs → NewT H vs Q
  | .f xs => ∀ p vs, H p = none → Dqs K B vs xs → Q (.ref p) (upd H p (.lst vs))
theorem Sim.fresh {K : PySem.W.Frag} {W : Wd} {s : PSt} {σ : L2.St} {H : Hp} {p : Addr} (S : Sim K W s σ H) (h : H p = none) : W.B p = none ∧ p ∉ W.al := ⟨S.sub.free h, fun m => S.objs.trk m h⟩
/-- a new tuple of data -/
theorem Sim.newT {K : PySem.W.Frag} {W : Wd} {s : PSt} {σ : L2.St} {H : Hp} {p : Addr} {ob : Obj} {vs : List V} {zs : List D} (S : Sim K W s σ H) (h : H p = none) (d : ob.dict = none) (q : Dqs K W.B vs zs) :
    Sim K (W.put p (.frz ob (.tup vs))) s σ (upd H p (.frz ob (.tup vs))) ∧ Dq K (W.put p (.frz ob (.tup vs))).B (.ref p) (.tuple zs) ∧ Step W H (W.put p (.frz ob (.tup vs))) (upd H p (.frz ob (.tup vs))) := by
  obtain ⟨hb, ha⟩ := S.fresh h
  exact ⟨(S.alloc h).put upd_same hb ha, .tup (.inl ⟨ob, upd_same, d⟩) (Dqs.mono (Sub.new hb) _ _ q), (Step.alloc h).put h hb⟩
/-- a pair that is walked over -/
theorem Sim.newP {K : PySem.W.Frag} {W : Wd} {s : PSt} {σ : L2.St} {H : Hp} {p : Addr} {vs : List V} (S : Sim K W s σ H) (h : H p = none) :
    Sim K (W.put p (.tup vs)) s σ (upd H p (.tup vs)) ∧ Step W H (W.put p (.tup vs)) (upd H p (.tup vs)) := by
  obtain ⟨hb, ha⟩ := S.fresh h
  exact ⟨(S.alloc h).put upd_same hb ha, (Step.alloc h).put h hb⟩
theorem opost_of {K : PySem.W.Frag} {W0 W : Wd} {H0 H : Hp} {s : PSt} {σ : L2.St} {o : OpO} {Q : VK} (S : Sim K W s σ H) (st : Step W0 H0 W H) (h : PO K (RR K) W0 H0 σ Q o.rv s) : OPost K W.B H o Q := by
  cases o with
  | d z =>
    refine ⟨fun v q => h v W H st S q, fun vs zs e q p ob hp hd => ?_⟩
    subst e
    obtain ⟨S1, q1, st1⟩ := S.newT hp hd q
    exact h _ _ _ (st.trans st1) S1 q1
  | f xs =>
    intro p vs hp q
    obtain ⟨hb, ha⟩ := S.fresh hp
    exact h _ W _ (st.trans (Step.alloc hp)) (S.alloc hp) ⟨p, vs, rfl, st.trk p hp, hb, ha, upd_same, q⟩

/-! ### two-place operators -/
def rBin (K : PySem.W.Frag) (f : D → D → Option OpO) : R2 := fun v u H Q => ∃ B x y o, Sub B H ∧ Rdv K B H v x ∧ Rdv K B H u y ∧ f x y = some o ∧ OPost K B H o Q
theorem rep_same {vs : List V} {xs : List D} {k : Nat} (h : vs.length = xs.length) (w : (List.replicate k vs).flatten = vs) : (List.replicate k xs).flatten = xs := by
  have e := congrArg List.length w
  rw [rep_len] at e
  by_cases z : vs.length = 0
  · have : xs = [] := List.eq_nil_of_length_eq_zero (h.symm.trans z)
    subst this
    simp
  · have : k = 1 := Nat.eq_of_mul_eq_mul_right (Nat.pos_of_ne_zero z) (by rw [e, Nat.one_mul])
    subst this
    simp
theorem dl_rep {K : PySem.W.Frag} {B : Hp} {vs : List V} {xs : List D} (h : Dqs K B vs xs) : ∀ k : Nat, Dqs K B (List.replicate k vs).flatten (List.replicate k xs).flatten
  | 0 => .nil
  | k + 1 => by
    rw [List.replicate_succ, List.replicate_succ, List.flatten_cons, List.flatten_cons]
    exact dl_app h (dl_rep h k)
section
variable {X : Cx}
theorem op_bin (op : Operator) : OpR X (binaryOp op) (rBin X.K (binO op)) := by
  intro pins s σ H v u uv uu Q I rv ru ⟨B, x, y, o, sb, rx, ry, e, q⟩
  unfold binO at e
  split at e
  · cases e
    obtain rfl := rx.int; obtain rfl := ry.int
    exact op_add pins s σ H _ _ uv uu Q I rv ru ⟨_, _, rfl, rfl, q.1 _ (.int _)⟩
  · split at e
    · rename_i hf
      cases e
      obtain rfl := rx.str; obtain rfl := ry.str
      exact op_add_str pins s σ H _ _ uv uu Q I rv ru ⟨_, _, rfl, rfl, fits_le hf, q.1 _ (.str _)⟩
    · cases e
  · split at e
    · rename_i hf
      cases e
      obtain ⟨p, vs, rfl, h1, h2, h3⟩ := rx.tup sb
      obtain ⟨p', ws, rfl, g1, g2, g3⟩ := ry.tup sb
      refine op_catE pins s σ H _ _ uv uu Q I rv ru ⟨_, _, _, _, rfl, rfl, h1, g1, by rw [dl_len h2, dl_len g2]; exact fits_le hf, fun z => ?_, fun z => ?_, q.2 _ _ rfl (dl_app h2 g2)⟩
      · subst z
        cases h2
        exact q.1 _ g3
      · subst z
        cases g2
        rw [List.append_nil] at q
        exact q.1 _ h3
    · cases e
  · split at e
    · rename_i hf
      cases e
      obtain ⟨p, vs, rfl, h1, h2⟩ := rx.lst sb
      obtain ⟨p', ws, rfl, g1, g2⟩ := ry.lst sb
      exact op_catL pins s σ H _ _ uv uu Q I rv ru ⟨_, _, _, _, rfl, rfl, h1, g1, by rw [dl_len h2, dl_len g2]; exact fits_le hf, fun r hr => q r _ hr (dl_app h2 g2)⟩
    · cases e
  · cases e
    obtain rfl := rx.int; obtain rfl := ry.int
    exact op_sub pins s σ H _ _ uv uu Q I rv ru ⟨_, _, rfl, rfl, q.1 _ (.int _)⟩
  · cases e
    obtain rfl := rx.bool; obtain rfl := ry.int
    cases rv
    obtain ⟨t, rfl⟩ := ru
    exact PySem.IntBool.add_bool_int ⟨.int _, H, I.tok _, ⟨_, rfl⟩, q.1 _ (.int _)⟩
  · cases e
    obtain rfl := rx.int; obtain rfl := ry.bool
    cases ru
    obtain ⟨t, rfl⟩ := rv
    exact add_int_bool ⟨.int _, H, I.tok _, ⟨_, rfl⟩, q.1 _ (.int _)⟩
  · cases e
    obtain rfl := rx.bool; obtain rfl := ry.int
    cases rv
    obtain ⟨t, rfl⟩ := ru
    exact PySem.IntBool.sub_bool_int ⟨.int _, H, I.tok _, ⟨_, rfl⟩, q.1 _ (.int _)⟩
  · cases e
    obtain rfl := rx.int; obtain rfl := ry.bool
    cases ru
    obtain ⟨t, rfl⟩ := rv
    exact PySem.IntBool.sub_int_bool ⟨.int _, H, I.tok _, ⟨_, rfl⟩, q.1 _ (.int _)⟩
  · split at e
    · rename_i hf
      cases e
      obtain rfl := ry.int
      obtain ⟨f1, f2, f3⟩ := mulOk_io hf
      obtain ⟨p, vs, rfl, h1, h2⟩ := rx.lst sb
      exact op_mulL pins s σ H _ _ uv uu Q I rv ru ⟨_, _, _, rfl, rfl, h1, f2, f3, by rw [dl_len h2]; exact f1, fun r hr => q r _ hr (dl_rep h2 _)⟩
    · cases e
  · split at e
    · rename_i hf
      cases e
      obtain rfl := ry.int
      obtain ⟨f1, f2, f3⟩ := mulOk_io hf
      obtain ⟨p, vs, rfl, h1, h2, h3⟩ := rx.tup sb
      refine op_mulT pins s σ H _ _ uv uu Q I rv ru ⟨_, _, _, rfl, rfl, h1, f2, f3, by rw [dl_len h2]; exact f1, fun w => q.1 _ ?_, q.2 _ _ rfl (dl_rep h2 _)⟩
      rw [rep_same (dl_len h2) w]
      exact h3
    · cases e
  · split at e
    · rename_i hf
      cases e
      obtain rfl := rx.int; obtain rfl := ry.int
      refine op_mul pins s σ H _ _ uv uu Q I rv ru ⟨_, _, rfl, rfl, ?_, q.1 _ (.int _)⟩
      rcases Bool.or_eq_true_iff.mp hf with h | h
      · exact .inl (big_io h)
      · exact .inr (big_io h)
    · cases e
  · split at e
    · rename_i hf
      cases e
      obtain rfl := rx.int; obtain rfl := ry.int
      exact op_fdiv pins s σ H _ _ uv uu Q I rv ru ⟨_, _, rfl, rfl, (fd_io (of_decide_eq_true hf)), q.1 _ (.int _)⟩
    · cases e
  · split at e
    · rename_i hf
      cases e
      obtain rfl := rx.int; obtain rfl := ry.int
      exact op_mod pins s σ H _ _ uv uu Q I rv ru ⟨_, _, rfl, rfl, of_decide_eq_true hf, q.1 _ (.int _)⟩
    · cases e
  · split at e
    · rename_i hf
      cases e
      obtain rfl := rx.int; obtain rfl := ry.int
      exact op_pow pins s σ H _ _ uv uu Q I rv ru ⟨_, _, rfl, rfl, (pw_io (of_decide_eq_true hf)), q.1 _ (.int _)⟩
    · cases e
  · cases e

/-! ### comparisons -/
def rCmp (K : PySem.W.Frag) (op : CmpOp) : R2 := fun v u H Q => ∃ B x y b, Sub B H ∧ Rdv K B H v x ∧ Rdv K B H u y ∧ cmpO op x y = some b ∧ Q (.bl b) H
theorem strs2_of {x y : D} (h : strs2 x y = true) : ∃ i j, x = .str i ∧ y = .str j := by
  unfold strs2 at h
  split at h
  · exact ⟨_, _, rfl, rfl⟩
  · cases h
theorem eqO_some {x y : D} {b : Bool} (h : eqO x y = some b) : (∃ i j, x = .str i ∧ y = .str j ∧ b = (i == j)) ∨ (SeqAt.shaped x = true ∧ SeqAt.shaped y = true ∧ b = PyData.eqv x y ∧ noD x = true ∧ noD y = true) := by
  unfold eqO at h
  split at h
  · rename_i q
    rcases Bool.or_eq_true_iff.mp q with q | q
    · obtain ⟨i, j, rfl, rfl⟩ := strs2_of q
      refine .inl ⟨i, j, rfl, rfl, ?_⟩
      rw [← Option.some.inj h]
      simp only [PyData.eqv]
    · obtain ⟨q, q2⟩ := Bool.and_eq_true_iff.mp q
      obtain ⟨q, q1⟩ := Bool.and_eq_true_iff.mp q
      obtain ⟨q3, q4⟩ := Bool.and_eq_true_iff.mp q
      exact .inr ⟨q1, q2, (Option.some.inj h).symm, q3, q4⟩
  · cases h
theorem canAll_of {ds : List D} (h : SeqAt.shaped (.tuple ds) = true) : PyData.canLayAll0 ds = true := SeqAt.canLay_of_shaped h
theorem op_inX (hu : X.A.units + 65 < cLine) {v u : V} {uv uu : Value} {H : Hp} {pins : List (Addr × Obj)} {s : Shared} {σ : L2.St} {Q : VK} (I : Inv X pins σ H s) (rv : RelV v uv) (ru : RelV u uu) {B : Hp} (sb : Sub B H) {x y : D} {b : Bool} (rx : Rdv X.K B H v x) (ry : Rdv X.K B H u y) (e : inO x y = some b) (q : Q (.bl b) H) :
    wpAny (model X.prog X.w) X.A (compareOp .In uv uu) (EP X pins σ Q) X.xe s := by
  unfold inO at e
  split at e
  · split at e
    · rename_i z
      obtain ⟨z, z2⟩ := Bool.and_eq_true_iff.mp z
      obtain ⟨z0, z1⟩ := Bool.and_eq_true_iff.mp z
      have hx := rx.dp sb z0
      have hy := ry.dp sb rfl
      cases e
      exact op_inD hu pins s σ H _ _ uv uu Q I rv ru ⟨_, _, hx, hy, z1, z2, q⟩
    · cases e
  · split at e
    · rename_i z
      obtain ⟨z, z2⟩ := Bool.and_eq_true_iff.mp z
      obtain ⟨z0, z1⟩ := Bool.and_eq_true_iff.mp z
      have hx := rx.dp sb z0
      have hy := ry.dp sb rfl
      cases e
      obtain ⟨as, r1⟩ := Dp.reads I x v uv hx rv
      obtain ⟨bs, r2⟩ := Dp.reads I (.tuple _) u uu hy ru
      exact SeqAt.in_tuple_reads r2 r1 (canAll_of z2) (SeqAt.canLay_of_shaped z1) (PyProof.Rows.room_in_shaped z1 hu) ⟨.bl _, H, I, rfl, q⟩
    · cases e
  · split at e
    · rename_i hk
      cases e
      obtain ⟨k, hk⟩ := Option.isSome_iff_exists.mp hk
      obtain rfl := rx.key hk
      obtain ⟨p, es, rfl, hH, hd⟩ := ry.dic
      obtain rfl : uu = Value.ref p := ru
      refine d_in (by omega) I (DGet.k (k := k) hH) rv fun s3 I3 => ⟨.bl _, H, I3, rfl, ?_⟩
      rw [kv_some hk hd]
      exact q
    · cases e
  · cases e
theorem op_notInX (hu : X.A.units + 65 < cLine) {v u : V} {uv uu : Value} {H : Hp} {pins : List (Addr × Obj)} {s : Shared} {σ : L2.St} {Q : VK} (I : Inv X pins σ H s) (rv : RelV v uv) (ru : RelV u uu) {B : Hp} (sb : Sub B H) {x y : D} {b : Bool} (rx : Rdv X.K B H v x) (ry : Rdv X.K B H u y) (e : inO x y = some b) (q : Q (.bl (!b)) H) :
    wpAny (model X.prog X.w) X.A (compareOp .NotIn uv uu) (EP X pins σ Q) X.xe s := by
  unfold inO at e
  split at e
  · split at e
    · rename_i z
      obtain ⟨z, z2⟩ := Bool.and_eq_true_iff.mp z
      obtain ⟨z0, z1⟩ := Bool.and_eq_true_iff.mp z
      have hx := rx.dp sb z0
      have hy := ry.dp sb rfl
      cases e
      exact op_notInD hu pins s σ H _ _ uv uu Q I rv ru ⟨_, _, hx, hy, z1, z2, q⟩
    · cases e
  · split at e
    · rename_i z
      obtain ⟨z, z2⟩ := Bool.and_eq_true_iff.mp z
      obtain ⟨z0, z1⟩ := Bool.and_eq_true_iff.mp z
      have hx := rx.dp sb z0
      have hy := ry.dp sb rfl
      cases e
      obtain ⟨as, r1⟩ := Dp.reads I x v uv hx rv
      obtain ⟨bs, r2⟩ := Dp.reads I (.tuple _) u uu hy ru
      exact SeqAt.notIn_tuple_reads r2 r1 (canAll_of z2) (SeqAt.canLay_of_shaped z1) (PyProof.Rows.room_in_shaped z1 hu) ⟨.bl _, H, I, rfl, q⟩
    · cases e
  · split at e
    · rename_i hk
      cases e
      obtain ⟨k, hk⟩ := Option.isSome_iff_exists.mp hk
      obtain rfl := rx.key hk
      obtain ⟨p, es, rfl, hH, hd⟩ := ry.dic
      obtain rfl : uu = Value.ref p := ru
      refine d_notIn (by omega) I (DGet.k (k := k) hH) rv fun s3 I3 => ⟨.bl _, H, I3, rfl, ?_⟩
      rw [kv_some hk hd]
      exact q
    · cases e
  · cases e
theorem Rdv.isN {K : PySem.W.Frag} {B H : Hp} {v : V} : ∀ {x : D}, Rdv K B H v x → decide (v = .non) = isNone x
  | _, .d .non => rfl
  | _, .d (.bl _) => rfl
  | _, .d (.int _) => rfl
  | _, .d (.str _) => rfl
  | _, .d (.lst _ _) => rfl
  | _, .d (.tup _ _) => rfl
  | _, .r _ _ => rfl
  | _, .g _ _ => rfl
theorem op_cmp (hu : X.A.units + 65 < cLine) (op : CmpOp) : OpR X (compareOp op) (rCmp X.K op) := by
  intro pins s σ H v u uv uu Q I rv ru ⟨B, x, y, b, sb, rx, ry, e, q⟩
  unfold cmpO at e
  split at e
  · rcases eqO_some e with ⟨i, j, rfl, rfl, rfl⟩ | ⟨e1, e2, rfl, n1, n2⟩
    · obtain rfl := rx.str; obtain rfl := ry.str
      exact op_eq pins s σ H _ _ uv uu Q I rv ru ⟨rfl, by rw [dec_str]; exact q⟩
    · exact op_eqD (by omega) pins s σ H _ _ uv uu Q I rv ru ⟨_, _, rx.dp sb n1, ry.dp sb n2, e1, e2, q⟩
  · obtain ⟨c, e0, rfl⟩ := Option.map_eq_some_iff.mp e
    rcases eqO_some e0 with ⟨i, j, rfl, rfl, rfl⟩ | ⟨e1, e2, rfl, n1, n2⟩
    · obtain rfl := rx.str; obtain rfl := ry.str
      exact op_ne pins s σ H _ _ uv uu Q I rv ru ⟨rfl, by rw [dec_str]; exact q⟩
    · exact op_neD (by omega) pins s σ H _ _ uv uu Q I rv ru ⟨_, _, rx.dp sb n1, ry.dp sb n2, e1, e2, q⟩
  · exact op_inX hu I rv ru sb rx ry e q
  · obtain ⟨c, e0, rfl⟩ := Option.map_eq_some_iff.mp e
    exact op_notInX hu I rv ru sb rx ry e0 q
  · cases e
    obtain rfl := ry.none
    exact op_isN pins s σ H _ _ uv uu Q I rv ru ⟨rfl, by rw [rx.isN]; exact q⟩
  · cases e
    obtain rfl := ry.none
    exact op_notN pins s σ H _ _ uv uu Q I rv ru ⟨rfl, by rw [rx.isN]; exact q⟩
  · cases e
    obtain rfl := rx.int; obtain rfl := ry.int
    exact op_lt pins s σ H _ _ uv uu Q I rv ru ⟨_, _, rfl, rfl, q⟩
  · cases e
    obtain rfl := rx.str; obtain rfl := ry.str
    exact op_lt_str pins s σ H _ _ uv uu Q I rv ru ⟨_, _, rfl, rfl, q⟩
  · cases e
    obtain rfl := rx.int; obtain rfl := ry.int
    exact op_le pins s σ H _ _ uv uu Q I rv ru ⟨_, _, rfl, rfl, q⟩
  · cases e
    obtain rfl := rx.int; obtain rfl := ry.int
    exact op_gt pins s σ H _ _ uv uu Q I rv ru ⟨_, _, rfl, rfl, q⟩
  · cases e
    obtain rfl := rx.int; obtain rfl := ry.int
    exact op_ge pins s σ H _ _ uv uu Q I rv ru ⟨_, _, rfl, rfl, q⟩
  · cases e

/-! ### an item, a cut -/
theorem dl_at {K : PySem.W.Frag} {B : Hp} {vs : List V} {xs : List D} {i : Int} {x : D} (h : Dqs K B vs xs) (e : atI xs i = some x) : ∃ v, atI vs i = some v ∧ Dq K B v x := by
  unfold atI at e ⊢
  rw [dl_len h]
  cases q : ixN xs.length i with
  | none => rw [q] at e; cases e
  | some j =>
    rw [q] at e
    exact dl_get h e
theorem ix_D : IxR X (rBin X.K (fun x i => (ixO x i).map .d)) := by
  intro value slice pins s σ H v u uv uu Q I rv ru ⟨B, x, y, o, sb, rx, ry, e, q⟩ hs
  obtain ⟨z, e1, rfl⟩ := Option.map_eq_some_iff.mp e
  clear e
  have e := e1
  unfold ixO at e
  split at e
  · obtain rfl := ry.int
    obtain ⟨p, vs, rfl, h1, h2⟩ := rx.lst sb
    obtain ⟨w, e1, e2⟩ := dl_at h2 e
    exact ix_list value slice pins s σ H _ _ uv uu Q I rv ru ⟨_, _, _, _, rfl, rfl, h1, e1, q.1 _ e2⟩ hs
  · obtain rfl := ry.int
    obtain ⟨p, vs, rfl, h1, h2, _⟩ := rx.tup sb
    obtain ⟨w, e1, e2⟩ := dl_at h2 e
    exact ix_tup value slice pins s σ H _ _ uv uu Q I rv ru ⟨_, _, _, _, rfl, rfl, h1, e1, q.1 _ e2⟩ hs
  · split at e
    · rename_i hf
      obtain ⟨c, e2, rfl⟩ := Option.map_eq_some_iff.mp e
      obtain rfl := rx.str; obtain rfl := ry.int
      exact ix_str value slice pins s σ H _ _ uv uu Q I rv ru ⟨_, _, _, rfl, rfl, fits_le hf, e2, q.1 _ (.str _)⟩ hs
    · cases e
  · split at e
    · rename_i hk
      obtain ⟨k, hk⟩ := Option.isSome_iff_exists.mp hk
      obtain rfl := ry.key hk
      obtain ⟨p, es, rfl, hH, hd⟩ := rx.dic
      rcases kv_find hk hd with ⟨_, f⟩ | ⟨w, d, f1, f2, f3⟩
      · rw [f] at e; cases e
      · rw [f2] at e
        cases e
        exact ix_dic value slice pins s σ H _ _ uv uu Q I rv ru ⟨p, es, k, w, rfl, hH, rfl, f1, q.1 _ f3⟩ hs
    · cases e
  · cases e
theorem dl_cut {K : PySem.W.Frag} {B : Hp} {vs : List V} {xs : List D} (h : Dqs K B vs xs) (lo hi : Option Int) : Dqs K B (cutV vs lo hi) (cutD xs lo hi) := by
  unfold cutV cutD
  rw [dl_len h]
  exact dl_take _ (dl_drop _ h)
def rCut (K : PySem.W.Frag) : V → Option Int → Option Int → Hp → VK → Prop := fun v lo hi H Q => ∃ B x o, Sub B H ∧ Rdv K B H v x ∧ slO x lo hi = some o ∧ OPost K B H o Q
theorem cut_whole {xs : List D} {lo hi : Option Int} (h : HT.sIx xs.length 0 lo = 0 ∧ HT.sIx xs.length xs.length hi = xs.length) : cutD xs lo hi = xs := by
  unfold cutD
  rw [h.1, h.2]
  simp
theorem sl_D : SlR X (rCut X.K) := by
  intro pins s σ H v uv vl vu lo hi sl Q I rv hs pl pu ⟨B, x, o, sb, rx, e, q⟩
  unfold slO at e
  split at e
  · cases e
    obtain ⟨p, vs, rfl, h1, h2⟩ := rx.lst sb
    exact sl_list pins s σ H _ uv vl vu lo hi sl Q I rv hs pl pu ⟨_, _, rfl, h1, fun p hp => q p _ hp (dl_cut h2 lo hi)⟩
  · cases e
    obtain ⟨p, vs, rfl, h1, h2, h3⟩ := rx.tup sb
    refine sl_tupE pins s σ H _ uv vl vu lo hi sl Q I rv hs pl pu ⟨_, _, rfl, h1, fun w => ?_, q.2 _ _ rfl (dl_cut h2 lo hi)⟩
    rw [dl_len h2] at w
    rw [cut_whole w] at q
    exact q.1 _ h3
  · split at e
    · rename_i hf
      cases e
      obtain rfl := rx.str
      exact sl_str pins s σ H _ uv vl vu lo hi sl Q I rv hs pl pu ⟨_, rfl, fits_le hf, q.1 _ (.str _)⟩
    · cases e
  · cases e
end
end Pd

set_option Elab.async false
set_option linter.all false
set_option maxRecDepth 100000
set_option maxHeartbeats 2000000
/-! Each form of an expression keeps to its reading. -/
namespace Pd
open PySem L2
section
variable {X : Cx} {xo : XO} {a b c e : Expr} {ma mb mc : M RV} {pos : Pos}
theorem kx0 {K : PySem.W.Frag} {xo : XO} {W : Wd} {H : Hp} {σ : L2.St} : ∀ x s1, PXO K xo W H σ x s1 → PXO K xo W H σ x s1 := fun _ _ h => h

/-! ### constants -/
theorem tr_ret {K : PySem.W.Frag} {x : D} {v : V} (hv : ∀ B, Dq K B v x) : ∀ σ H Q, T K xo (ret x) σ H Q → tC v σ H Q := fun σ H Q ⟨W, s, S, h⟩ => (wp_pure h) v W H .rfl' S (hv _)
theorem sd_const {k : Nat} {c : Const} : PE X (.Constant c k pos) (T X.K xo (match c with
      | .int i => ret (.int i)
      | .bool b => ret (.bool b)
      | .none => ret .none
      | .str z => ret (.str z)
      | _ => M.fail)) := by
  cases c with
  | int i => exact pe_int.weak (tr_ret fun _ => .int i)
  | bool i => exact pe_bl.weak (tr_ret fun _ => .bl i)
  | none => exact pe_non.weak (tr_ret fun _ => .non)
  | str i => exact pe_str.weak (tr_ret fun _ => .str i)
  | _ => exact ⟨fun pins s σ H Q I ⟨W, st, S, h⟩ => h.elim⟩
/-! ### two places -/
theorem tr_two {K : PySem.W.Frag} {f : C → C → M RV} {r : R2} {σ : L2.St} {H : Hp} {Q : VK} (h : T K xo (M.bind (asC ma) fun c1 => M.bind (asC mb) fun c2 => f c1 c2) σ H Q)
    (k : ∀ (W0 : Wd) (c1 c2 : C) (s : PSt) (W1 W : Wd) (H1 H2 : Hp) (v u : V), Sim K W s σ H2 → Step W1 H1 W H2 → Step W0 H W1 H1 → CRep K W1 v c1 → CRep K W u c2 → wpM (f c1 c2) s (PO K (RR K) W0 H σ Q) (PXO K xo W0 H σ) → r v u H2 Q) :
    tOp r (T K xo ma) (T K xo mb) σ H Q := by
  obtain ⟨W, s, S, h⟩ := h
  refine tr_asC ⟨W, s, S, wp_bind h (fun c1 s1 h1 v W1 H1 st1 S1 r1 => ?_) kx0⟩
  refine tr_asC ⟨W1, s1, S1, wp_bind h1 (fun c2 s2 h2 u W2 H2 st2 S2 r2 => ?_) fun x s q => PXO.later st1 _ _ q⟩
  exact k W c1 c2 s2 W1 W2 H1 H2 v u S2 st2 st1 r1 r2 h2
theorem tr_bin {K : PySem.W.Frag} {f : D → D → Option OpO} (σ : L2.St) (H : Hp) (Q : VK) (h : T K xo (M.bind (asC ma) fun c1 => M.bind (asC mb) fun c2 => M.bind (rdM c1) fun x => M.bind (rdM c2) fun y => opM (f x y)) σ H Q) :
    tOp (rBin K f) (T K xo ma) (T K xo mb) σ H Q := by
  refine tr_two h fun W0 c1 c2 s W1 W H1 H2 v u S st st0 r1 r2 h => ?_
  obtain ⟨x, ex, h⟩ := wp_bindR h
  obtain ⟨y, ey, h⟩ := wp_bindR h
  obtain ⟨o, eo, h⟩ := wp_bindO h
  exact ⟨W.B, x, y, o, S.sub, S.rd (st.cell S r1 ex) ex, S.rd r2 ey, eo, opost_of S (st0.trans st) h⟩
theorem sd_bin {op : Operator} (ha : PE X a (T X.K xo ma)) (hb : PE X b (T X.K xo mb)) : PE X (.BinOp a op b pos) (T X.K xo (binM op ma mb)) := (pe_op (op_bin op) ha hb).weak tr_bin
theorem tr_cmp {K : PySem.W.Frag} {op : CmpOp} (σ : L2.St) (H : Hp) (Q : VK) (h : T K xo (cmpM op ma mb) σ H Q) : tOp (rCmp K op) (T K xo ma) (T K xo mb) σ H Q := by
  refine tr_two h fun W0 c1 c2 s W1 W H1 H2 v u S st st0 r1 r2 h => ?_
  obtain ⟨x, ex, h⟩ := wp_bindR h
  obtain ⟨y, ey, h⟩ := wp_bindR h
  obtain ⟨o, eo, h⟩ := wp_bindO h
  exact ⟨W.B, x, y, o, S.sub, S.rd (st.cell S r1 ex) ex, S.rd r2 ey, eo, (wp_pure h) _ W H2 (st0.trans st) S (.bl o)⟩
theorem sd_cmp {op : CmpOp} (hu : X.A.units + 65 < cLine) (ha : PE X a (T X.K xo ma)) (hb : PE X b (T X.K xo mb)) (hm : behindInMarks op b = false) : PE X (.Compare a [op] [b] pos) (T X.K xo (cmpM op ma mb)) := (pe_cmpR (op_cmp hu op) ha hb hm).weak tr_cmp
theorem PlainIx.of {i : Expr} (h : plainIx i = true) : PlainIx i := by
  intro o v
  cases i <;> first | rfl | cases h
theorem sd_ix (ha : PE X a (T X.K xo ma)) (hb : PE X b (T X.K xo mb)) (hs : plainIx b = true) : PE X (.Subscript a b pos) (T X.K xo (ixM ma mb)) := (pe_ix ix_D ha hb (PlainIx.of hs)).weak tr_bin
/-! ### tests -/
def TB (K : PySem.W.Frag) (xo : XO) (m : M Bool) : TT := fun σ H Q => Tr K xo RB m σ H Q
theorem boolM_c {r : RV} {s : PSt} {P : Bool → PSt → Prop} {PX : Xn → PSt → Prop} (h : wpM (boolM r) s P PX) : ∃ b, r = .c (.d (.bool b)) ∧ P b s := by
  unfold boolM at h
  split at h
  · exact ⟨_, rfl, h⟩
  · exact h.elim
theorem intM_c {r : RV} {s : PSt} {P : Int → PSt → Prop} {PX : Xn → PSt → Prop} (h : wpM (intM r) s P PX) : ∃ b, r = .c (.d (.int b)) ∧ P b s := by
  unfold intM at h
  split at h
  · exact ⟨_, rfl, h⟩
  · exact h.elim
theorem dq_bl {K : PySem.W.Frag} {B : Hp} {v : V} {b : Bool} (h : Dq K B v (.bool b)) : v = .bl b := by cases h; rfl
theorem dq_int {K : PySem.W.Frag} {B : Hp} {v : V} {b : Int} (h : Dq K B v (.int b)) : v = .int b := by cases h; rfl
/-- a value that is a truth -/
theorem tr_bool {K : PySem.W.Frag} {m : M RV} {σ : L2.St} {H : Hp} {Q : Bool → Hp → Prop} (h : TB K xo (M.bind m boolM) σ H Q) : T K xo m σ H (fun v H' => ∃ b, v = .bl b ∧ Q b H') := by
  obtain ⟨W, s, S, h⟩ := h
  refine ⟨W, s, S, wp_bind h (fun r s1 h1 v W1 H1 st S1 rr => ?_) kx0⟩
  obtain ⟨b, rfl, h1⟩ := boolM_c h1
  exact ⟨b, dq_bl rr, h1 b W1 H1 st S1 rfl⟩
theorem sd_tval {m : M RV} (h : PE X e (T X.K xo m)) (hp : plainT e = true) : PT X e (TB X.K xo (M.bind m boolM)) := by
  have he : ∀ whole, isTrue e X.env whole = (do let v ← whole; standAt e.pos; holding [v] (truthy v)) := by
    intro w
    cases e <;> first | rfl | cases hp | (rename_i op _ _; cases op <;> first | rfl | cases hp)
  exact (pt_val h he).weak fun σ H Q q => tr_bool q
theorem sd_tcmp {op : CmpOp} (hu : X.A.units + 65 < cLine) (ha : PE X a (T X.K xo ma)) (hb : PE X b (T X.K xo mb)) (hm : behindInMarks op b = false) : PT X (.Compare a [op] [b] pos) (TB X.K xo (M.bind (cmpM op ma mb) boolM)) :=
  (pt_cmpR (op_cmp hu op) ha hb hm).weak fun σ H Q q => tr_cmp σ H _ (tr_bool q)
theorem sd_tnot {t : M Bool} (h : PT X a (TB X.K xo t)) : PT X (.UnaryOp .Not a pos) (TB X.K xo (M.bind t fun b => M.pure (!b))) := (pt_not h).weak fun σ H Q ⟨W, s, S, q⟩ => ⟨W, s, S, wp_bind q (fun b s1 h1 v W1 H1 st S1 e => by
  cases (show b = v from e)
  exact (wp_pure h1) _ W1 H1 st S1 rfl) kx0⟩
/-- what is left to do from here is to do from there -/
theorem tr_go {α β : Type} {K : PySem.W.Frag} {R : Rel α β} (hR : ∀ a b W' H' H1 H, (∀ p, H1 p = none → H p = none) → R a b W' H' H1 → R a b W' H' H) {m : M α} {W W1 : Wd} {s1 : PSt} {σ : L2.St} {H H1 : Hp} {Q : β → Hp → Prop} (st : Step W H W1 H1) (S1 : Sim K W1 s1 σ H1)
    (h : wpM m s1 (PO K R W H σ Q) (PXO K xo W H σ)) : Tr K xo R m σ H1 Q :=
  ⟨W1, s1, S1, wp_imp h (fun a s2 q b W2 H2 st2 S2 r => q b W2 H2 (st.trans st2) S2 (hR _ _ _ _ _ _ st.trk r)) fun x s q => PXO.later st _ _ q⟩
theorem rr_back {K : PySem.W.Frag} (a : RV) (b : V) (W' : Wd) (H' H1 H : Hp) (t : ∀ p, H1 p = none → H p = none) (h : RR K a b W' H' H1) : RR K a b W' H' H := by
  cases a with
  | c c => exact h
  | f xs =>
    obtain ⟨p, vs, e, n, r⟩ := h
    exact ⟨p, vs, e, t p n, r⟩
  | g xs =>
    obtain ⟨p, vs, e, n, r⟩ := h
    exact ⟨p, vs, e, t p n, r⟩
theorem rb_back (a : Bool) (b : Bool) (W' : Wd) (H' H1 H : Hp) (_ : ∀ p, H1 p = none → H p = none) (h : RB a b W' H' H1) : RB a b W' H' H := h
theorem tr_bind {α β γ δ : Type} {K : PySem.W.Frag} {R : Rel α β} {R1 : Rel γ δ} {m : M γ} {f : γ → M α} {σ : L2.St} {H : Hp} {Q : β → Hp → Prop} {Q1 : δ → Hp → Prop} (h : Tr K xo R (M.bind m f) σ H Q)
    (k : ∀ (W : Wd) (g : γ) (s1 : PSt) (d : δ) (W1 : Wd) (H1 : Hp), Step W H W1 H1 → Sim K W1 s1 σ H1 → R1 g d W1 H1 H → wpM (f g) s1 (PO K R W H σ Q) (PXO K xo W H σ) → Q1 d H1) : Tr K xo R1 m σ H Q1 := by
  obtain ⟨W, s, S, h⟩ := h
  exact ⟨W, s, S, wp_bind h (fun g s1 h1 d W1 H1 st S1 r => k W g s1 d W1 H1 st S1 r h1) kx0⟩
theorem sd_if {t : M Bool} (hc : PT X c (TB X.K xo t)) (ha : PE X a (T X.K xo ma)) (hb : PE X b (T X.K xo mb)) : PE X (.IfExp c a b pos) (T X.K xo (M.bind t fun q => ifRV q ma mb)) := by
  refine (pe_ifExp hc ha hb).weak fun σ H Q h => tr_bind h fun W g s1 d W1 H1 st S1 e h1 => ?_
  cases (show g = d from e)
  cases g with
  | true => exact iteT (tr_go rr_back st S1 h1)
  | false => exact iteF (tr_go rr_back st S1 h1)
theorem sd_tand {t u : M Bool} {r : List Expr} (ha : PT X a (TB X.K xo t)) (hb : PW X (.BoolOp .And (b :: r) pos) (TB X.K xo u)) : PW X (.BoolOp .And (a :: b :: r) pos) (TB X.K xo (M.bind t fun q => if q then u else M.pure false)) := by
  refine ⟨fun wh pins s σ H Q I h => (pw_and ha hb).run wh pins s σ H Q I ?_⟩
  refine tr_bind h fun W g s1 d W1 H1 st S1 e h1 => ?_
  cases (show g = d from e)
  cases g with
  | true => exact iteT (tr_go rb_back st S1 h1)
  | false => exact iteF ((wp_pure h1) _ W1 H1 st S1 rfl)
theorem sd_tor {t u : M Bool} {r : List Expr} (ha : PT X a (TB X.K xo t)) (hb : PW X (.BoolOp .Or (b :: r) pos) (TB X.K xo u)) : PW X (.BoolOp .Or (a :: b :: r) pos) (TB X.K xo (M.bind t fun q => if q then M.pure true else u)) := by
  refine ⟨fun wh pins s σ H Q I h => (pw_or ha hb).run wh pins s σ H Q I ?_⟩
  refine tr_bind h fun W g s1 d W1 H1 st S1 e h1 => ?_
  cases (show g = d from e)
  cases g with
  | true => exact iteT ((wp_pure h1) _ W1 H1 st S1 rfl)
  | false => exact iteF (tr_go rb_back st S1 h1)
theorem tr_unit {K : PySem.W.Frag} {t : M Bool} (f : Bool → M Bool) (hf : ∀ b, f b = M.pure b) (σ : L2.St) (H : Hp) (Q : Bool → Hp → Prop) (h : TB K xo (M.bind t f) σ H Q) : TB K xo t σ H Q :=
  tr_bind h fun W g s1 d W1 H1 st S1 e h1 => by
    cases (show g = d from e)
    rw [hf] at h1
    exact (wp_pure h1) _ W1 H1 st S1 rfl
theorem sd_tands {n : Expr → M Bool} : ∀ (vs : List Expr), (∀ v ∈ vs, PT X v (TB X.K xo (n v))) → vs ≠ [] → PW X (.BoolOp .And vs pos) (TB X.K xo (allT (vs.map n)))
  | [], _, h => absurd rfl h
  | [v], h, _ => ⟨fun wh pins s σ H Q I q => (pw_and1 (h v (.head _))).run wh pins s σ H Q I (tr_unit _ (fun b => by cases b <;> rfl) σ H Q q)⟩
  | v :: w :: r, h, _ => sd_tand (h v (.head _)) (sd_tands (w :: r) (fun x m => h x (.tail _ m)) (fun e => nomatch e))
theorem sd_tors {n : Expr → M Bool} : ∀ (vs : List Expr), (∀ v ∈ vs, PT X v (TB X.K xo (n v))) → vs ≠ [] → PW X (.BoolOp .Or vs pos) (TB X.K xo (anyT (vs.map n)))
  | [], _, h => absurd rfl h
  | [v], h, _ => ⟨fun wh pins s σ H Q I q => (pw_or1 (h v (.head _))).run wh pins s σ H Q I (tr_unit _ (fun b => by cases b <;> rfl) σ H Q q)⟩
  | v :: w :: r, h, _ => sd_tor (h v (.head _)) (sd_tors (w :: r) (fun x m => h x (.tail _ m)) (fun e => nomatch e))
/-! ### and, or, not, - as values -/
theorem sd_not (ha : PE X a (T X.K xo ma)) : PE X (.UnaryOp .Not a pos) (T X.K xo (M.bind (M.bind ma boolM) fun b => ret (.bool (!b)))) := by
  refine (pe_not ha).weak fun σ H Q h => ?_
  refine tr_bool (Q := fun b H1 => Q (.bl (!b)) H1) (tr_bind h fun W g s1 d W1 H1 st S1 e h1 => ?_)
  cases (show g = d from e)
  exact (wp_pure h1) _ W1 H1 st S1 (.bl _)
theorem tr_int {K : PySem.W.Frag} {m : M RV} {σ : L2.St} {H : Hp} {Q : Int → Hp → Prop} (h : Tr K xo (fun (a : Int) (b : Int) _ _ _ => a = b) (M.bind m intM) σ H Q) : T K xo m σ H (fun v H' => ∃ b, v = .int b ∧ Q b H') := by
  refine tr_bind h fun W r s1 v W1 H1 st S1 rr h1 => ?_
  obtain ⟨b, rfl, h1⟩ := intM_c h1
  exact ⟨b, dq_int rr, h1 b W1 H1 st S1 rfl⟩
theorem sd_neg (ha : PE X a (T X.K xo ma)) : PE X (.UnaryOp .USub a pos) (T X.K xo (M.bind (M.bind ma intM) fun b => ret (.int (-b)))) := by
  refine (pe_un un_neg ha).weak fun σ H Q h => ?_
  refine tr_int (Q := fun b H1 => Q (.int (-b)) H1) (tr_bind h fun W g s1 d W1 H1 st S1 e h1 => ?_)
  cases (show g = d from e)
  exact (wp_pure h1) _ W1 H1 st S1 (.int _)
theorem sd_and {r : List Expr} (ha : PE X a (T X.K xo ma)) (hb : PE X (.BoolOp .And (b :: r) pos) (T X.K xo mb)) : PE X (.BoolOp .And (a :: b :: r) pos) (T X.K xo (M.bind (M.bind ma boolM) fun q => if q then mb else ret (.bool false))) := by
  refine (pe_and ha hb).weak fun σ H Q h => ?_
  refine tr_bool (Q := fun q H1 => if q = true then T X.K xo mb σ H1 Q else Q (.bl false) H1) (tr_bind h fun W g s1 d W1 H1 st S1 e h1 => ?_)
  cases (show g = d from e)
  cases g with
  | true => exact iteT (tr_go rr_back st S1 h1)
  | false => exact iteF ((wp_pure h1) _ W1 H1 st S1 (.bl _))
theorem sd_or {r : List Expr} (ha : PE X a (T X.K xo ma)) (hb : PE X (.BoolOp .Or (b :: r) pos) (T X.K xo mb)) : PE X (.BoolOp .Or (a :: b :: r) pos) (T X.K xo (M.bind (M.bind ma boolM) fun q => if q then ret (.bool true) else mb)) := by
  refine (pe_or ha hb).weak fun σ H Q h => ?_
  refine tr_bool (Q := fun q H1 => if q = true then Q (.bl true) H1 else T X.K xo mb σ H1 Q) (tr_bind h fun W g s1 d W1 H1 st S1 e h1 => ?_)
  cases (show g = d from e)
  cases g with
  | true => exact iteT ((wp_pure h1) _ W1 H1 st S1 (.bl _))
  | false => exact iteF (tr_go rr_back st S1 h1)
theorem sd_ands {n : Expr → M RV} : ∀ (vs : List Expr), (∀ v ∈ vs, PE X v (T X.K xo (n v))) → vs ≠ [] → PE X (.BoolOp .And vs pos) (T X.K xo (andM (vs.map n)))
  | [], _, h => absurd rfl h
  | [v], h, _ => pe_one (h v (.head _))
  | v :: w :: r, h, _ => sd_and (h v (.head _)) (sd_ands (w :: r) (fun x m => h x (.tail _ m)) (fun e => nomatch e))
theorem sd_ors {n : Expr → M RV} : ∀ (vs : List Expr), (∀ v ∈ vs, PE X v (T X.K xo (n v))) → vs ≠ [] → PE X (.BoolOp .Or vs pos) (T X.K xo (orM (vs.map n)))
  | [], _, h => absurd rfl h
  | [v], h, _ => pe_one (h v (.head _))
  | v :: w :: r, h, _ => sd_or (h v (.head _)) (sd_ors (w :: r) (fun x m => h x (.tail _ m)) (fun e => nomatch e))
/-! ### a chain -/
theorem tr_chain {K : PySem.W.Frag} {op op' : CmpOp} (σ : L2.St) (H : Hp) (Q : VK) (h : T K xo (chainM op op' ma mb mc) σ H Q) : tChain (rCmp K op) (rCmp K op') (T K xo ma) (T K xo mb) (T K xo mc) σ H Q := by
  obtain ⟨W, s, S, h⟩ := h
  refine tr_asC ⟨W, s, S, wp_bind h (fun c1 s1 h1 v W1 H1 st1 S1 r1 => ?_) kx0⟩
  refine tr_asC ⟨W1, s1, S1, wp_bind h1 (fun c2 s2 h2 u W2 H2 st2 S2 r2 => ?_) fun x s q => PXO.later st1 _ _ q⟩
  obtain ⟨x, ex, h⟩ := wp_bindR h2
  obtain ⟨y, ey, h⟩ := wp_bindR h
  obtain ⟨o, eo, h⟩ := wp_bindO h
  refine ⟨W2.B, x, y, o, S2.sub, S2.rd (st2.cell S2 r1 ex) ex, S2.rd r2 ey, eo, o, rfl, ?_⟩
  cases o with
  | false => exact iteF ((wp_pure h) _ W2 H2 (st1.trans st2) S2 (.bl _))
  | true =>
    refine iteT (tr_asC ⟨W2, s2, S2, wp_bind h (fun c3 s3 h3 w W3 H3 st3 S3 r3 => ?_) fun x s q => PXO.later (st1.trans st2) _ _ q⟩)
    obtain ⟨y', ey', h⟩ := wp_bindR h3
    obtain ⟨z, ez, h⟩ := wp_bindR h
    obtain ⟨o', eo', h⟩ := wp_bindO h
    exact ⟨W3.B, y', z, o', S3.sub, S3.rd (st3.cell S3 r2 ey') ey', S3.rd r3 ez, eo', (wp_pure h) _ W3 H3 ((st1.trans st2).trans st3) S3 (.bl o')⟩
theorem sd_chain {op op' : CmpOp} (hu : X.A.units + 65 < cLine) (ha : PE X a (T X.K xo ma)) (hb : PE X b (T X.K xo mb)) (hc : PE X c (T X.K xo mc)) (hm : behindInMarks op b = false) (hm' : behindInMarks op' c = false) : PE X (.Compare a [op, op'] [b, c] pos) (T X.K xo (chainM op op' ma mb mc)) :=
  (pe_chain (op_cmp hu op) (op_cmp hu op') ha hb hc (by show behindInMarks op' c = false; exact hm')).weak tr_chain
theorem sd_tchain {op op' : CmpOp} (hu : X.A.units + 65 < cLine) (ha : PE X a (T X.K xo ma)) (hb : PE X b (T X.K xo mb)) (hc : PE X c (T X.K xo mc)) (hm : behindInMarks op b = false) (hm' : behindInMarks op' c = false) : PT X (.Compare a [op, op'] [b, c] pos) (TB X.K xo (M.bind (chainM op op' ma mb mc) boolM)) :=
  (pt_chain (op_cmp hu op) (op_cmp hu op') ha hb hc (by show behindInMarks op' c = false; exact hm')).weak fun σ H Q q => tr_chain σ H _ (tr_bool q)
end
end Pd

set_option Elab.async false
set_option linter.all false
set_option maxRecDepth 100000
set_option maxHeartbeats 2000000
namespace Pd
open PySem L2
section
variable {X : Cx} {xo : XO} {a b c e : Expr} {ma mb mc : M RV} {pos : Pos}

/-! ### names -/
theorem slot_get {N : List Str} {x : Str} {i : Nat} (h : slot N x = some i) : N[i]? = some x := by
  obtain ⟨h1, h2, _⟩ := List.findIdx?_eq_some_iff_getElem.mp h
  rw [List.getElem?_eq_getElem h1, of_decide_eq_true h2]
theorem vis_of {sc : Scope} {x : Str} (h : visB sc x = true) : Vis sc x := by
  unfold visB at h
  split at h <;> first | exact .inl (by assumption) | exact .inr (.inl (by assumption)) | exact .inr (.inr (by assumption)) | cases h
theorem loc_of {sc : Scope} {x : Str} (h : locB sc x = true) : Loc sc x := by
  unfold locB at h
  split at h <;> first | exact .inl (by assumption) | exact .inr (by assumption) | cases h
theorem gl_of {X : Cx} {x : Str} (h : glB X.env.scope x = true) : L2.Gl X x := by
  unfold glB at h
  split at h
  · assumption
  · cases h
theorem dbg_of {x : Str} (h : dbgB x = false) : (x == ("__debug__" : Str)) = false ∧ (x == ("__classdict__" : Str)) = false := Bool.or_eq_false_iff.mp h
theorem sd_name {G : Mdl} {N : List Str} {x : Str} (hN : X.N = N) (hcst : ∀ x d, G.cst x = some d → ∃ u v, X.mg x = some u ∧ RelV v u ∧ Dq X.K (fun _ => none) v d) : PE X (.Name x pos) (T X.K xo (nameM G N X.env.scope x)) := by
  refine ⟨fun pins s σ H Q I ⟨W, st, S, h⟩ => ?_⟩
  unfold wpM nameM at h
  cases hd : dbgB x with
  | true => rw [hd] at h; exact h.elim
  | false =>
    rw [hd] at h
    obtain ⟨d1, d2⟩ := dbg_of hd
    simp only [Bool.false_eq_true, if_false] at h
    cases hs : slot N x with
    | some i =>
      rw [hs] at h
      simp only at h
      cases hv : visB X.env.scope x with
      | false => rw [hv] at h; exact h.elim
      | true =>
        rw [hv] at h
        simp only [if_true] at h
        cases hc : st.env[i]? with
        | none => rw [hc] at h; exact h.elim
        | some oc =>
          cases oc with
          | none => rw [hc] at h; exact h.elim
          | some c =>
            rw [hc] at h
            obtain ⟨v, hσ, r⟩ := S.env.2 i c hc
            exact (pe_var (i := i) (by rw [hN]; exact slot_get hs) (vis_of hv) d1 d2).run pins s σ H Q I ⟨v, hσ, h v W H .rfl' S r⟩
    | none =>
      rw [hs] at h
      simp only at h
      cases hg : glB X.env.scope x with
      | false => rw [hg] at h; exact h.elim
      | true =>
        rw [hg] at h
        simp only [if_true] at h
        cases hc : G.cst x with
        | none => rw [hc] at h; exact h.elim
        | some d =>
          rw [hc] at h
          obtain ⟨u, v, e1, e2, e3⟩ := hcst x d hc
          exact (pe_glob (gl_of hg) e1 e2 d1).run pins s σ H Q I (h v W H .rfl' S (Dq.mono (by intro _ _ z; cases z) _ _ e3))

/-! ### displays -/
theorem star_cons {e : Expr} {es : List Expr} {env : Env} (h : notStar e = true) : starEach (e :: es) env = (false, eval e env) :: starEach es env := by
  cases e <;> first | rfl | cases h
theorem rds_cons {K : PySem.W.Frag} {W W' : Wd} {H : Hp} {v : V} {vs : List V} {x : D} {xs : List D} (st : Step W H W' H) (h : Dq K W.B v x) (t : Dqs K W'.B vs xs) : Dqs K W'.B (v :: vs) (x :: xs) := .cons (Dq.mono st.sub _ _ h) t
abbrev TAs (K : PySem.W.Frag) (xo : XO) (m : M (List D)) : TA := Tr K xo (RDs K) m
theorem sd_args {k : Nat} {n : Expr → M RV} : ∀ (es : List Expr), (∀ v ∈ es, PE X v (T X.K xo (n v))) → es.all notStar = true → PA X es (TAs X.K xo (seqM (es.map fun z => asD k (n z))))
  | [], _, _ => ⟨fun p pins s σ H Q I ⟨W, st, S, h⟩ => pa_nil.run p pins s σ H Q I ((wp_pure h) [] W H .rfl' S .nil)⟩
  | e :: es, h, hn => by
    obtain ⟨h1, h2⟩ := List.all_cons (f := notStar) ▸ hn |> Bool.and_eq_true_iff.mp
    have ih := sd_args (k := k) (n := n) es (fun v m => h v (.tail _ m)) h2
    refine ⟨fun p pins s σ H Q I q => (pa_cons (h e (.head _)) ih (star_cons h1)).run p pins s σ H Q I ?_⟩
    refine tr_asD (tr_bind q fun W x s1 v W1 H1 st S1 r h1 => ?_)
    refine ⟨W1, s1, S1, wp_bind h1 (fun xs s2 h2 vs W2 H2 st2 S2 rs => ?_) fun x s q => PXO.later st _ _ q⟩
    exact (wp_pure h2) _ W2 H2 (st.trans st2) S2 (.cons (Dq.mono st2.sub _ _ r) rs)
theorem sd_tuple {k n' : Nat} {n : Expr → M RV} {es : List Expr} (h : ∀ v ∈ es, PE X v (T X.K xo (n v))) : PE X (.Tuple es n' pos) (T X.K xo (if es.all notStar then M.bind (seqM (es.map fun z => asD k (n z))) fun ds => if fits ds.length then ret (.tuple ds) else M.fail else M.fail)) := by
  cases hc : es.all notStar with
  | false => exact ⟨fun pins s σ H Q I ⟨W, st, S, h⟩ => h.elim⟩
  | true =>
    have PAe := sd_args (k := k) es h hc
    refine ⟨fun pins s σ H Q I q => (pe_tupE PAe).run pins s σ H Q I ?_⟩
    refine tr_bind q fun W xs s1 vs W1 H1 st S1 rs h1 => ?_
    cases hf : fits xs.length with
    | false => rw [hf] at h1; exact h1.elim
    | true =>
      rw [hf, if_pos rfl] at h1
      refine ⟨by rw [dl_len rs]; exact fits_le hf, fun p ob hp hd => ?_⟩
      obtain ⟨S2, q2, st2⟩ := S1.newT hp hd rs
      exact (wp_pure h1) _ _ _ (st.trans st2) S2 q2
theorem sd_list {k : Nat} {n : Expr → M RV} {es : List Expr} (h : ∀ v ∈ es, PE X v (T X.K xo (n v))) : PE X (.List es pos) (T X.K xo (if es.all notStar then M.bind (seqM (es.map fun z => asD k (n z))) fun ds => if fits ds.length then M.pure (.f ds) else M.fail else M.fail)) := by
  cases hc : es.all notStar with
  | false => exact ⟨fun pins s σ H Q I ⟨W, st, S, h⟩ => h.elim⟩
  | true =>
    have PAe := sd_args (k := k) es h hc
    refine ⟨fun pins s σ H Q I q => (pe_lst PAe).run pins s σ H Q I ?_⟩
    refine tr_bind q fun W xs s1 vs W1 H1 st S1 rs h1 => ?_
    cases hf : fits xs.length with
    | false => rw [hf] at h1; exact h1.elim
    | true =>
      rw [hf, if_pos rfl] at h1
      refine ⟨by rw [dl_len rs]; exact fits_le hf, fun p hp => ?_⟩
      obtain ⟨hb, ha⟩ := S1.fresh hp
      exact (wp_pure h1) _ W1 _ (st.trans (Step.alloc hp)) (S1.alloc hp) ⟨p, vs, rfl, st.trk p hp, hb, ha, upd_same, rs⟩
/-! ### a cut -/
abbrev TPt (K : PySem.W.Frag) (xo : XO) (m : M (Option Int)) : TO := Tr K xo RO m
def tPartO (o : Option Expr) (f : Expr → TE) : TO := match o with
  | none => tNoPart
  | some v => tPart (f v)
theorem sd_part {o : Option Expr} {n : Expr → M RV} (h : ∀ v, o = some v → PE X v (T X.K xo (n v))) : L2.PO X o (tPartO o fun v => T X.K xo (n v)) := by
  cases o with
  | none => exact po_none
  | some v => exact po_some (h v rfl)
theorem sd_slice {lo hi : Option Expr} {n : Expr → M RV} {p2 : Pos} (ha : PE X a (T X.K xo ma)) (hl : ∀ v, lo = some v → PE X v (T X.K xo (n v))) (hh : ∀ v, hi = some v → PE X v (T X.K xo (n v))) :
    PE X (.Subscript a (.Slice lo hi none p2) pos) (T X.K xo (slM ma (lo.map n) (hi.map n))) := by
  have part : ∀ {o : Option Expr} {σ : L2.St} {H H0 : Hp} {W0 : Wd} {s1 : PSt} {W1 : Wd} {g : Option Int → M RV} {P : RV → PSt → Prop} {Q1 : Option Int → Hp → Prop}, Sim X.K W1 s1 σ H → Step W0 H0 W1 H → wpM (M.bind (partM (o.map n)) g) s1 P (PXO X.K xo W0 H0 σ) →
      (∀ (i : Option Int) (s2 : PSt) (W2 : Wd) (H2 : Hp), Step W1 H W2 H2 → Sim X.K W2 s2 σ H2 → wpM (g i) s2 P (PXO X.K xo W0 H0 σ) → Q1 i H2) → tPartO o (fun v => T X.K xo (n v)) σ H Q1 := by
    intro o σ H H0 W0 s1 W1 g P Q1 S1 st h k
    cases o with
    | none => exact k none s1 W1 H .rfl' S1 h
    | some v =>
      refine tr_int (Q := fun i H' => Q1 (some i) H') ⟨W1, s1, S1, ?_⟩
      have h' : wpM (M.bind (M.bind (M.bind (n v) intM) fun i => M.pure (some i)) g) s1 P (PXO X.K xo W0 H0 σ) := h
      refine wp_bind (f := fun i => M.bind (M.pure (some i)) g) (P := P) (PX := PXO X.K xo W0 H0 σ) ?_ (fun i s2 h2 d W2 H2 st2 S2 e => ?_) fun x s q => PXO.later st _ _ q
      · unfold wpM M.bind at h' ⊢
        cases e1 : n v s1 with
        | none => rw [e1] at h'; exact h'
        | some q =>
          obtain ⟨r, s2⟩ := q
          rw [e1] at h'
          cases r with
          | ex x => exact h'
          | ok r =>
            simp only at h' ⊢
            cases e2 : intM r s2 with
            | none => rw [e2] at h'; exact h'
            | some q2 =>
              obtain ⟨r2, s3⟩ := q2
              rw [e2] at h'
              cases r2 <;> exact h'
      · cases (show i = d from e)
        exact k (some i) s2 W2 H2 st2 S2 h2
  refine (pe_slice sl_D ha (sd_part hl) (sd_part hh)).weak fun σ H Q h => ?_
  obtain ⟨W, s, S, h⟩ := h
  refine tr_asC ⟨W, s, S, wp_bind h (fun c1 s1 h1 v W1 H1 st1 S1 r1 => ?_) kx0⟩
  refine part S1 st1 h1 fun l s2 W2 H2 st2 S2 h2 => ?_
  refine part S2 (st1.trans st2) h2 fun u s3 W3 H3 st3 S3 h3 => ?_
  unfold wpM M.bind rdM at h3
  cases e : rdD s3 c1 with
  | none => rw [e] at h3; exact h3.elim
  | some x =>
    rw [e] at h3
    obtain ⟨o, eo, h4⟩ := wp_bindO h3
    exact ⟨W3.B, x, o, S3.sub, S3.rd ((st2.trans st3).cell S3 r1 e) e, eo, opost_of S3 ((st1.trans st2).trans st3) h4⟩
end
end Pd

set_option Elab.async false
set_option linter.all false
set_option maxRecDepth 100000
set_option maxHeartbeats 2000000
/-! x[::-1]. -/
namespace Pd
open PySem PySem.Spec PyProof.Rows L2
def tRevA (K : PySem.W.Frag) (te : TE) : TE := fun σ H Q => te σ H fun x H1 => (∃ a xs, x = .ref a ∧ SqL K H1 a xs ∧ ∀ p, H1 p = none → Q (.ref p) (upd H1 p (.lst xs.reverse))) ∨ ∃ a xs, x = .ref a ∧ SqT K H1 a xs ∧ NewT H1 xs.reverse Q
section
variable {X : Cx} {xo : XO} {e : Expr} {ma : M RV}
theorem pe_revA {te : TE} {k : Nat} {p1 p2 p3 pos : Pos} (he : PE X e te) : PE X (.Subscript e (.Slice none none (some (.UnaryOp .USub (.Constant (.int 1) k p1) p2)) p3) pos) (tRevA X.K te) := by
  refine ⟨fun pins s σ H Q I h => ?_⟩
  refine Subscript_ (thn (he.run pins s σ H _ I h) fun v s1 ⟨x, H1, I1, r1, q1⟩ => ?_)
  have hst : L2.PO X (some (.UnaryOp .USub (.Constant (.int 1) k p1) p2)) (tPart (tUn (rU fun i => .int (-i)) (tC (.int 1)))) := po_some (pe_un un_neg pe_int)
  refine wpAny_Slice (thn (po_none.run pins s1 σ H1 (fun o H2 => o = none ∧ H2 = H1) I1 ⟨rfl, rfl⟩) fun vl s2 ⟨l, H2, I2, pl, el, e2⟩ => ?_)
  subst el e2
  refine thn (po_none.run pins s2 σ H2 (fun o H3 => o = none ∧ H3 = H2) I2 ⟨rfl, rfl⟩) fun vu s3 ⟨u, H3, I3, pu, eu, e3⟩ => ?_
  subst eu e3
  refine thn (hst.run pins s3 σ H3 (fun o H4 => o = some (-1) ∧ H4 = H3) I3 ⟨1, rfl, -1, rfl, rfl, rfl⟩) fun vs s4 ⟨o, H4, I4, ps, eo, e4⟩ => ?_
  subst eo e4
  have I5 : Inv X pins σ H4 { s4 with heap := s4.heap.push { cls := .type "slice", data := .fields #[vl, vu, vs] } } := I4.kept (t' := s4.toks) fun b ob q => Heap.get?_push_of_some _ q
  show wpAny (model X.prog X.w) X.A (subscriptTail e (.Slice none none (some (.UnaryOp .USub (.Constant (.int 1) k p1) p2)) p3) v (.ref s4.heap.objs.size)) (EP X pins σ Q) X.xe { s4 with heap := s4.heap.push { cls := .type "slice", data := .fields #[vl, vu, vs] } }
  rcases q1 with ⟨a, xs, ex, hx, q⟩ | ⟨a, xs, ex, hx, q⟩
  · subst ex
    cases r1
    obtain ⟨its, r, ht, hz⟩ := I5.list hx
    have hlen := r.length
    refine tail_any (ops := [.ref a, .ref s4.heap.objs.size]) ht.isList.typeIs (PySem.slot_list_getitem.lookup) ?_ (by with_unfolding_all rfl)
    refine wpAny_getItem_list_slice ht.isList (Heap.IsSliceOf.new _ vl vu vs) pl pu ps (by decide) ?_ (by rw [List.size_toArray]; omega)
    rw [PySem.W.krv_pick]
    refine ⟨.ref _, _, I5.laid (t' := s4.toks) (o := .lst xs.reverse) (fun b ob q => Heap.get?_push_of_some _ q) (Nat.le_refl _) ?_, rfl, q _ (I5.hok.fresh (Nat.le_refl _))⟩
    exact ⟨by rw [List.length_reverse]; exact hz, _, 0, r.reverse, Heap.get?_push_size _ rfl⟩
  · subst ex
    cases r1
    obtain ⟨its, r, ht, hz⟩ := I5.tuple hx
    have hlen := r.length
    have hs := Heap.IsSliceOf.new s4.heap vl vu vs
    cases pl
    cases pu
    cases ps
    refine tail_any (ops := [.ref a, .ref s4.heap.objs.size]) ht.typeIs PyProof.Rows.slot_tuple_getitem.lookup ?_ (by with_unfolding_all rfl)
    refine Ps.getItem_tuple_rev ht hs ?_ (by rw [List.size_toArray]; omega)
    exact NewT.ep (tk := s4.toks) q I5 (r.reverse) (by rw [List.length_reverse]; exact hz)
theorem dl_rev {K : PySem.W.Frag} {B : Hp} {vs : List V} {ds : List D} (h : Dqs K B vs ds) : Dqs K B vs.reverse ds.reverse := by
  have go : ∀ {vs : List V} {ds : List D} {vs' : List V} {ds' : List D}, Dqs K B vs ds → Dqs K B vs' ds' → Dqs K B (vs.reverse ++ vs') (ds.reverse ++ ds') := by
    intro vs
    induction vs with
    | nil => intro ds vs' ds' h h'; cases h; exact h'
    | cons v vs ih =>
      intro ds vs' ds' h h'
      cases h with
      | cons a t =>
        rw [List.reverse_cons, List.reverse_cons, List.append_assoc, List.append_assoc]
        exact ih t (.cons a h')
  have := go h .nil
  simpa using this
theorem isNeg1_some {st : Option Expr} (h : isNeg1 st = true) : ∃ k p1 p2, st = some (.UnaryOp .USub (.Constant (.int 1) k p1) p2) := by
  unfold isNeg1 at h
  split at h
  · exact ⟨_, _, _, rfl⟩
  · cases h
theorem sd_rev {k : Nat} {p1 p2 p3 pos : Pos} (he : PE X e (T X.K xo ma)) : PE X (.Subscript e (.Slice none none (some (.UnaryOp .USub (.Constant (.int 1) k p1) p2)) p3) pos) (T X.K xo (revM ma)) := by
  refine (pe_revA he).weak fun σ H Q h => ?_
  obtain ⟨W, s, S, h⟩ := h
  refine tr_asC ⟨W, s, S, wp_bind h (fun c s1 h1 v W1 H1 st1 S1 r1 => ?_) kx0⟩
  obtain ⟨x, ex, h1⟩ := wp_bindR h1
  obtain ⟨o, eo, h1⟩ := wp_bindO h1
  have rd := S1.rd r1 ex
  have q := opost_of S1 st1 h1
  unfold revO at eo
  split at eo
  · cases eo
    obtain ⟨p, vs, rfl, k1, k2⟩ := rd.lst S1.sub
    exact .inl ⟨p, vs, rfl, k1, fun b hb => q b _ hb (dl_rev k2)⟩
  · cases eo
    obtain ⟨p, vs, rfl, k1, k2, _⟩ := rd.tup S1.sub
    exact .inr ⟨p, vs, rfl, k1, q.2 _ _ rfl (dl_rev k2)⟩
  · cases eo
end
end Pd

set_option Elab.async false
set_option linter.all false
set_option maxRecDepth 100000
set_option maxHeartbeats 2000000
namespace Pd
open PySem L2
section
variable {X : Cx} {xo : XO} {a b c e : Expr} {ma mb mc : M RV} {pos : Pos}
/-! ### arguments that are read -/
def CW (K : PySem.W.Frag) (W : Wd) (v : V) : C → Prop
  | .d x => Dq K W.B v x
  | .r k => ∀ a, W.al[k]? = some a → v = .ref a
theorem CW.of {K : PySem.W.Frag} {W : Wd} {v : V} : ∀ {c : C}, CRep K W v c → CW K W v c
  | .d _, h => h
  | .r _, ⟨a, h, e⟩ => fun b q => by rw [h] at q; cases q; exact e
theorem take_get {α : Type} {l : List α} {n k : Nat} {a : α} (h : (l.take n)[k]? = some a) : l[k]? = some a := by
  rw [List.getElem?_take] at h
  split at h
  · exact h
  · cases h
theorem CW.mono {K : PySem.W.Frag} {W W' : Wd} {H H' : Hp} {v : V} (st : Step W H W' H') : ∀ {c : C}, CW K W v c → CW K W' v c
  | .d _, h => Dq.mono st.sub _ _ h
  | .r k, h => fun a q => by
    obtain ⟨n, e⟩ := st.pre
    rw [e] at q
    exact h a (take_get q)
theorem CW.rd {K : PySem.W.Frag} {W : Wd} {s : PSt} {σ : L2.St} {H : Hp} {c : C} {v : V} {x : D} (S : Sim K W s σ H) (r : CW K W v c) (e : rdD s c = some x) : Rdv K W.B H v x := by
  refine S.rd (c := c) ?_ e
  cases c with
  | d y => exact r
  | r k =>
    unfold rdD at e
    simp only at e
    split at e
    · rename_i xs q
      obtain ⟨a, ha, _⟩ := S.objs.get q
      exact ⟨a, ha, r a ha⟩
    · rename_i xs q
      obtain ⟨a, ha, _⟩ := S.objs.get q
      exact ⟨a, ha, r a ha⟩
    · cases e
inductive CWs (K : PySem.W.Frag) (W : Wd) : List V → List C → Prop
  | nil : CWs K W [] []
  | cons {v : V} {vs : List V} {c : C} {cs : List C} : CW K W v c → CWs K W vs cs → CWs K W (v :: vs) (c :: cs)
def RCs (K : PySem.W.Frag) : Rel (List C) (List V) := fun cs vs W _ _ => CWs K W vs cs
theorem sd_argsC {n : Expr → M RV} : ∀ (es : List Expr), (∀ v ∈ es, PE X v (T X.K xo (n v))) → es.all notStar = true → PA X es (Tr X.K xo (RCs X.K) (seqM (es.map fun z => asC (n z))))
  | [], _, _ => ⟨fun p pins s σ H Q I ⟨W, st, S, h⟩ => pa_nil.run p pins s σ H Q I ((wp_pure h) [] W H .rfl' S .nil)⟩
  | e :: es, h, hn => by
    obtain ⟨h1, h2⟩ := List.all_cons (f := notStar) ▸ hn |> Bool.and_eq_true_iff.mp
    have ih := sd_argsC (n := n) es (fun v m => h v (.tail _ m)) h2
    refine ⟨fun p pins s σ H Q I q => (pa_cons (h e (.head _)) ih (star_cons h1)).run p pins s σ H Q I ?_⟩
    refine tr_asC (tr_bind q fun W x s1 v W1 H1 st S1 r h1 => ?_)
    refine ⟨W1, s1, S1, wp_bind h1 (fun xs s2 h2 vs W2 H2 st2 S2 rs => ?_) fun x s q => PXO.later st _ _ q⟩
    exact (wp_pure h2) _ W2 H2 (st.trans st2) S2 (.cons ((CW.of r).mono st2) rs)
theorem plain_star {es : List Expr} {env : Env} {p : Pos} (h : es.all notStar = true) : (backTo p (starEach es env)).any (·.1) = false := by
  induction es with
  | nil => rfl
  | cons e es ih =>
    obtain ⟨h1, h2⟩ := List.all_cons (f := notStar) ▸ h |> Bool.and_eq_true_iff.mp
    rw [star_cons h1]
    show (false || (backTo p (starEach es env)).any (·.1)) = false
    rw [ih h2]
    rfl

/-! ### built-in functions -/
inductive Rds (K : PySem.W.Frag) (B H : Hp) : List V → List D → Prop
  | nil : Rds K B H [] []
  | cons {v : V} {vs : List V} {c : D} {cs : List D} : Rdv K B H v c → Rds K B H vs cs → Rds K B H (v :: vs) (c :: cs)
def rBlt (K : PySem.W.Frag) (f : Blt) : List V → Hp → VK → Prop := fun vs H Q => ∃ B xs o, Sub B H ∧ Rds K B H vs xs ∧ bltO f xs = some o ∧ OPost K B H o Q
theorem wp_rdAll {β : Type} {K : PySem.W.Frag} {W : Wd} {s : PSt} {σ : L2.St} {H : Hp} (S : Sim K W s σ H) {P : β → PSt → Prop} {PX : Xn → PSt → Prop} : ∀ {cs : List C} {vs : List V} {f : List D → M β}, CWs K W vs cs → wpM (M.bind (rdAll cs) f) s P PX → ∃ xs, Rds K W.B H vs xs ∧ wpM (f xs) s P PX
  | _, _, f, .nil, h => ⟨[], .nil, h⟩
  | c :: cs, v :: vs, f, .cons r rs, h => by
    have h' : wpM (M.bind (rdM c) fun x => M.bind (rdAll cs) fun xs => f (x :: xs)) s P PX := by
      unfold wpM M.bind at h ⊢
      unfold rdAll at h
      unfold M.bind at h
      cases e1 : rdM c s with
      | none => rw [e1] at h; exact h
      | some q =>
        obtain ⟨r, s1⟩ := q
        rw [e1] at h
        cases r with
        | ex x => exact h
        | ok r =>
          simp only at h ⊢
          cases e2 : rdAll cs s1 with
          | none => rw [e2] at h; exact h
          | some q2 =>
            obtain ⟨r2, s2⟩ := q2
            rw [e2] at h
            cases r2 <;> exact h
    obtain ⟨x, ex, h1⟩ := wp_bindR h'
    obtain ⟨xs, h2, h3⟩ := wp_rdAll S rs h1
    exact ⟨x :: xs, .cons (r.rd S ex) h2, h3⟩
theorem tr_blt {K : PySem.W.Frag} {f : Blt} {m : M (List C)} (σ : L2.St) (H : Hp) (Q : VK) (h : T K xo (M.bind m fun cs => M.bind (rdAll cs) fun xs => opM (bltO f xs)) σ H Q) : tCB (rBlt K f) (Tr K xo (RCs K) m) σ H Q := by
  refine tr_bind h fun W cs s1 vs W1 H1 st S1 rs h1 => ?_
  obtain ⟨xs, hx, h2⟩ := wp_rdAll S1 rs h1
  obtain ⟨o, eo, h3⟩ := wp_bindO h2
  exact ⟨W1.B, xs, o, S1.sub, hx, eo, opost_of S1 st h3⟩
theorem rds1 {K : PySem.W.Frag} {B H : Hp} {vs : List V} {x : D} (h : Rds K B H vs [x]) : ∃ v, vs = [v] ∧ Rdv K B H v x := by
  cases h with
  | cons a b => cases b; exact ⟨_, rfl, a⟩
theorem rds2 {K : PySem.W.Frag} {B H : Hp} {vs : List V} {x y : D} (h : Rds K B H vs [x, y]) : ∃ v w, vs = [v, w] ∧ Rdv K B H v x ∧ Rdv K B H w y := by
  cases h with
  | cons a b =>
    cases b with
    | cons c d => cases d; exact ⟨_, _, rfl, a, c⟩
theorem cr_len : CallR X (.builtin "len") (rBlt X.K .len) := by
  intro pins s σ H vs us Q I r ⟨B, xs, o, sb, hx, e, q⟩
  have e : lenO xs = some o := e
  unfold lenO at e
  split at e
  · cases e
    obtain ⟨v, rfl, h⟩ := rds1 hx
    obtain ⟨p, ws, rfl, h1, h2⟩ := h.lst sb
    refine call_len pins s σ H _ us Q I r ⟨_, _, rfl, .inl ⟨_, h1, rfl⟩, ?_⟩
    rw [dl_len h2]
    exact q.1 _ (.int _)
  · cases e
    obtain ⟨v, rfl, h⟩ := rds1 hx
    obtain ⟨p, ws, rfl, h1, h2, _⟩ := h.tup sb
    refine call_len pins s σ H _ us Q I r ⟨_, _, rfl, .inr ⟨_, h1, rfl⟩, ?_⟩
    rw [dl_len h2]
    exact q.1 _ (.int _)
  · split at e
    · rename_i hf
      cases e
      obtain ⟨v, rfl, h⟩ := rds1 hx
      obtain rfl := h.str
      exact call_len pins s σ H _ us Q I r ⟨_, _, rfl, ⟨fits_le hf, rfl⟩, q.1 _ (.int _)⟩
    · cases e
  · cases e
    obtain ⟨v, rfl, h⟩ := rds1 hx
    obtain ⟨p, es, rfl, hH, hd⟩ := h.dic
    rw [Vals.ref1 r]
    refine d_len I (.inl hH) fun t s' I' => ⟨.int es.length, H, I', ⟨t, rfl⟩, ?_⟩
    rw [kv_len hd]
    exact q.1 _ (.int _)
  · cases e
theorem cr_tup : CallR X (.type "tuple") (rBlt X.K .tup) := by
  intro pins s σ H vs us Q I r ⟨B, xs, o, sb, hx, e, q⟩
  have e : tupO xs = some o := e
  unfold tupO at e
  split at e
  · cases e
    obtain ⟨v, rfl, h⟩ := rds1 hx
    obtain ⟨p, ws, rfl, h1, h2⟩ := h.lst sb
    exact call_tupE pins s σ H _ us Q I r ⟨_, _, rfl, .inl ⟨h1, q.2 _ _ rfl h2⟩⟩
  · cases e
    obtain ⟨v, rfl, h⟩ := rds1 hx
    obtain ⟨p, ws, rfl, h1, h2, h3⟩ := h.tup sb
    exact call_tupE pins s σ H _ us Q I r ⟨_, _, rfl, .inr ⟨h1, q.1 _ h3⟩⟩
  · cases e
theorem cr_lst (hc : X.calm = true) : CallR X (.type "list") (rBlt X.K .lst) := by
  intro pins s σ H vs us Q I r ⟨B, xs, o, sb, hx, e, q⟩
  have e : lstO xs = some o := e
  unfold lstO at e
  split at e
  · cases e
    obtain ⟨v, rfl, h⟩ := rds1 hx
    obtain ⟨p, ws, rfl, h1, h2⟩ := h.lst sb
    exact call_list_of pins s σ H _ us Q I r ⟨_, _, rfl, .inl (h1), fun l hl => q l _ hl h2⟩
  · cases e
    obtain ⟨v, rfl, h⟩ := rds1 hx
    obtain ⟨p, ws, rfl, h1, h2, h3⟩ := h.tup sb
    exact call_list_of pins s σ H _ us Q I r ⟨_, _, rfl, .inr h1, fun l hl => q l _ hl h2⟩
  · cases e
    obtain ⟨v, rfl, h⟩ := rds1 hx
    obtain ⟨p, es, rfl, hH, hd⟩ := h.dic
    exact call_list_dK hc pins s σ H _ us Q I r ⟨_, _, rfl, hH, fun l hl => q l _ hl (kv_keys hd)⟩
  · cases e
theorem dl_bools {K : PySem.W.Frag} {B : Hp} : ∀ {vs : List V} {ds : List D} {bs : List Bool}, Dqs K B vs ds → boolsOf ds = some bs → vs = bs.map V.bl
  | _, _, _, .nil, e => by
    cases (Option.some.inj e : [] = _)
    rfl
  | _, _, _, .cons h t, e => by
    unfold boolsOf at e
    split at e
    · rename_i q
      cases q
    · rename_i q
      cases q
      obtain ⟨r, e1, rfl⟩ := Option.map_eq_some_iff.mp e
      cases h
      rw [dl_bools t e1]
      rfl
    · cases e
theorem dl_intsOf {K : PySem.W.Frag} {B : Hp} : ∀ {vs : List V} {ds : List D} {bs : List Int}, Dqs K B vs ds → intsOf ds = some bs → vs = bs.map V.int
  | _, _, _, .nil, e => by
    cases (Option.some.inj e : [] = _)
    rfl
  | _, _, _, .cons h t, e => by
    unfold intsOf at e
    split at e
    · rename_i q
      cases q
    · rename_i q
      cases q
      obtain ⟨r, e1, rfl⟩ := Option.map_eq_some_iff.mp e
      cases h
      rw [dl_intsOf t e1]
      rfl
    · cases e
theorem leastI_low : ∀ {l : List Int} {j : Int}, leastI l = some j → j ∈ l ∧ ∀ y ∈ l, j ≤ y
  | [x], j, e => by
    cases (Option.some.inj e : x = j)
    exact ⟨List.mem_cons_self, fun y h => by simp at h; omega⟩
  | x :: z :: l, j, e => by
    have e1 : (leastI (z :: l)).map (fun j => if j < x then j else x) = some j := e
    obtain ⟨k, f1, f2⟩ := Option.map_eq_some_iff.mp e1
    obtain ⟨g1, g2⟩ := leastI_low f1
    by_cases c : k < x
    · rw [if_pos c] at f2
      subst f2
      refine ⟨List.mem_cons_of_mem _ g1, fun y h => ?_⟩
      rcases List.mem_cons.mp h with h | h
      · omega
      · exact g2 y h
    · rw [if_neg c] at f2
      subst f2
      refine ⟨List.mem_cons_self, fun y h => ?_⟩
      rcases List.mem_cons.mp h with h | h
      · omega
      · have := g2 y h
        omega
theorem mostI_high : ∀ {l : List Int} {j : Int}, mostI l = some j → j ∈ l ∧ ∀ y ∈ l, y ≤ j
  | [x], j, e => by
    cases (Option.some.inj e : x = j)
    exact ⟨List.mem_cons_self, fun y h => by simp at h; omega⟩
  | x :: z :: l, j, e => by
    have e1 : (mostI (z :: l)).map (fun j => if j > x then j else x) = some j := e
    obtain ⟨k, f1, f2⟩ := Option.map_eq_some_iff.mp e1
    obtain ⟨g1, g2⟩ := mostI_high f1
    by_cases c : k > x
    · rw [if_pos c] at f2
      subst f2
      refine ⟨List.mem_cons_of_mem _ g1, fun y h => ?_⟩
      rcases List.mem_cons.mp h with h | h
      · omega
      · exact g2 y h
    · rw [if_neg c] at f2
      subst f2
      refine ⟨List.mem_cons_self, fun y h => ?_⟩
      rcases List.mem_cons.mp h with h | h
      · omega
      · have := g2 y h
        omega
theorem leastI_is {ns : List Int} {i : Int} (e : leastI ns = some i) : 0 < ns.length ∧ ∀ m, m ∈ ns → (∀ y, y ∈ ns → m ≤ y) → m = i := by
  obtain ⟨h1, h2⟩ := leastI_low e
  refine ⟨List.length_pos_of_mem h1, fun m a b => ?_⟩
  have := b _ h1
  have := h2 _ a
  omega
theorem mostI_is {ns : List Int} {i : Int} (e : mostI ns = some i) : 0 < ns.length ∧ ∀ m, m ∈ ns → (∀ y, y ∈ ns → y ≤ m) → m = i := by
  obtain ⟨h1, h2⟩ := mostI_high e
  refine ⟨List.length_pos_of_mem h1, fun m a b => ?_⟩
  have := b _ h1
  have := h2 _ a
  omega
theorem cr_mn (hc : X.calm = true) : CallR X (.builtin "min") (rBlt X.K .min) := by
  intro pins s σ H vs us Q I r ⟨B, xs, o, sb, hx, e, q⟩
  have e : minO xs = some o := e
  unfold minO at e
  split at e
  · cases e
    obtain ⟨v, w, rfl, h, g⟩ := rds2 hx
    obtain rfl := h.int
    obtain rfl := g.int
    exact call_min2 hc pins s σ H _ us Q I r ⟨_, _, rfl, q.1 _ (.int _)⟩
  · obtain ⟨ns, e1, e2⟩ := Option.bind_eq_some_iff.mp e
    obtain ⟨i, e3, rfl⟩ := Option.map_eq_some_iff.mp e2
    obtain ⟨v, rfl, h⟩ := rds1 hx
    obtain ⟨p, ws, rfl, h1, h2⟩ := h.lst sb
    obtain rfl := dl_intsOf h2 e1
    obtain ⟨f1, f2⟩ := leastI_is e3
    exact L2.cr_min hc pins s σ H _ us Q I r ⟨_, _, rfl, h1, f1, fun m a b => by rw [f2 m a b]; exact q.1 _ (.int _)⟩
  · cases e
theorem cr_mx (hc : X.calm = true) : CallR X (.builtin "max") (rBlt X.K .max) := by
  intro pins s σ H vs us Q I r ⟨B, xs, o, sb, hx, e, q⟩
  have e : maxO xs = some o := e
  unfold maxO at e
  split at e
  · cases e
    obtain ⟨v, w, rfl, h, g⟩ := rds2 hx
    obtain rfl := h.int
    obtain rfl := g.int
    exact call_max2 hc pins s σ H _ us Q I r ⟨_, _, rfl, q.1 _ (.int _)⟩
  · obtain ⟨ns, e1, e2⟩ := Option.bind_eq_some_iff.mp e
    obtain ⟨i, e3, rfl⟩ := Option.map_eq_some_iff.mp e2
    obtain ⟨v, rfl, h⟩ := rds1 hx
    obtain ⟨p, ws, rfl, h1, h2⟩ := h.lst sb
    obtain rfl := dl_intsOf h2 e1
    obtain ⟨f1, f2⟩ := mostI_is e3
    exact L2.cr_max hc pins s σ H _ us Q I r ⟨_, _, rfl, h1, f1, fun m a b => by rw [f2 m a b]; exact q.1 _ (.int _)⟩
  · cases e
theorem cr_al (hc : X.calm = true) : CallR X (.builtin "all") (rBlt X.K .all) := by
  intro pins s σ H vs us Q I r ⟨B, xs, o, sb, hx, e, q⟩
  have e : allO xs = some o := e
  unfold allO at e
  split at e
  · obtain ⟨bs, e1, rfl⟩ := Option.map_eq_some_iff.mp e
    obtain ⟨v, rfl, h⟩ := rds1 hx
    obtain ⟨p, ws, rfl, h1, h2⟩ := h.lst sb
    obtain rfl := dl_bools h2 e1
    exact L2.cr_all hc pins s σ H _ us Q I r ⟨_, _, rfl, h1, q.1 _ (.bl _)⟩
  · cases e
theorem cr_an (hc : X.calm = true) : CallR X (.builtin "any") (rBlt X.K .any) := by
  intro pins s σ H vs us Q I r ⟨B, xs, o, sb, hx, e, q⟩
  have e : anyO xs = some o := e
  unfold anyO at e
  split at e
  · obtain ⟨bs, e1, rfl⟩ := Option.map_eq_some_iff.mp e
    obtain ⟨v, rfl, h⟩ := rds1 hx
    obtain ⟨p, ws, rfl, h1, h2⟩ := h.lst sb
    obtain rfl := dl_bools h2 e1
    exact L2.cr_any hc pins s σ H _ us Q I r ⟨_, _, rfl, h1, q.1 _ (.bl _)⟩
  · cases e
theorem cr_sm (hc : X.calm = true) : CallR X (.builtin "sum") (rBlt X.K .sum) := by
  intro pins s σ H vs us Q I r ⟨B, xs, o, sb, hx, e, q⟩
  have e : sumO xs = some o := e
  unfold sumO at e
  split at e
  · obtain ⟨bs, e1, rfl⟩ := Option.map_eq_some_iff.mp e
    obtain ⟨v, rfl, h⟩ := rds1 hx
    obtain ⟨p, ws, rfl, h1, h2⟩ := h.lst sb
    obtain rfl := dl_intsOf h2 e1
    exact L2.cr_sum hc pins s σ H _ us Q I r ⟨_, _, rfl, h1, q.1 _ (.int _)⟩
  · cases e
theorem Rdv.bl {K : PySem.W.Frag} {B H : Hp} {v : V} {b : Bool} : Rdv K B H v (.bool b) → v = .bl b
  | .d (.bl _) => rfl
theorem cr_int : CallR X (.type "int") (rBlt X.K .int) := by
  intro pins s σ H vs us Q I r ⟨B, xs, o, sb, hx, e, q⟩
  have e : intO xs = some o := e
  unfold intO at e
  split at e
  · cases e
    obtain ⟨v, rfl, h⟩ := rds1 hx
    obtain rfl := h.int
    exact call_int1 pins s σ H _ us Q I r (.inl ⟨_, rfl, q.1 _ (.int _)⟩)
  · cases e
    obtain ⟨v, rfl, h⟩ := rds1 hx
    obtain rfl := h.bl
    exact call_int1 pins s σ H _ us Q I r (.inr ⟨_, rfl, q.1 _ (.int _)⟩)
  · cases e
/-! ### sorted -/
theorem sorts_of {ds : List D} (h : (ds.all tupNe || ds.all notTup || ds.all isTupB) = true) : Pn.Sorts ds := by
  rcases Bool.or_eq_true_iff.mp h with h | h
  · rcases Bool.or_eq_true_iff.mp h with z | z
    · refine .inl (.inl fun d hd => ?_)
      have := List.all_eq_true.mp z d hd
      unfold tupNe at this
      split at this
      · exact ⟨_, _, rfl⟩
      · cases this
    · refine .inl (.inr fun d hd => ?_)
      have := List.all_eq_true.mp z d hd
      unfold notTup at this
      split at this
      · cases this
      · cases this
      · rename_i n1 n2
        exact ⟨n2, n1⟩
  · refine .inr fun d hd => ?_
    have := List.all_eq_true.mp h d hd
    cases d with
    | tuple xs => exact ⟨xs, rfl⟩
    | _ => cases this
theorem each_srt {K : PySem.W.Frag} {B : Hp} {h : Heap} (rd : ∀ (d : D) (v : V) (u : Value), Dq K B v d → RelV v u → ∃ as, PySem.Reads h u d as) : ∀ {ws : List V} {its : List Value} {ds : List D}, Vals ws its → Dqs K B ws ds →
    PySem.W.EachIs (fun (u : Value) (b : V × D) => RelV b.1 u ∧ Dq K B b.1 b.2) its (ws.zip ds) ∧ PySem.W.EachIs (fun (u : Value) (b : V × D) => ∃ as, PySem.Reads h u b.2 as) its (ws.zip ds)
  | _, _, _, .nil, .nil => ⟨.nil, .nil⟩
  | _, _, _, .cons r t, .cons d e => by
    obtain ⟨a, b⟩ := each_srt rd t e
    exact ⟨.cons ⟨r, d⟩ a, .cons (rd _ _ _ d r) b⟩
theorem each_vals {K : PySem.W.Frag} {B : Hp} : ∀ {out : List Value} {bs : List (V × D)}, PySem.W.EachIs (fun (u : Value) (b : V × D) => RelV b.1 u ∧ Dq K B b.1 b.2) out bs → Vals (bs.map (·.1)) out ∧ Dqs K B (bs.map (·.1)) (bs.map (·.2))
  | _, _, .nil => ⟨.nil, .nil⟩
  | _, _, .cons h t => ⟨.cons h.1 (each_vals t).1, .cons h.2 (each_vals t).2⟩
theorem zip_snd {vs : List V} {ds : List D} (h : vs.length = ds.length) : (vs.zip ds).map Prod.snd = ds := by
  rw [List.map_snd_zip]
  omega
theorem leD_total : PySem.W.TotalLe leD := PySem.W.sortLe_total _ _ _
theorem ins_mid {a : D} : ∀ {l1 l2 : List D}, (∀ b, b ∈ l1 → leD a b = false) → (∀ b, b ∈ l2 → leD a b = true) → insD a (l1 ++ l2) = l1 ++ a :: l2
  | [], [], _, _ => rfl
  | [], b :: r, _, h => by
    show (if leD a b then a :: b :: r else b :: insD a r) = _
    rw [if_pos (h b (.head _))]
    rfl
  | b :: l1, l2, h, g => by
    show (if leD a b then a :: b :: (l1 ++ l2) else b :: insD a (l1 ++ l2)) = _
    rw [if_neg (by rw [h b (.head _)]; exact Bool.false_ne_true), ins_mid (fun c m => h c (.tail _ m)) g]
    rfl
theorem sortD_eq : ∀ l : List D, l.mergeSort leD = sortD l
  | [] => by simp [sortD]
  | a :: r => by
    have tr := leD_total.trans
    have to : ∀ a b : D, (leD a b || leD b a) = true := fun a b => Bool.or_eq_true_iff.mpr (leD_total.total a b)
    obtain ⟨l1, l2, e1, e2, e3⟩ := List.mergeSort_cons (le := leD) tr to a r
    show (a :: r).mergeSort leD = insD a (sortD r)
    rw [← sortD_eq r, e1, e2]
    refine (ins_mid (fun b m => ?_) (fun b m => ?_)).symm
    · have := e3 b m
      simpa using this
    · have s := List.pairwise_mergeSort (le := leD) tr to (a :: r)
      rw [e1] at s
      exact (List.pairwise_cons.mp (List.pairwise_append.mp s).2.1).1 b m
theorem each_key {K : PySem.W.Frag} {B : Hp} {h : Heap} {a : Addr} : ∀ {es : List (Key × V)} {kvs : List (D × D)} {its : List Value}, KvRep K B es kvs → Vals (es.map fun kv => kV kv.1) its →
    PySem.W.EachIs (fun (u : Value) (b : V × D) => RelV b.1 u ∧ Dq K B b.1 b.2) its ((es.map fun kv => kV kv.1).zip (kvs.map (·.1))) ∧ PySem.W.EachIs (fun (u : Value) (b : V × D) => ∃ as, PySem.Reads h u b.2 as ∧ a ∉ as) its ((es.map fun kv => kV kv.1).zip (kvs.map (·.1)))
  | _, _, _, .nil, .nil => ⟨.nil, .nil⟩
  | _, _, _, .cons (k := k) (x := x) hk _ t, .cons r s => by
    obtain ⟨e1, e2⟩ := each_key (h := h) (a := a) t s
    cases x with
    | int i =>
      cases (Option.some.inj hk)
      obtain ⟨tk, rfl⟩ := r
      exact ⟨.cons ⟨⟨tk, rfl⟩, .int i⟩ e1, .cons ⟨[], .int i tk, fun m => nomatch m⟩ e2⟩
    | str i =>
      cases (Option.some.inj hk)
      obtain ⟨tk, rfl⟩ := r
      exact ⟨.cons ⟨⟨tk, rfl⟩, .str i⟩ e1, .cons ⟨[], .str i tk, fun m => nomatch m⟩ e2⟩
    | _ => cases hk
open PyProof.Rows in
theorem srt_dic (hc : X.calm = true) (hu : X.A.units + 70 < cLine) {pins : List (Addr × Obj)} {s : Shared} {σ : L2.St} {H B : Hp} {us : List Value} {Q : VK} {p : Addr} {es : List (Key × V)} {kvs : List (D × D)} (I : Inv X pins σ H s) (r : Vals [.ref p] us) (hH : H p = some (.dK es)) (hd : KvRep X.K B es kvs)
    (hk : sortOk (kvs.map (·.1)) = true) (q : ∀ p vs, H p = none → Dqs X.K B vs (sortD (kvs.map (·.1))) → Q (.ref p) (upd H p (.lst vs))) : wpAny (model X.prog X.w) X.A (call (.builtin "sorted") us) (EP X pins σ Q) X.xe s := by
  rw [Vals.ref1 r]
  obtain ⟨hk1, k4⟩ := Bool.and_eq_true_iff.mp hk
  obtain ⟨hk2, k3⟩ := Bool.and_eq_true_iff.mp hk1
  obtain ⟨k1, k2⟩ := Bool.and_eq_true_iff.mp hk2
  obtain ⟨z, lo, vs, rel, dd⟩ := dk_of I.hok hH
  obtain ⟨ep, hat⟩ := dd.dictAt
  have hl : vs.length = es.length := rel.length.symm
  have lk : es.length = kvs.length := kv_len hd
  have h16 : vs.length ≤ sizeLine := by rw [hl]; exact z
  refine Calls.call_function_entry PyProof.Rows.kind_sorted PyProof.Rows.plain_sorted PyProof.Rows.entry_sorted (PyProof.Rows.args_sorted1 _) ?_
  unfold Builtin.«sorted»
  refine wpAny_bind (m := checkCount "sorted" 1 1 _) (wpAny_pure ?_)
  refine wpAny_bind (PySem.W.kdu_collect (A := X.A.in1) (PySem.W.kdl_dict (knd := mixKind X.prog X.w) (kvs := vs) (ep := ep) lo) (I.ok.hd hc) hat h16 fun h' tk acc hkp hacc => ?_)
  have hal : acc.toList.length = vs.length := by rw [Array.length_toList, hacc.1]
  have hV : Vals (vs.map fun p => kV p.1) acc.toList := keys_at hal fun j v e => hacc.2 j v (by rw [← Array.getElem?_toList]; exact e)
  have eK : (vs.map fun p => kV p.1) = es.map fun kv => kV kv.1 := by
    have e3 : (vs.map fun kv => kV kv.1) = (vs.map (·.1)).map kV := by rw [List.map_map] <;> rfl
    have e4 : (es.map fun kv => kV kv.1) = (es.map (·.1)).map kV := by rw [List.map_map] <;> rfl
    rw [e3, e4, rel.keys]
  rw [eK] at hV
  have I1 : Inv X pins σ H { s with heap := h', toks := tk } := I.kept hkp
  refine wpAny_bind (wpAny_newList ?_ (by rw [hal]; exact h16))
  have hoL : (h'.push (seqObj "list" acc.toList.toArray 0)).get? h'.objs.size = some (seqObj "list" acc.toList.toArray 0) := Heap.get?_push_size _ rfl
  show wpAny _ _ _ _ _ { s with heap := h'.push (seqObj "list" acc.toList.toArray 0), toks := tk }
  obtain ⟨e1, e2⟩ := each_key (h := h'.push (seqObj "list" acc.toList.toArray 0)) (a := h'.objs.size) hd hV
  have hsnd : ((es.map fun kv => kV kv.1).zip (kvs.map (·.1))).map Prod.snd = kvs.map (·.1) := zip_snd (by rw [List.length_map, List.length_map, lk])
  have hzl : ((es.map fun kv => kV kv.1).zip (kvs.map (·.1))).length = kvs.length := by rw [List.length_zip, List.length_map, List.length_map, lk, Nat.min_self]
  have kl : kvs.length ≤ sizeLine := by
    rw [List.length_map] at k4
    exact fits_le k4
  refine wpAny_bind (wpAny_holding (Pn.list_sort_any (enc := Prod.snd) (s := { s with heap := h'.push (seqObj "list" acc.toList.toArray 0), toks := tk }) hoL e1 e2 ?_ ?_ ?_ ?_ fun out h3 h4 => ?_))
  · rw [hsnd]
    intro d hd d' hd'
    exact List.all_eq_true.mp (List.all_eq_true.mp k1 d hd) d' hd'
  · rw [hsnd]
    exact sorts_of k2
  · rw [hzl]
    exact kl
  · intro b hb
    have : b.2 ∈ kvs.map (·.1) := by
      rw [← hsnd]
      exact List.mem_map_of_mem hb
    have := of_decide_eq_true (List.all_eq_true.mp k3 _ this)
    show X.A.units + 1 + 1 + _ < cLine
    omega
  · obtain ⟨g1, g2⟩ := each_vals h4
    have em : (((es.map fun kv => kV kv.1).zip (kvs.map (·.1))).mergeSort (PySem.W.dataLe false Prod.snd)).map Prod.snd = sortD (kvs.map (·.1)) := by
      rw [← sortD_eq, List.map_mergeSort (s := leD), hsnd]
      intro a _ b _
      rfl
    rw [em] at g2
    obtain ⟨e', he'⟩ := PyProof.Rows.sortedHeap_at (vs := acc.toList) (out := out.toArray) hoL
    have hlen : ((((es.map fun kv => kV kv.1).zip (kvs.map (·.1))).mergeSort (PySem.W.dataLe false Prod.snd)).map (·.1)).length ≤ sizeLine := by
      rw [List.length_map, List.length_mergeSort, hzl]
      exact kl
    refine wpAny_pure ⟨_, rfl, .ref h'.objs.size, upd H h'.objs.size (.lst _), I1.laid (t' := tk) (fun b u e => ?_) (Nat.le_refl _)
      (show ObjOk X.prog X.w _ _ _ (.lst (((es.map fun kv => kV kv.1).zip (kvs.map (·.1))).mergeSort (PySem.W.dataLe false Prod.snd) |>.map (·.1))) from ⟨hlen, out, e', g1, he'⟩), rfl, q _ _ (I1.hok.fresh (Nat.le_refl _)) g2⟩
    have hb : b < h'.objs.size := Heap.lt_size e
    rw [PyProof.Rows.sortedHeap_old (Nat.ne_of_lt hb) (by rw [size_push']; exact Nat.lt_succ_of_lt hb)]
    exact Heap.get?_push_of_some _ e
theorem cr_srt (hc : X.calm = true) (hu : X.A.units + 70 < cLine) : CallR X (.builtin "sorted") (rBlt X.K .srt) := by
  intro pins s σ H vs us Q I r ⟨B, xs, o, sb, hx, e, q⟩
  have e : srtO xs = some o := e
  unfold srtO at e
  split at e
  · split at e
    · rename_i ds _ hk
      cases e
      obtain ⟨hk1, k4⟩ := Bool.and_eq_true_iff.mp hk
      obtain ⟨hk2, k3⟩ := Bool.and_eq_true_iff.mp hk1
      obtain ⟨k1, k2⟩ := Bool.and_eq_true_iff.mp hk2
      obtain ⟨v, rfl, h⟩ := rds1 hx
      obtain ⟨p, ws, rfl, h1, h2⟩ := h.lst sb
      obtain ⟨its, rv, hl, hz⟩ := I.list h1
      rw [Vals.ref1 r]
      obtain ⟨e1, e2⟩ := each_srt (fun d v u hd ru => Dp.reads I d v u (Dq.dp _ _ (Dq.mono sb _ _ hd)) ru) rv h2
      have hsnd := zip_snd (dl_len h2)
      refine Pn.sorted_any (enc := Prod.snd) hl.isList e1 e2 ?_ ?_ ?_ ?_ fun out h3 h4 => ?_
      · rw [hsnd]
        intro d hd d' hd'
        exact List.all_eq_true.mp (List.all_eq_true.mp k1 d hd) d' hd'
      · rw [hsnd]
        exact sorts_of k2
      · rw [List.length_zip, dl_len h2, Nat.min_self]
        exact fits_le k4
      · intro b hb
        have : b.2 ∈ ds := by
          rw [← hsnd]
          exact List.mem_map_of_mem hb
        have := of_decide_eq_true (List.all_eq_true.mp k3 _ this)
        omega
      · obtain ⟨g1, g2⟩ := each_vals h4
        have em : ((ws.zip ds).mergeSort (PySem.W.dataLe false Prod.snd)).map Prod.snd = sortD ds := by
          rw [← sortD_eq, List.map_mergeSort (s := leD), hsnd]
          intro a _ b _
          rfl
        rw [em] at g2
        obtain ⟨ep, he'⟩ := PyProof.Rows.sortedAll_at s.heap its out.toArray
        have hlen : (((ws.zip ds).mergeSort (PySem.W.dataLe false Prod.snd)).map (·.1)).length ≤ sizeLine := by
          rw [List.length_map, List.length_mergeSort, List.length_zip, dl_len h2, Nat.min_self]
          exact fits_le k4
        exact ⟨.ref _, upd H (s.heap.objs.size + 1) (.lst _), I.laid (t' := s.toks) (fun _ _ => PyProof.Rows.sortedAll_old) (Nat.le_succ _) ⟨hlen, out, ep, g1, he'⟩, rfl, q _ _ (I.hok.fresh (Nat.le_succ _)) g2⟩
    · cases e
  · split at e
    · rename_i kvs _ hk
      cases e
      obtain ⟨v, rfl, h⟩ := rds1 hx
      obtain ⟨p, es, rfl, hH, hd⟩ := h.dic
      exact srt_dic hc hu I r hH hd hk fun p vs hp hq => q p vs hp hq
    · cases e
  · cases e
theorem hasDict_shaped {d : D} {as : List Addr} (h : SeqAt.shaped d = true) : d.hasDict = true → sysModules ∉ as := PyData.noDict_hsm (PyData.hasDict_of_canLay d (SeqAt.canLay_of_shaped h))
theorem cr_rep (hu : X.A.units + 70 < cLine) (hg : X.A.guards = some []) : CallR X (.builtin "repr") (rBlt X.K .rep) := by
  intro pins s σ H vs us Q I r ⟨B, xs, o, sb, hx, e, q⟩
  have e : repO xs = some o := e
  unfold repO at e
  split at e
  · rename_i x _
    split at e
    · rename_i hf
      cases e
      obtain ⟨hf1, hz⟩ := Bool.and_eq_true_iff.mp hf
      obtain ⟨hf2, h2⟩ := Bool.and_eq_true_iff.mp hf1
      obtain ⟨h0, h1⟩ := Bool.and_eq_true_iff.mp hf2
      obtain ⟨v, rfl, h⟩ := rds1 hx
      obtain ⟨u, rfl, ru⟩ := vals1 r
      have hd := h.dp sb h0
      have fin : ∀ (h' : Heap) (tk : Nat) (t : Tok), (∀ b o, s.heap.get? b = some o → h'.get? b = some o) → EP X pins σ Q (.str x.shown t) { s with heap := h', toks := tk } := fun h' tk t kp =>
        ⟨.str x.shown, H, I.kept kp, ⟨t, rfl⟩, q.1 _ (.str _)⟩
      obtain ⟨as, rd⟩ := Dp.reads I x v u hd ru
      have dep := SeqAt.depth_of_shaped h2
      cases rd with
      | none => exact PySem.P.repr_of_none (fin s.heap _ _ fun _ _ e => e)
      | bool b => exact PySem.P.repr_of_bool (fin s.heap _ _ fun _ _ e => e)
      | int i t => exact PySem.P.repr_of_int (of_decide_eq_true h1) (fin s.heap _ _ fun _ _ e => e)
      | str z t => exact PySem.P.repr_of_str (fin s.heap _ _ fun _ _ e => e) (fits_le hz)
      | list a1 a2 a3 a4 => exact repr_of_reads' (.list a1 a2 a3 a4) h1 (hasDict_shaped h2) hg (by omega) (fun _ _ e => e) (fun h' t tk kp => fin h' tk t kp) (fits_le hz)
      | tuple a1 a2 a3 a4 => exact repr_of_reads' (.tuple a1 a2 a3 a4) h1 (hasDict_shaped h2) hg (by omega) (fun _ _ e => e) (fun h' t tk kp => fin h' tk t kp) (fits_le hz)
      | dict a1 a2 a3 a4 a5 => exact repr_of_reads' (.dict a1 a2 a3 a4 a5) h1 (hasDict_shaped h2) hg (by omega) (fun _ _ e => e) (fun h' t tk kp => fin h' tk t kp) (fits_le hz)
    · cases e
  · cases e
theorem sd_blt {f : Blt} {x : Str} {n : Expr → M RV} {es : List Expr} {p : Pos} (hu : X.A.units + 70 < cLine) (hgd : X.A.guards = some []) (hc : X.calm = true) (hg : L2.Gl X x) (hm : X.mg x = none) (hf : bltOf x = some f) (h : ∀ v ∈ es, PE X v (T X.K xo (n v))) (hs : es.all notStar = true) (hne : es ≠ []) :
    PE X (.Call (.Name x p) es [] pos) (T X.K xo (bltM f (es.map n))) := by
  have PAe := sd_argsC (xo := xo) es h hs
  have em : (es.map n).map asC = es.map fun z => asC (n z) := by rw [List.map_map]; rfl
  unfold bltM
  rw [em]
  cases es with
  | nil => exact absurd rfl hne
  | cons e0 er =>
    obtain ⟨s1, s2⟩ := List.all_cons (f := notStar) ▸ hs |> Bool.and_eq_true_iff.mp
    unfold bltOf at hf
    repeat' split at hf
    all_goals first
      | (cases hf; done)
      | (rename_i ex
         cases hf
         subst ex
         first
         | exact (pe_callB cr_len hg hm (by decide +kernel) PAe (by decide) (by decide) (star_cons s1) (plain_star s2)).weak tr_blt
         | exact (pe_callTy cr_tup hg hm (by decide +kernel) PAe (by decide) (by decide) (star_cons s1) (plain_star s2)).weak tr_blt
         | exact (pe_callTy (cr_lst hc) hg hm (by decide +kernel) PAe (by decide) (by decide) (star_cons s1) (plain_star s2)).weak tr_blt
         | exact (pe_callTy cr_int hg hm (by decide +kernel) PAe (by decide) (by decide) (star_cons s1) (plain_star s2)).weak tr_blt
         | exact (pe_callB (cr_mn hc) hg hm (by decide +kernel) PAe (by decide) (by decide) (star_cons s1) (plain_star s2)).weak tr_blt
         | exact (pe_callB (cr_mx hc) hg hm (by decide +kernel) PAe (by decide) (by decide) (star_cons s1) (plain_star s2)).weak tr_blt
         | exact (pe_callB (cr_rep hu hgd) hg hm (by decide +kernel) PAe (by decide) (by decide) (star_cons s1) (plain_star s2)).weak tr_blt
         | exact (pe_callB (cr_al hc) hg hm (by decide +kernel) PAe (by decide) (by decide) (star_cons s1) (plain_star s2)).weak tr_blt
         | exact (pe_callB (cr_an hc) hg hm (by decide +kernel) PAe (by decide) (by decide) (star_cons s1) (plain_star s2)).weak tr_blt
         | exact (pe_callB (cr_sm hc) hg hm (by decide +kernel) PAe (by decide) (by decide) (star_cons s1) (plain_star s2)).weak tr_blt
         | exact (pe_callB (cr_srt hc hu) hg hm (by decide +kernel) PAe (by decide) (by decide) (star_cons s1) (plain_star s2)).weak tr_blt)
end
end Pd

set_option Elab.async false
set_option linter.all false
set_option maxRecDepth 100000
set_option maxHeartbeats 2000000
/-! Sets of nested tuples in the interpreter: made, sorted, counted. -/
namespace Pd
open PySem L2
/-! ### sorting: one outcome -/
mutual
theorem same_of_eqv : ∀ (x y : D), PySem.W.alike x y = true → PyData.eqv x y = true → x = y
  | .none, .none, _, _ => rfl
  | .bool a, .bool b, _, h => by cases a <;> cases b <;> first | rfl | (exact absurd h (by decide))
  | .int a, .int b, _, h => by simp [PyData.eqv] at h; rw [h]
  | .str a, .str b, _, h => by simp [PyData.eqv] at h; rw [h]
  | .list xs, .list ys, h1, h2 => by rw [sames_of_eqv xs ys h1 (by simpa [PyData.eqv] using h2)]
  | .tuple xs, .tuple ys, h1, h2 => by rw [sames_of_eqv xs ys h1 (by simpa [PyData.eqv] using h2)]
theorem sames_of_eqv : ∀ (xs ys : List D), PySem.W.alikeAll xs ys = true → PyData.eqvAll xs ys = true → xs = ys
  | [], [], _, _ => rfl
  | x :: xs, y :: ys, h1, h2 => by
    obtain ⟨a1, a2⟩ := PySem.W.alike_all_cons h1
    simp [PyData.eqvAll] at h2
    rw [same_of_eqv x y a1 h2.1, sames_of_eqv xs ys a2 h2.2]
end
theorem leD_anti {x y : D} (al : PySem.W.alike x y = true) (h1 : leD x y = true) (h2 : leD y x = true) : x = y := by
  have h1 : (!PyProof.Rows.lexLt PyProof.Rows.itemOrd (PySem.W.keyToks y) (PySem.W.keyToks x)) = true := h1
  have h2 : (!PyProof.Rows.lexLt PyProof.Rows.itemOrd (PySem.W.keyToks x) (PySem.W.keyToks y)) = true := h2
  rw [Bool.not_eq_true'] at h1 h2
  have e := PyProof.Rows.lex_total _ _ h2 h1
  cases q : PyData.eqv x y with
  | true => exact same_of_eqv x y al q
  | false =>
    have z1 := (PySem.W.toks_eqv x y al).2 q [] [.inl 0]
    rw [e, PyProof.Rows.lex_irrefl, PySem.W.lex_pre] at z1
    cases z1
theorem sorted_one {l l' : List D} (p : l.Perm l') (h1 : l.Pairwise (fun a b => leD a b = true)) (h2 : l'.Pairwise (fun a b => leD a b = true)) (al : ∀ a ∈ l, ∀ b ∈ l, PySem.W.alike a b = true) : l = l' :=
  List.Perm.eq_of_pairwise (fun a b ma mb x y => leD_anti (al a ma b (p.mem_iff.mpr mb)) x y) h1 h2 p
theorem sortD_pair (l : List D) : (sortD l).Pairwise (fun a b => leD a b = true) := by
  rw [← sortD_eq]
  exact List.pairwise_mergeSort leD_total.trans (fun a b => Bool.or_eq_true_iff.mpr (leD_total.total a b)) l
theorem perm_sortD (l : List D) : (sortD l).Perm l := by
  rw [← sortD_eq]
  exact List.mergeSort_perm _ _
theorem sorted_perm {l l' : List D} (p : l.Perm l') (al : ∀ a ∈ l, ∀ b ∈ l, PySem.W.alike a b = true) : sortD l = sortD l' :=
  sorted_one ((perm_sortD l).trans (p.trans (perm_sortD l').symm)) (sortD_pair _) (sortD_pair _) fun a ma b mb => al a ((perm_sortD l).mem_iff.mp ma) b ((perm_sortD l).mem_iff.mp mb)
theorem all_perm {l l' : List D} (p : l.Perm l') (f : D → Bool) : l.all f = l'.all f := by
  rw [Bool.eq_iff_iff, List.all_eq_true, List.all_eq_true]
  exact ⟨fun h x m => h x (p.mem_iff.mpr m), fun h x m => h x (p.mem_iff.mp m)⟩
theorem alike_perm {l l' : List D} (p : l.Perm l') : allAlike l = allAlike l' := by
  unfold allAlike
  rw [all_perm p]
  congr 1
  funext x
  exact all_perm p _
theorem sortOk_perm {l l' : List D} (p : l.Perm l') : sortOk l = sortOk l' := by
  unfold sortOk
  rw [alike_perm p, all_perm p tupNe, all_perm p notTup, all_perm p isTupB, all_perm p (fun d => decide (d.depth ≤ 60)), p.length_eq]
theorem sortOk_alike {l : List D} (h : sortOk l = true) : ∀ a ∈ l, ∀ b ∈ l, PySem.W.alike a b = true := by
  unfold sortOk at h
  have h1 := (Bool.and_eq_true_iff.mp (Bool.and_eq_true_iff.mp (Bool.and_eq_true_iff.mp h).1).1).1
  exact fun x mx y my => List.all_eq_true.mp (List.all_eq_true.mp h1 x mx) y my
/-! ### nested keys as data -/
abbrev nd : NestedKey → D := NestedKey.data
theorem datas_map : ∀ ks : List NestedKey, NestedKey.datas ks = ks.map nd
  | [] => rfl
  | k :: r => by
    rw [List.map_cons, ← datas_map r]
    rfl
mutual
theorem nk_of : ∀ d : D, nkB d = true → ∃ k : NestedKey, d = nd k
  | .none, _ => ⟨.none, rfl⟩
  | .int i, _ => ⟨.num i, rfl⟩
  | .str x, _ => ⟨.text x, rfl⟩
  | .tuple xs, h => by
    obtain ⟨ks, e⟩ := nks_of xs h
    refine ⟨.tup ks, ?_⟩
    rw [e]
    rfl
  | .bool _, h => nomatch h
  | .list _, h => nomatch h
  | .dict _, h => nomatch h
theorem nks_of : ∀ xs : List D, nkBs xs = true → ∃ ks : List NestedKey, xs = NestedKey.datas ks
  | [], _ => ⟨[], rfl⟩
  | x :: xs, h => by
    have h : (nkB x && nkBs xs) = true := h
    obtain ⟨h1, h2⟩ := Bool.and_eq_true_iff.mp h
    obtain ⟨k, e1⟩ := nk_of x h1
    obtain ⟨ks, e2⟩ := nks_of xs h2
    refine ⟨k :: ks, ?_⟩
    rw [e1, e2]
    rfl
end
mutual
theorem nd_depth : ∀ k : NestedKey, (nd k).depth = k.depth
  | .none => rfl
  | .num _ => rfl
  | .text _ => rfl
  | .tup ks => by
    show PyData.depthAll (NestedKey.datas ks) + 1 = NestedKey.depthAll ks + 1
    rw [nds_depth ks]
theorem nds_depth : ∀ ks : List NestedKey, PyData.depthAll (NestedKey.datas ks) = NestedKey.depthAll ks
  | [] => rfl
  | k :: ks => by
    show max (nd k).depth (PyData.depthAll (NestedKey.datas ks)) = max k.depth (NestedKey.depthAll ks)
    rw [nd_depth k, nds_depth ks]
end
mutual
theorem eqK_nd : ∀ a b : NestedKey, eqK (nd a) (nd b) = NestedKey.beq a b
  | .none, b => by cases b <;> rfl
  | .num _, b => by cases b <;> rfl
  | .text _, b => by cases b <;> rfl
  | .tup xs, .tup ys => eqKs_nd xs ys
  | .tup _, .none => rfl
  | .tup _, .num _ => rfl
  | .tup _, .text _ => rfl
theorem eqKs_nd : ∀ xs ys : List NestedKey, eqKs (NestedKey.datas xs) (NestedKey.datas ys) = NestedKey.beqAll xs ys
  | [], [] => rfl
  | [], _ :: _ => rfl
  | _ :: _, [] => rfl
  | x :: xs, y :: ys => by
    show (eqK (nd x) (nd y) && eqKs (NestedKey.datas xs) (NestedKey.datas ys)) = (NestedKey.beq x y && NestedKey.beqAll xs ys)
    rw [eqK_nd x y, eqKs_nd xs ys]
end
theorem any_nd (k : NestedKey) (l : List NestedKey) : (l.map nd).any (eqK (nd k)) = true ↔ k ∈ l := by
  rw [List.any_map, List.any_eq_true]
  constructor
  · rintro ⟨a, m, e⟩
    rw [Function.comp_apply, eqK_nd] at e
    rw [NestedKey.eq_of_beq k a e]
    exact m
  · intro m
    refine ⟨k, m, ?_⟩
    rw [Function.comp_apply, eqK_nd]
    exact NestedKey.beq_self k
theorem uniq_nd : ∀ (ks acc : List NestedKey), uniqD (acc.map nd) (ks.map nd) = (Ps.uniqK acc ks).map nd
  | [], acc => rfl
  | k :: r, acc => by
    rw [List.map_cons]
    unfold uniqD Ps.uniqK
    by_cases m : k ∈ acc
    · rw [if_pos ((any_nd k acc).mpr m), if_pos m]
      exact uniq_nd r acc
    · rw [if_neg (fun z => m ((any_nd k acc).mp z)), if_neg m]
      have : (acc ++ [k]).map nd = acc.map nd ++ [nd k] := by rw [List.map_append]; rfl
      rw [← this]
      exact uniq_nd r (acc ++ [k])
mutual
theorem reads_nk {h : Heap} : ∀ (k : NestedKey) (v : Value) (as : List Addr), Reads h v (nd k) as → NestedIs h k v ∧ as = []
  | .none, _, _, r => by cases r; exact ⟨.none, rfl⟩
  | .num i, _, _, r => by cases r; exact ⟨.int _ _, rfl⟩
  | .text x, _, _, r => by cases r; exact ⟨.text _ _, rfl⟩
  | .tup ks, _, _, r => by
    have r : Reads h _ (.tuple (NestedKey.datas ks)) _ := r
    cases r with
    | tuple h1 h2 h3 h4 =>
      obtain ⟨a, b⟩ := readss_nk ks _ _ h4
      exact ⟨.tup h1 h2 h3 a, b⟩
theorem readss_nk {h : Heap} : ∀ (ks : List NestedKey) (vs : List Value) (as : List Addr), ReadsAll h vs (NestedKey.datas ks) as → NestedAll h ks vs ∧ as = []
  | [], _, _, r => by
    have r : ReadsAll h _ [] _ := r
    cases r
    exact ⟨.nil, rfl⟩
  | k :: ks, _, _, r => by
    have r : ReadsAll h _ (nd k :: NestedKey.datas ks) _ := r
    cases r with
    | cons h1 h2 =>
      obtain ⟨a1, b1⟩ := reads_nk k _ _ h1
      obtain ⟨a2, b2⟩ := readss_nk ks _ _ h2
      exact ⟨.cons a1 a2, by rw [b1, b2]; rfl⟩
end
theorem nests_of : ∀ {ds : List D}, ds.all nestB = true → ∃ ks : List NestedKey, ds = ks.map nd ∧ ∀ k ∈ ks, (∃ l, k = .tup l) ∧ k.depth ≤ 7
  | [], _ => ⟨[], rfl, fun _ m => nomatch m⟩
  | d :: r, h => by
    obtain ⟨h1, h2⟩ := List.all_cons (f := nestB) ▸ h |> Bool.and_eq_true_iff.mp
    obtain ⟨ks, e, hk⟩ := nests_of h2
    unfold nestB at h1
    obtain ⟨h3, h4⟩ := Bool.and_eq_true_iff.mp h1
    obtain ⟨h5, h6⟩ := Bool.and_eq_true_iff.mp h3
    obtain ⟨k, rfl⟩ := nk_of d h6
    refine ⟨k :: ks, by rw [e]; rfl, fun k' m => ?_⟩
    rcases List.mem_cons.mp m with rfl | m
    · refine ⟨?_, by rw [← nd_depth]; exact of_decide_eq_true h4⟩
      cases k' with
      | tup l => exact ⟨l, rfl⟩
      | _ => cases h5
    · exact hk k' m
/-! ### the set, between -/
def NSetO (P : Program) (w : World) (a : Addr) (L : List (Addr × NestedKey)) : HO := .ext fun h => Pn.N0 P w h a L
theorem nsetO_new {P : Program} {w : World} {H : Hp} {h : Heap} {a : Addr} {L : List (Addr × NestedKey)} (R : Pn.N0 P w h a L) : ObjOk P w H h a (NSetO P w a L) := by
  have ⟨es, ep, t, ⟨o, ho, z⟩, y⟩ := R
  refine ⟨R, ⟨o, ho⟩, fun h1 h2 p k => ?_⟩
  obtain ⟨es', ep', t', ⟨o', ho', z'⟩, y'⟩ := (show Pn.N0 P w h1 a L from p)
  exact ⟨es', ep', t', ⟨o', k o' ho', z'⟩, y'⟩
/-- the members, as the layer and as the heap have them -/
structure Mem (X : Cx) (B : Hp) (s : Shared) (p : Addr × NestedKey) : Prop where
  dq : Dq X.K B (.ref p.1) (nd p.2)
  is : (nestedKind X.prog X.w).is s.heap p.2 p.1
theorem mem_at {X : Cx} {pins : List (Addr × Obj)} {σ : L2.St} {H B : Hp} {s : Shared} (I : Inv X pins σ H s) (sb : Sub B H) {a : Addr} {k : NestedKey} (h : Dq X.K B (.ref a) (nd k)) : ∃ as, Reads s.heap (.ref a) (nd k) as := Dp.reads I _ _ _ (Dq.dp _ _ (Dq.mono sb _ _ h)) rfl
theorem mems_of {X : Cx} {pins : List (Addr × Obj)} {σ : L2.St} {H B : Hp} {s : Shared} (I : Inv X pins σ H s) (sb : Sub B H) : ∀ {ws : List V} {its : List Value} {ks : List NestedKey}, Vals ws its → Dqs X.K B ws (ks.map nd) → (∀ k ∈ ks, (∃ l, k = .tup l) ∧ k.depth ≤ 7) →
    ∃ ps : List (Addr × NestedKey), its = ps.map (fun p => Value.ref p.1) ∧ ps.map (·.2) = ks ∧ ∀ p ∈ ps, Mem X B s p
  | _, _, [], .nil, .nil, _ => ⟨[], rfl, rfl, fun _ m => nomatch m⟩
  | _, _, k :: ks, .cons (a := v) (b := u) r t, .cons h g, hk => by
    obtain ⟨ps, e1, e2, all⟩ := mems_of I sb t g fun k m => hk k (.tail _ m)
    obtain ⟨⟨l, rfl⟩, hd⟩ := hk k (.head _)
    cases v with
    | ref a =>
      have e : u = Value.ref a := r
      subst e
      obtain ⟨as, rd⟩ := mem_at I sb h
      refine ⟨(a, .tup l) :: ps, by rw [e1]; rfl, by rw [List.map_cons, e2], fun p m => ?_⟩
      rcases List.mem_cons.mp m with rfl | m
      · exact ⟨h, (reads_nk _ _ _ rd).1, Nat.le_trans hd (by decide)⟩
      · exact all p m
    | _ => cases h
section
variable {X : Cx}
def rSetN (K : PySem.W.Frag) (P : Program) (w : World) : List V → Hp → VK → Prop := fun vs H Q => ∃ B x ds ks, Sub B H ∧ Rds K B H vs [x] ∧ (x = .list ds ∨ x = .tuple ds) ∧ ds = ks.map nd ∧ (∀ k ∈ ks, (∃ l, k = .tup l) ∧ k.depth ≤ 7) ∧ ks.length < 64 ∧
  ∀ p L, H p = none → (L.map (·.2)).Perm (Ps.uniqK [] ks) → (∀ q ∈ L, Dq K B (.ref q.1) (nd q.2)) → Q (.ref p) (upd H p (NSetO P w p L))
theorem cr_setN (hc : X.calm = true) (hu : X.A.units + 70 < cLine) : CallR X (.type "set") (rSetN X.K X.prog X.w) := by
  intro pins s σ H vs us Q I r ⟨B, x, ds, ks, sb, hx, ex, ed, hk, few, q⟩
  obtain ⟨v, rfl, h⟩ := rds1 hx
  have hn : H s.heap.objs.size = none := I.hok.fresh (Nat.le_refl _)
  have go : ∀ {ws : List V} {its : List Value}, Vals ws its → Dqs X.K B ws ds → ∃ ps : List (Addr × NestedKey), its = ps.map (fun p => Value.ref p.1) ∧ ps.map (·.2) = ks ∧ ∀ p ∈ ps, Mem X B s p := fun {ws its} rv hd => by
    rw [ed] at hd
    exact mems_of I sb rv hd hk
  have add : ∀ {ps : List (Addr × NestedKey)}, ps.map (·.2) = ks → (∀ p ∈ ps, Mem X B s p) → ∀ (A' : Around) (E' : Value → Shared → Prop), A'.handled = none → A'.units ≤ X.A.units + 8 →
      Ps.Adds X.prog X.w A' E' s.heap.objs.size (Pn.NStep X.prog X.w s.heap ps s.heap.objs.size) (ps.map fun p => Value.ref p.1) := fun {ps} e all A' E' h3 h4 =>
    Pn.nstep_adds (fun p m => (all p m).is) (by rw [← List.length_map (as := ps) (f := (·.2)), e]; exact few) (by omega)
  have fin : ∀ {ps : List (Addr × NestedKey)} (h1 : Heap) (tk n : Nat), n = ps.length → ps.map (·.2) = ks → (∀ p ∈ ps, Mem X B s p) → Pn.NStep X.prog X.w s.heap ps s.heap.objs.size n h1 → (∀ b o, s.heap.get? b = some o → h1.get? b = some o) →
      EP X pins σ Q (.ref s.heap.objs.size) { s with heap := h1, toks := tk } := fun {ps} h1 tk n en e all ⟨_, L, R, pm, mem⟩ k => by
    rw [en, List.take_length, e] at pm
    exact ⟨.ref s.heap.objs.size, upd H s.heap.objs.size (NSetO X.prog X.w s.heap.objs.size L), I.laid (t' := tk) k (Nat.le_refl _) (nsetO_new R), rfl, q _ L hn pm fun p m => (all p (mem p m)).dq⟩
  rcases ex with rfl | rfl
  · obtain ⟨p, ws, rfl, h1, h2⟩ := h.lst sb
    obtain ⟨its, rv, pl, hz⟩ := I.list h1
    rw [Vals.ref1 r]
    obtain ⟨ps, e1, e2, all⟩ := go rv h2
    refine Ps.call_set_L (T := Pn.NStep X.prog X.w s.heap ps s.heap.objs.size) (I.ok.hd hc) pl.isList Pn.nstep_stay (fun h0 ho kp => ⟨kp, [], Pn.n0_fresh ho, .refl _, fun _ m => nomatch m⟩) (fun A' E' h3 h4 => ?_) fun h1 tk R k => fin h1 tk _ (by rw [e1]; simp) e2 all R k
    have := add e2 all A' E' h3 h4
    rw [← e1] at this
    simpa using this
  · obtain ⟨p, ws, rfl, h1, h2, _⟩ := h.tup sb
    obtain ⟨its, rv, pl, hz⟩ := I.tuple h1
    rw [Vals.ref1 r]
    obtain ⟨ps, e1, e2, all⟩ := go rv h2
    refine Ps.call_set_T (T := Pn.NStep X.prog X.w s.heap ps s.heap.objs.size) (I.ok.hd hc) pl Pn.nstep_stay (fun h0 ho kp => ⟨kp, [], Pn.n0_fresh ho, .refl _, fun _ m => nomatch m⟩) (fun A' E' h3 h4 => ?_) fun h1 tk R k => fin h1 tk _ (by rw [e1]; simp) e2 all R k
    have := add e2 all A' E' h3 h4
    rw [← e1] at this
    simpa using this
def rSrtN (K : PySem.W.Frag) (P : Program) (w : World) : List V → Hp → VK → Prop := fun vs H Q => ∃ B a L, Sub B H ∧ vs = [.ref a] ∧ H a = some (NSetO P w a L) ∧ (∀ q ∈ L, Dq K B (.ref q.1) (nd q.2)) ∧ sortOk (L.map fun q => nd q.2) = true ∧
  ∀ p ws, H p = none → Dqs K B ws (sortD (L.map fun q => nd q.2)) → Q (.ref p) (upd H p (.lst ws))
theorem each_nk {K : PySem.W.Frag} {B : Hp} {h : Heap} {a : Addr} : ∀ (M : List (Addr × NestedKey)), (∀ q ∈ M, Dq K B (.ref q.1) (nd q.2) ∧ ∃ as, Reads h (.ref q.1) (nd q.2) as) →
    PySem.W.EachIs (fun (u : Value) (b : V × D) => RelV b.1 u ∧ Dq K B b.1 b.2) (M.map fun q => Value.ref q.1) (M.map fun q => (V.ref q.1, nd q.2)) ∧ PySem.W.EachIs (fun (u : Value) (b : V × D) => ∃ as, PySem.Reads h u b.2 as ∧ a ∉ as) (M.map fun q => Value.ref q.1) (M.map fun q => (V.ref q.1, nd q.2))
  | [], _ => ⟨.nil, .nil⟩
  | q :: r, all => by
    obtain ⟨e1, e2⟩ := each_nk (h := h) (a := a) r fun q m => all q (.tail _ m)
    obtain ⟨h1, as, h2⟩ := all q (.head _)
    refine ⟨.cons ⟨rfl, h1⟩ e1, .cons ⟨as, h2, ?_⟩ e2⟩
    rw [(reads_nk _ _ _ h2).2]
    exact fun m => nomatch m
open PyProof.Rows in
theorem cr_srtN (hc : X.calm = true) (hu : X.A.units + 70 < cLine) : CallR X (.builtin "sorted") (rSrtN X.K X.prog X.w) := by
  intro pins s σ H vs us Q I r ⟨B, a, L, sb, e0, ha, hd, hk, q⟩
  subst e0
  rw [Vals.ref1 r]
  have R0 : Pn.N0 X.prog X.w s.heap a L := (I.hok a _ ha).1
  have rd := fun p m => mem_at I sb (hd p m)
  obtain ⟨es, ep, t, ⟨ob, hob, hx, hdt⟩, rows, T, ndp, ld, room, few⟩ := R0
  have se := Pn.size_of rows
  obtain ⟨hk1, k4⟩ := Bool.and_eq_true_iff.mp hk
  obtain ⟨hk2, k3⟩ := Bool.and_eq_true_iff.mp hk1
  obtain ⟨k1, k2⟩ := Bool.and_eq_true_iff.mp hk2
  refine Calls.call_function_entry PyProof.Rows.kind_sorted PyProof.Rows.plain_sorted PyProof.Rows.entry_sorted (PyProof.Rows.args_sorted1 _) ?_
  unfold Builtin.«sorted»
  refine wpAny_bind (m := checkCount "sorted" 1 1 _) (wpAny_pure ?_)
  refine wpAny_bind (collect_set (A := X.A.in1) (I.ok.hd hc) ⟨ob, hob, hx.1, hdt⟩ (Pn.fits_of rows T (by omega)) (by unfold scanBound; omega) T.ris ld fun s1 vs kp hz g1 o1 pm => ?_)
  have pm : vs.Perm (L.map fun q => Value.ref q.1) := by
    rw [rows] at pm
    unfold Pn.ents at pm
    rw [List.map_map] at pm
    exact pm
  obtain ⟨M, rfl, pM⟩ := Ps.perm_of_map pm
  have lM : M.length < 64 := by rw [pM.length_eq]; exact few
  have vl : (M.map fun q => Value.ref q.1).length ≤ sizeLine := by rw [List.length_map, sizeLine_eq]; omega
  refine wpAny_bind (wpAny_newList ?_ vl)
  have hoL : (s1.heap.push (seqObj "list" (M.map fun q => Value.ref q.1).toArray 0)).get? s1.heap.objs.size = some (seqObj "list" (M.map fun q => Value.ref q.1).toArray 0) := Heap.get?_push_size _ rfl
  obtain ⟨e1, e2⟩ := each_nk (K := X.K) (B := B) (h := s1.heap.push (seqObj "list" (M.map fun q => Value.ref q.1).toArray 0)) (a := s1.heap.objs.size) M fun p m => by
    have mL := pM.mem_iff.mp m
    obtain ⟨as, r1⟩ := rd p mL
    exact ⟨hd p mL, as, PyProof.Rows.Reads.keeps (fun b u e => Heap.get?_push_of_some _ (kp b u e)) r1⟩
  have hsnd : (M.map fun q => (V.ref q.1, nd q.2)).map Prod.snd = M.map fun q => nd q.2 := by rw [List.map_map] <;> rfl
  have pD : (M.map fun q => nd q.2).Perm (L.map fun q => nd q.2) := pM.map _
  have hkM : sortOk (M.map fun q => nd q.2) = true := by rw [sortOk_perm pD]; exact hk
  refine wpAny_bind (wpAny_holding (Pn.list_sort_any (enc := Prod.snd) (s := { s1 with heap := s1.heap.push (seqObj "list" (M.map fun q => Value.ref q.1).toArray 0) }) hoL e1 e2 ?_ ?_ ?_ ?_ fun out h3 h4 => ?_))
  · rw [hsnd]
    exact sortOk_alike hkM
  · rw [hsnd]
    exact sorts_of (Bool.and_eq_true_iff.mp (Bool.and_eq_true_iff.mp (Bool.and_eq_true_iff.mp hkM).1).1).2
  · rw [List.length_map, sizeLine_eq]
    omega
  · intro b hb
    obtain ⟨p, mp, rfl⟩ := List.mem_map.mp hb
    have := of_decide_eq_true (List.all_eq_true.mp k3 _ (List.mem_map_of_mem (f := fun q : Addr × NestedKey => nd q.2) (pM.mem_iff.mp mp)))
    show X.A.units + 1 + 1 + (nd p.2).depth < cLine
    omega
  · obtain ⟨g1', g2⟩ := each_vals h4
    have em : ((M.map fun q => (V.ref q.1, nd q.2)).mergeSort (PySem.W.dataLe false Prod.snd)).map Prod.snd = sortD (L.map fun q => nd q.2) := by
      rw [List.map_mergeSort (r := PySem.W.dataLe false Prod.snd) (s := leD) (f := Prod.snd) (l := M.map fun q => (V.ref q.1, nd q.2)) (fun a _ b _ => rfl), hsnd, sortD_eq]
      exact sorted_perm pD (sortOk_alike hkM)
    rw [em] at g2
    obtain ⟨c, hc'⟩ := sortedHeap_at (vs := M.map fun q => Value.ref q.1) (out := out.toArray) hoL
    have hn : H s1.heap.objs.size = none := I.hok.fresh hz
    have hlen : (((M.map fun q => (V.ref q.1, nd q.2)).mergeSort (PySem.W.dataLe false Prod.snd)).map (·.1)).length ≤ sizeLine := by
      rw [List.length_map, List.length_mergeSort, List.length_map, sizeLine_eq]
      omega
    have kp2 : ∀ b u, s.heap.get? b = some u → (sortedHeap (s1.heap.push (seqObj "list" (M.map fun q => Value.ref q.1).toArray 0)) s1.heap.objs.size (M.map fun q => Value.ref q.1) out.toArray).get? b = some u := fun b u e => by
      have z := kp b u e
      have lt := Heap.lt_size z
      rw [sortedHeap_old (Nat.ne_of_lt lt) (by rw [size_push']; exact Nat.lt_succ_of_lt lt)]
      exact Heap.get?_push_of_some _ z
    have J : Inv X pins σ (upd H s1.heap.objs.size (.lst (((M.map fun q => (V.ref q.1, nd q.2)).mergeSort (PySem.W.dataLe false Prod.snd)).map (·.1)))) { s with heap := sortedHeap (s1.heap.push (seqObj "list" (M.map fun q => Value.ref q.1).toArray 0)) s1.heap.objs.size (M.map fun q => Value.ref q.1) out.toArray, gens := s1.gens, drawn := s1.drawn, toks := s1.toks } :=
      I.call (ch := []) (Un.laid kp2 hz hn) (I.hok.laid kp2 hz ⟨hlen, out, c, g1', hc'⟩) (by rw [g1]; exact I.bare) (fun _ z => nomatch z)
    refine wpAny_pure ⟨_, rfl, .ref s1.heap.objs.size, _, ?_, rfl, q _ _ hn g2⟩
    have e : s1 = { s with heap := s1.heap, gens := s1.gens, drawn := s1.drawn, toks := s1.toks } := by
      cases s1
      cases s
      cases o1
      rfl
    rw [e]
    exact J
def rLenN (P : Program) (w : World) : List V → Hp → VK → Prop := fun vs H Q => ∃ a L, vs = [.ref a] ∧ H a = some (NSetO P w a L) ∧ Q (.int L.length) H
theorem cr_lenN : CallR X (.builtin "len") (rLenN X.prog X.w) := by
  intro pins s σ H vs us Q I r ⟨a, L, e0, ha, q⟩
  subst e0
  obtain ⟨es, ep, t, ⟨ob, hob, hx, hdt⟩, rows, T, ndp, ld, room, few⟩ : Pn.N0 X.prog X.w s.heap a L := (I.hok a _ ha).1
  rw [Vals.ref1 r]
  have se := Pn.size_of rows
  refine call_len_set hob hx hdt (Pn.fits_of rows T (by omega)) (by omega) ⟨.int _, H, I.tok _, ⟨_, by rw [se]⟩, q⟩
theorem cr_or {c : Value} {r1 r2 : List V → Hp → VK → Prop} (h1 : CallR X c r1) (h2 : CallR X c r2) : CallR X c (fun vs H Q => r1 vs H Q ∨ r2 vs H Q) := fun pins s σ H vs us Q I r h => by
  rcases h with h | h
  · exact h1 pins s σ H vs us Q I r h
  · exact h2 pins s σ H vs us Q I r h
end
end Pd

set_option Elab.async false
set_option linter.all false
set_option maxRecDepth 100000
set_option maxHeartbeats 2000000
/-! Sets made, sorted or counted at once; kinds of values. -/
namespace Pd
open PySem L2
/-! ### keys as data -/
def encK : Key → D
  | .inl i => .int i
  | .inr x => .str x
def keysOf : List D → Option (List Key)
  | [] => some []
  | d :: r => (keyD d).bind fun k => (keysOf r).map (k :: ·)
theorem keysOf_of : ∀ {ds : List D}, ds.all atomB = true → ∃ ks, keysOf ds = some ks ∧ ds = ks.map encK
  | [], _ => ⟨[], rfl, rfl⟩
  | d :: r, h => by
    obtain ⟨h1, h2⟩ := List.all_cons (f := atomB) ▸ h |> Bool.and_eq_true_iff.mp
    obtain ⟨ks, e, rfl⟩ := keysOf_of h2
    cases d with
    | int i => exact ⟨.inl i :: ks, by unfold keysOf; rw [e]; rfl, rfl⟩
    | str i => exact ⟨.inr i :: ks, by unfold keysOf; rw [e]; rfl, rfl⟩
    | _ => cases h1
theorem eqK_enc (a b : Key) : eqK (encK a) (encK b) = decide (a = b) := by
  cases a with
  | inl i =>
    cases b with
    | inl j =>
      show decide (i = j) = _
      by_cases e : i = j
      · subst e; simp
      · have h : ¬ (Sum.inl i : Key) = Sum.inl j := fun q => e (Sum.inl.inj q)
        rw [decide_eq_false h, decide_eq_false e]
    | inr j => exact (decide_eq_false (fun q => nomatch q)).symm
  | inr i =>
    cases b with
    | inl j => exact (decide_eq_false (fun q => nomatch q)).symm
    | inr j =>
      show decide (i = j) = _
      by_cases e : i = j
      · subst e; simp
      · have h : ¬ (Sum.inr i : Key) = Sum.inr j := fun q => e (Sum.inr.inj q)
        rw [decide_eq_false h, decide_eq_false e]
theorem any_enc (k : Key) (l : List Key) : (l.map encK).any (eqK (encK k)) = true ↔ k ∈ l := by
  rw [List.any_map, List.any_eq_true]
  constructor
  · rintro ⟨a, m, e⟩
    rw [Function.comp_apply, eqK_enc] at e
    rw [of_decide_eq_true e]
    exact m
  · intro m
    refine ⟨k, m, ?_⟩
    rw [Function.comp_apply, eqK_enc]
    exact decide_eq_true rfl
theorem uniq_enc : ∀ (ks acc : List Key), uniqD (acc.map encK) (ks.map encK) = (Ps.uniqK acc ks).map encK
  | [], acc => rfl
  | k :: r, acc => by
    rw [List.map_cons]
    unfold uniqD Ps.uniqK
    by_cases m : k ∈ acc
    · rw [if_pos ((any_enc k acc).mpr m), if_pos m]
      exact uniq_enc r acc
    · rw [if_neg (fun z => m ((any_enc k acc).mp z)), if_neg m]
      have : (acc ++ [k]).map encK = acc.map encK ++ [encK k] := by rw [List.map_append]; rfl
      rw [← this]
      exact uniq_enc r (acc ++ [k])
theorem kV_dq {K : PySem.W.Frag} {B : Hp} (k : Key) : Dq K B (kV k) (encK k) := by
  cases k with
  | inl i => exact .int i
  | inr x => exact .str x
theorem kVs_dq {K : PySem.W.Frag} {B : Hp} : ∀ ks : List Key, Dqs K B (ks.map kV) (ks.map encK)
  | [] => .nil
  | k :: r => .cons (kV_dq k) (kVs_dq r)
theorem rels_of_is {P : Program} {w : World} : ∀ {vs : List Value} {ks : List Key}, PySem.W.EachIs (fun v k => (mixKind P w).is k v = true) vs ks → Vals (ks.map kV) vs
  | _, _, .nil => .nil
  | _, _, .cons h t => .cons (keyIs_rel h) (rels_of_is t)
theorem keysV_of {K : PySem.W.Frag} {P : Program} {w : World} {B : Hp} : ∀ {ws : List V} {its : List Value} {ds : List D} {ks : List Key}, Vals ws its → Dqs K B ws ds → keysOf ds = some ks → Ps.KeysV (mixKind P w) its ks
  | _, _, _, _, .nil, .nil, e => by
    cases e
    exact ⟨rfl, fun i v h => by simp at h⟩
  | _, _, _, _, .cons r t, .cons (d := d) h g, e => by
    unfold keysOf at e
    cases q : keyD d with
    | none => rw [q] at e; cases e
    | some k =>
      rw [q] at e
      cases q2 : keysOf _ with
      | none => rw [q2] at e; cases e
      | some kr =>
        rw [q2] at e
        cases e
        obtain ⟨l1, l2⟩ := keysV_of (P := P) (w := w) t g q2
        refine ⟨by rw [List.length_cons, List.length_cons, l1], fun i v hv => ?_⟩
        cases i with
        | succ i => exact l2 i v (by simpa using hv)
        | zero =>
          cases (Option.some.inj hv)
          refine ⟨k, rfl, ?_⟩
          cases d with
          | int i =>
            cases q
            cases h
            obtain ⟨tk, rfl⟩ := r
            exact ⟨keyIs_int i tk, rfl⟩
          | str i =>
            cases q
            cases h
            obtain ⟨tk, rfl⟩ := r
            exact ⟨keyIs_str i tk, rfl⟩
          | _ => cases q
/-! ### the set, between -/
def KSetO (P : Program) (w : World) (a : Addr) (ks : List Key) : HO := .ext fun h => Ps.KSet (mixKind P w) h a ks
theorem ksetO_new {P : Program} {w : World} {H : Hp} {h : Heap} {a : Addr} {ks : List Key} (R : Ps.KSet (mixKind P w) h a ks) : ObjOk P w H h a (KSetO P w a ks) := by
  have ⟨o, es, ep, t, ho, z⟩ := R
  refine ⟨R, ⟨o, ho⟩, fun h1 h2 p k => ?_⟩
  obtain ⟨o', es', ep', t', ho', z'⟩ := (show Ps.KSet (mixKind P w) h1 a ks from p)
  exact ⟨o', es', ep', t', k o' ho', z'⟩
theorem setDs_some {x : D} {us : List D} (e : setDs x = some us) : (∃ ks ds, keysOf ds = some ks ∧ (x = .list ds ∨ x = .tuple ds) ∧ us = (Ps.uniqK [] ks).map encK ∧ ds.length ≤ 4000 ∧ ds.length = ks.length) ∨
    ∃ (ks : List NestedKey) (ds : List D), ds = ks.map nd ∧ (x = .list ds ∨ x = .tuple ds) ∧ us = (Ps.uniqK [] ks).map nd ∧ (∀ k ∈ ks, (∃ l, k = .tup l) ∧ k.depth ≤ 7) ∧ ks.length < 64 := by
  unfold setDs at e
  cases q : seqOf x with
  | none => rw [q] at e; cases e
  | some ds =>
    rw [q] at e
    have ex : x = .list ds ∨ x = .tuple ds := by
      unfold seqOf at q
      split at q
      · cases q; exact .inl rfl
      · cases q; exact .inr rfl
      · cases q
    change (if (ds.all atomB && decide (ds.length ≤ 4000)) || (ds.all nestB && decide (ds.length < 64)) then some (uniqD [] ds) else none) = some us at e
    split at e
    · rename_i hb
      cases e
      rcases Bool.or_eq_true_iff.mp hb with hb | hb
      · obtain ⟨h1, h2⟩ := Bool.and_eq_true_iff.mp hb
        obtain ⟨ks, ek, rfl⟩ := keysOf_of h1
        exact .inl ⟨ks, _, ek, ex, uniq_enc ks [], of_decide_eq_true h2, List.length_map _⟩
      · obtain ⟨h1, h2⟩ := Bool.and_eq_true_iff.mp hb
        obtain ⟨ks, rfl, hk⟩ := nests_of h1
        have := of_decide_eq_true h2
        rw [List.length_map] at this
        exact .inr ⟨ks, _, rfl, ex, uniq_nd ks [], hk, this⟩
    · cases e
section
variable {X : Cx} {xo : XO} {a : Expr} {ma : M RV} {pos : Pos}
def rSetD (K : PySem.W.Frag) (P : Program) (w : World) : List V → Hp → VK → Prop := fun vs H Q => ∃ B x ks ds, Sub B H ∧ Rds K B H vs [x] ∧ keysOf ds = some ks ∧ (x = .list ds ∨ x = .tuple ds) ∧ ds.length ≤ 4000 ∧ ds.length = ks.length ∧
  ∀ p, H p = none → Q (.ref p) (upd H p (KSetO P w p (Ps.uniqK [] ks)))
theorem cr_set (hc : X.calm = true) : CallR X (.type "set") (rSetD X.K X.prog X.w) := by
  intro pins s σ H vs us Q I r ⟨B, x, ks, ds, sb, hx, ek, ex, hl, hlk, q⟩
  obtain ⟨v, rfl, h⟩ := rds1 hx
  have hn : H s.heap.objs.size = none := I.hok.fresh (Nat.le_refl _)
  have room : ks.length + 1 < scanBound := by
    unfold scanBound
    omega
  have fin : ∀ {its : List Value} (h1 : Heap) (tk : Nat), its.length = ks.length → Ps.KSet (mixKind X.prog X.w) h1 s.heap.objs.size (Ps.uniqK [] (ks.take its.toArray.size)) → (∀ b o, s.heap.get? b = some o → h1.get? b = some o) → EP X pins σ Q (.ref s.heap.objs.size) { s with heap := h1, toks := tk } := fun {its} h1 tk el R k => by
    have es : its.toArray.size = ks.length := by rw [List.size_toArray]; exact el
    rw [es, List.take_length] at R
    exact ⟨.ref s.heap.objs.size, upd H s.heap.objs.size (KSetO X.prog X.w s.heap.objs.size (Ps.uniqK [] ks)), I.laid (t' := tk) k (Nat.le_refl _) (ksetO_new R), rfl, q _ hn⟩
  rcases ex with rfl | rfl
  · obtain ⟨p, ws, rfl, h1, h2⟩ := h.lst sb
    obtain ⟨its, rv, pl, hz⟩ := I.list h1
    rw [Vals.ref1 r]
    have kv := keysV_of (P := X.prog) (w := X.w) rv h2 ek
    refine Ps.call_set_L (T := fun (i : Nat) h => Ps.KSet (mixKind X.prog X.w) h s.heap.objs.size (Ps.uniqK [] (ks.take i))) (I.ok.hd hc) pl.isList Ps.kset_stay (fun h0 ho _ => Ps.kset_fresh ho) (fun A' E' h3 h4 => ?_) fun h1 tk R k => fin h1 tk kv.1 R k
    exact Ps.kset_adds (by simpa using kv) room
  · obtain ⟨p, ws, rfl, h1, h2, _⟩ := h.tup sb
    obtain ⟨its, rv, pl, hz⟩ := I.tuple h1
    rw [Vals.ref1 r]
    have kv := keysV_of (P := X.prog) (w := X.w) rv h2 ek
    refine Ps.call_set_T (T := fun (i : Nat) h => Ps.KSet (mixKind X.prog X.w) h s.heap.objs.size (Ps.uniqK [] (ks.take i))) (I.ok.hd hc) pl Ps.kset_stay (fun h0 ho _ => Ps.kset_fresh ho) (fun A' E' h3 h4 => ?_) fun h1 tk R k => fin h1 tk kv.1 R k
    exact Ps.kset_adds (by simpa using kv) room
def rSrtSet (P : Program) (w : World) : List V → Hp → VK → Prop := fun vs H Q => ∃ a ks, vs = [.ref a] ∧ H a = some (KSetO P w a ks) ∧ sortOk (ks.map encK) = true ∧
  ∀ (p : Addr) (zs : List Key), H p = none → zs.map encK = sortD (ks.map encK) → Q (.ref p) (upd H p (.lst (zs.map kV)))
theorem cr_srtSet (hc : X.calm = true) (hu : X.A.units + 70 < cLine) : CallR X (.builtin "sorted") (rSrtSet X.prog X.w) := by
  intro pins s σ H vs us Q I r ⟨a, ks, e0, ha, hk, q⟩
  subst e0
  have R : Ps.KSet (mixKind X.prog X.w) s.heap a ks := (I.hok a _ ha).1
  rw [Vals.ref1 r]
  unfold sortOk at hk
  obtain ⟨hk1, k4⟩ := Bool.and_eq_true_iff.mp hk
  obtain ⟨hk2, k3⟩ := Bool.and_eq_true_iff.mp hk1
  obtain ⟨k1, k2⟩ := Bool.and_eq_true_iff.mp hk2
  have al : ∀ x ∈ ks.map encK, ∀ y ∈ ks.map encK, PySem.W.alike x y = true := fun x mx y my => List.all_eq_true.mp (List.all_eq_true.mp k1 x mx) y my
  refine Ps.sorted_kset (enc := encK) R (I.ok.hd hc) (by omega) (fun h k v hv => ?_) (fun x mx y my => al _ (List.mem_map_of_mem mx) _ (List.mem_map_of_mem my)) (fun k => ?_) (fun k => ?_) fun s1 p out c zs k1 g o hp hg pz ez => ?_
  · rcases keyIs_shape hv with ⟨i, t, rfl, rfl⟩ | ⟨x, t, rfl, rfl⟩
    · exact .int i t
    · exact .str x t
  · cases k <;> exact ⟨fun z => (nomatch z), fun _ z => nomatch z⟩
  · cases k <;> rfl
  · have hn : H p = none := I.hok.fresh hp
    have em : (zs.mergeSort (PySem.W.dataLe false encK)).map encK = sortD (ks.map encK) := by
      rw [List.map_mergeSort (r := PySem.W.dataLe false encK) (s := leD) (f := encK) (l := zs) (fun a _ b _ => rfl), sortD_eq]
      exact sorted_one ((perm_sortD _).trans ((pz.map encK).trans (perm_sortD _).symm)) (sortD_pair _) (sortD_pair _) fun x mx y my => al x (((pz.map encK).mem_iff).mp ((perm_sortD _).mem_iff.mp mx)) y (((pz.map encK).mem_iff).mp ((perm_sortD _).mem_iff.mp my))
    have hlen : ((zs.mergeSort (PySem.W.dataLe false encK)).map kV).length ≤ sizeLine := by
      rw [List.length_map, List.length_mergeSort, pz.length_eq]
      rw [List.length_map] at k4
      exact fits_le k4
    have hv : Vals ((zs.mergeSort (PySem.W.dataLe false encK)).map kV) out := rels_of_is ez
    have J : Inv X pins σ (upd H p (.lst ((zs.mergeSort (PySem.W.dataLe false encK)).map kV))) { s with heap := s1.heap, gens := s1.gens, drawn := s1.drawn, toks := s1.toks } :=
      I.call (ch := []) (Un.laid k1 hp hn) (I.hok.laid k1 hp ⟨hlen, out, c, hv, hg⟩) (by rw [g]; exact I.bare) (fun _ z => nomatch z)
    have e : s1 = { s with heap := s1.heap, gens := s1.gens, drawn := s1.drawn, toks := s1.toks } := by
      cases s1
      cases s
      cases o
      rfl
    rw [e]
    exact ⟨.ref p, _, J, rfl, q p _ hn em⟩
def rLenSet (P : Program) (w : World) : List V → Hp → VK → Prop := fun vs H Q => ∃ a ks, vs = [.ref a] ∧ H a = some (KSetO P w a ks) ∧ Q (.int ks.length) H
theorem cr_lenSet : CallR X (.builtin "len") (rLenSet X.prog X.w) := by
  intro pins s σ H vs us Q I r ⟨a, ks, e0, ha, q⟩
  subst e0
  obtain ⟨o, es, ep, t, ho, hx, hd, ⟨L, pL, rfl, fL⟩, nd, sz, ft, _⟩ : Ps.KSet (mixKind X.prog X.w) s.heap a ks := (I.hok a _ ha).1
  rw [Vals.ref1 r]
  have le : es.size = (L.map (·.2)).length := by rw [← Array.length_toList, ← pL.length_eq, List.length_map, List.length_map]
  refine call_len_set ho hx hd ft (by unfold scanBound at sz; omega) ⟨.int _, H, I.tok _, ⟨_, by rw [le]⟩, q⟩
/-! ### rules -/
theorem notStar_one {a : Expr} {env : Env} (h : notStar a = true) : starEach [a] env = (false, eval a env) :: starEach [] env := star_cons h
theorem tr_set1 {f : C → M RV} {σ : L2.St} {H : Hp} {Q : VK} {Q1 : List V → Hp → Prop} (h : T X.K xo (M.bind (asC ma) f) σ H Q)
    (k : ∀ (W W1 : Wd) (c : C) (s1 : PSt) (v : V) (H1 : Hp), Step W H W1 H1 → Sim X.K W1 s1 σ H1 → CRep X.K W1 v c → wpM (f c) s1 (PO X.K (RR X.K) W H σ Q) (PXO X.K xo W H σ) → Q1 [v] H1) : (tCons (T X.K xo ma) tNil) σ H Q1 := by
  obtain ⟨W, s, S, h⟩ := h
  exact tr_asC ⟨W, s, S, wp_bind h (fun c s1 h1 v W1 H1 st1 S1 r1 => k W W1 c s1 v H1 st1 S1 r1 h1) kx0⟩
theorem sd_srtSet {p p2 q : Pos} (hu : X.A.units + 70 < cLine) (hc : X.calm = true) (hg : L2.Gl X "sorted") (hm : X.mg "sorted" = none) (hg2 : L2.Gl X "set") (hm2 : X.mg "set" = none) (ha : PE X a (T X.K xo ma)) (hs : notStar a = true) :
    PE X (.Call (.Name "sorted" p) [.Call (.Name "set" p2) [a] [] q] [] pos) (T X.K xo (srtSetM ma)) := by
  have pS := pe_callTy (pos := q) (p := p2) (cr_or (cr_set (X := X) hc) (cr_setN hc hu)) hg2 hm2 (by decide +kernel) (pa_cons ha pa_nil (star_cons hs)) (by decide) (by decide) (star_cons hs)
  refine (pe_callB (pos := pos) (p := p) (cr_or (cr_srtSet hc hu) (cr_srtN hc hu)) hg hm (by decide +kernel) (pa_cons pS pa_nil)).weak fun σ H Q h => ?_
  show (tCons (T X.K xo ma) tNil) σ H (fun vs H1 => (fun vs H Q => rSetD X.K X.prog X.w vs H Q ∨ rSetN X.K X.prog X.w vs H Q) vs H1 (fun x H2 => rSrtSet X.prog X.w [x] H2 Q ∨ rSrtN X.K X.prog X.w [x] H2 Q))
  refine tr_set1 h fun W W1 c s1 v H1 st1 S1 r1 h => ?_
  obtain ⟨x, ex, h⟩ := wp_bindR h
  obtain ⟨o, eo, h⟩ := wp_bindO h
  unfold srtSetO at eo
  cases e0 : setDs x with
  | none => rw [e0] at eo; cases eo
  | some us =>
    rw [e0] at eo
    change (if sortOk us then some (OpO.f (sortD us)) else none) = some o at eo
    split at eo
    · rename_i hk
      cases eo
      rcases setDs_some e0 with ⟨ks, ds, ek, exx, rfl, hl, hlk⟩ | ⟨ks, ds, ed, exx, rfl, hks, few⟩
      · refine .inl ⟨W1.B, x, ks, ds, S1.sub, .cons (S1.rd r1 ex) .nil, ek, exx, hl, hlk, fun b hb => .inl ⟨b, _, rfl, upd_same, hk, fun p zs hp ez => ?_⟩⟩
        have op := opost_of (S1.alloc (o := KSetO X.prog X.w b (Ps.uniqK [] ks)) hb) (st1.trans (Step.alloc hb)) h
        refine op p _ hp ?_
        rw [← ez]
        exact kVs_dq zs
      · refine .inr ⟨W1.B, x, ds, ks, S1.sub, .cons (S1.rd r1 ex) .nil, exx, ed, hks, few, fun b L hb pm hL => .inr ?_⟩
        have S2 := S1.alloc (o := NSetO X.prog X.w b L) hb
        have pD : (L.map fun q => nd q.2).Perm ((Ps.uniqK [] ks).map nd) := by
          have := pm.map nd
          rw [List.map_map] at this
          exact this
        refine ⟨W1.B, b, L, S2.sub, rfl, upd_same, hL, by rw [sortOk_perm pD]; exact hk, fun p ws hp hw => ?_⟩
        have op := opost_of S2 (st1.trans (Step.alloc hb)) h
        refine op p _ hp ?_
        rw [← sorted_perm pD (sortOk_alike (by rw [sortOk_perm pD]; exact hk))]
        exact hw
    · cases eo
theorem sd_lenSet {p p2 q : Pos} (hu : X.A.units + 70 < cLine) (hc : X.calm = true) (hg : L2.Gl X "len") (hm : X.mg "len" = none) (hg2 : L2.Gl X "set") (hm2 : X.mg "set" = none) (ha : PE X a (T X.K xo ma)) (hs : notStar a = true) :
    PE X (.Call (.Name "len" p) [.Call (.Name "set" p2) [a] [] q] [] pos) (T X.K xo (lenSetM ma)) := by
  have pS := pe_callTy (pos := q) (p := p2) (cr_or (cr_set (X := X) hc) (cr_setN hc hu)) hg2 hm2 (by decide +kernel) (pa_cons ha pa_nil (star_cons hs)) (by decide) (by decide) (star_cons hs)
  refine (pe_callB (pos := pos) (p := p) (cr_or cr_lenSet cr_lenN) hg hm (by decide +kernel) (pa_cons pS pa_nil)).weak fun σ H Q h => ?_
  show (tCons (T X.K xo ma) tNil) σ H (fun vs H1 => (fun vs H Q => rSetD X.K X.prog X.w vs H Q ∨ rSetN X.K X.prog X.w vs H Q) vs H1 (fun x H2 => rLenSet X.prog X.w [x] H2 Q ∨ rLenN X.prog X.w [x] H2 Q))
  refine tr_set1 h fun W W1 c s1 v H1 st1 S1 r1 h => ?_
  obtain ⟨x, ex, h⟩ := wp_bindR h
  obtain ⟨o, eo, h⟩ := wp_bindO h
  unfold lenSetO at eo
  cases e0 : setDs x with
  | none => rw [e0] at eo; cases eo
  | some us =>
    rw [e0] at eo
    cases eo
    rcases setDs_some e0 with ⟨ks, ds, ek, exx, rfl, hl, hlk⟩ | ⟨ks, ds, ed, exx, rfl, hks, few⟩
    · refine .inl ⟨W1.B, x, ks, ds, S1.sub, .cons (S1.rd r1 ex) .nil, ek, exx, hl, hlk, fun b hb => .inl ⟨b, _, rfl, upd_same, ?_⟩⟩
      have op := opost_of (S1.alloc (o := KSetO X.prog X.w b (Ps.uniqK [] ks)) hb) (st1.trans (Step.alloc hb)) h
      have := op.1 (.int (((Ps.uniqK [] ks).map encK).length : Nat)) (.int _)
      rw [List.length_map] at this
      exact this
    · refine .inr ⟨W1.B, x, ds, ks, S1.sub, .cons (S1.rd r1 ex) .nil, exx, ed, hks, few, fun b L hb pm hL => .inr ⟨b, L, rfl, upd_same, ?_⟩⟩
      have op := opost_of (S1.alloc (o := NSetO X.prog X.w b L) hb) (st1.trans (Step.alloc hb)) h
      have := op.1 (.int (((Ps.uniqK [] ks).map nd).length : Nat)) (.int _)
      have l := pm.length_eq
      rw [List.length_map] at l
      rw [List.length_map, ← l] at this
      exact this
/-! ### isinstance -/
theorem tyx_of {K : PySem.W.Frag} {B H : Hp} {v : V} {x : D} (sb : Sub B H) (h : Rdv K B H v x) : TyX K H v (.type (tyN x)) := by
  have lst : ∀ {p : Addr} {ws : List V}, SqL K H p ws → TyX K H (.ref p) (.type "list") := fun h => by
    rcases h with (h | ⟨o, h⟩) | ⟨o, its, n, h1, h2, _⟩
    · exact .base (.lst h)
    · exact .base (.frz h)
    · exact .kList h1 h2
  cases h with
  | r h q => exact lst (.of h)
  | g h q => exact .base (.dK h)
  | d h =>
    cases h with
    | non => exact .base .non
    | bl b => exact .base (.bl b)
    | int i => exact .base (.int i)
    | str x => exact .base (.str x)
    | lst h q => exact lst (sb.l h)
    | tup h q =>
      rcases sb.e h with ⟨o, h, _⟩ | ⟨o, its, n, h1, h2, _⟩
      · exact .fTuple h
      · exact .kTuple h1 h2
theorem kit_isT (t : Ty) (x : D) : kitB (tyN x) t.nm = some (isT t x) := by
  cases x with
  | dict q => cases t with
    | int => exact (by decide +kernel : kitB "dict" "int" = some false)
    | bool => exact (by decide +kernel : kitB "dict" "bool" = some false)
    | str => exact (by decide +kernel : kitB "dict" "str" = some false)
    | tuple => exact (by decide +kernel : kitB "dict" "tuple" = some false)
    | list => exact (by decide +kernel : kitB "dict" "list" = some false)
  | none => cases t with
    | int => exact (by decide +kernel : kitB "NoneType" "int" = some false)
    | bool => exact (by decide +kernel : kitB "NoneType" "bool" = some false)
    | str => exact (by decide +kernel : kitB "NoneType" "str" = some false)
    | tuple => exact (by decide +kernel : kitB "NoneType" "tuple" = some false)
    | list => exact (by decide +kernel : kitB "NoneType" "list" = some false)
  | bool b => cases t with
    | int => exact (by decide +kernel : kitB "bool" "int" = some true)
    | bool => exact (by decide +kernel : kitB "bool" "bool" = some true)
    | str => exact (by decide +kernel : kitB "bool" "str" = some false)
    | tuple => exact (by decide +kernel : kitB "bool" "tuple" = some false)
    | list => exact (by decide +kernel : kitB "bool" "list" = some false)
  | int b => cases t with
    | int => exact (by decide +kernel : kitB "int" "int" = some true)
    | bool => exact (by decide +kernel : kitB "int" "bool" = some false)
    | str => exact (by decide +kernel : kitB "int" "str" = some false)
    | tuple => exact (by decide +kernel : kitB "int" "tuple" = some false)
    | list => exact (by decide +kernel : kitB "int" "list" = some false)
  | str b => cases t with
    | int => exact (by decide +kernel : kitB "str" "int" = some false)
    | bool => exact (by decide +kernel : kitB "str" "bool" = some false)
    | str => exact (by decide +kernel : kitB "str" "str" = some true)
    | tuple => exact (by decide +kernel : kitB "str" "tuple" = some false)
    | list => exact (by decide +kernel : kitB "str" "list" = some false)
  | list b => cases t with
    | int => exact (by decide +kernel : kitB "list" "int" = some false)
    | bool => exact (by decide +kernel : kitB "list" "bool" = some false)
    | str => exact (by decide +kernel : kitB "list" "str" = some false)
    | tuple => exact (by decide +kernel : kitB "list" "tuple" = some false)
    | list => exact (by decide +kernel : kitB "list" "list" = some true)
  | tuple b => cases t with
    | int => exact (by decide +kernel : kitB "tuple" "int" = some false)
    | bool => exact (by decide +kernel : kitB "tuple" "bool" = some false)
    | str => exact (by decide +kernel : kitB "tuple" "str" = some false)
    | tuple => exact (by decide +kernel : kitB "tuple" "tuple" = some true)
    | list => exact (by decide +kernel : kitB "tuple" "list" = some false)
theorem tyOf_some {y : Str} {t : Ty} (h : tyOf y = some t) : bootBuiltins y = some (.type t.nm) ∧ y ≠ "__name__" ∧ (y == ("__debug__" : Str)) = false := by
  unfold tyOf at h
  repeat' split at h
  all_goals first
    | (cases h; done)
    | (rename_i e; cases h; subst e; exact ⟨by decide +kernel, by decide, by decide⟩)
theorem isiOf_some {x : Str} {as : List Expr} {a : Expr} {y : Str} {t : Ty} (h : isiOf x as = some (a, y, t)) : x = "isinstance" ∧ ∃ yp, tyOf y = some t ∧ as = [a, .Name y yp] := by
  unfold isiOf at h
  split at h
  · rename_i a0 y0 yp
    split at h
    · rename_i e
      cases q : tyOf y0 with
      | none => rw [q] at h; cases h
      | some t' =>
        rw [q] at h
        cases h
        exact ⟨e, yp, q, rfl⟩
    · cases h
  · cases h
theorem setOf1_some {as : List Expr} {a : Expr} (h : setOf1 as = some a) : ∃ gp cp, as = [.Call (.Name "set" gp) [a] [] cp] := by
  unfold setOf1 at h
  split at h
  · split at h
    · rename_i e
      cases h
      subst e
      exact ⟨_, _, rfl⟩
    · cases h
  · cases h
theorem sd_isi {p yp : Pos} {y : Str} {t : Ty} (hg : L2.Gl X "isinstance") (hm : X.mg "isinstance" = none) (hg2 : L2.Gl X y) (hm2 : X.mg y = none) (ht : tyOf y = some t) (ha : PE X a (T X.K xo ma)) (hs : notStar a = true) :
    PE X (.Call (.Name "isinstance" p) [a, .Name y yp] [] pos) (T X.K xo (isiM t ma)) := by
  obtain ⟨hb, hn, hd⟩ := tyOf_some ht
  have pT : PE X (.Name y yp) (tC (.ty t.nm)) := pe_bltn hg2 hm2 hb rfl hn hd
  refine (pe_callB (pos := pos) (p := p) call_isi hg hm (by decide +kernel) (pa_cons ha (pa_cons pT pa_nil) (star_cons hs)) (by decide) (by decide) (star_cons hs)).weak fun σ H Q h => ?_
  obtain ⟨W, s, S, h⟩ := h
  refine tr_asC ⟨W, s, S, wp_bind h (fun c s1 h1 v W1 H1 st1 S1 r1 => ?_) kx0⟩
  obtain ⟨x, ex, h1⟩ := wp_bindR h1
  have rd := S1.rd r1 ex
  exact ⟨v, .ty t.nm, .type (tyN x), .type t.nm, isT t x, rfl, .ty _, tyx_of S1.sub rd, kit_ty (kit_isT t x), (wp_pure h1) _ W1 H1 st1 S1 (.bl _)⟩
end
end Pd

set_option Elab.async false
set_option linter.all false
set_option maxRecDepth 100000
set_option maxHeartbeats 2000000
/-! Defs by what they give: calls of the text's own. -/
namespace Pd
open PySem L2

/-- a def's word: as the layer's, where no guard stands around -/
structure FnG (P : Program) (w : World) (K : PySem.W.Frag) (mg : Str → Option Value) (base : Heap) (k : Nat) (f : Addr) (fd : FuncData) (ps : List Str) (sp : Sp) : Prop where
  many : ∀ vs H Q E, sp vs H Q E → vs.length = ps.length
  goes : ∀ (A : Around) (out : List Env) (s : Shared) (H : Hp) (args : Args) (us : List Value) (vs : List V) (Q : VK) (E : XK), Room k A → A.guards = some [] → Env0 P w K mg base A out s H → BindsTo s fd args (ps.zip us) →
    Vals vs us → sp vs H Q E → codeAny (model P w) A (.call (.ref f) args) (L2.CR CX0 out P w H s Q E) s
theorem FnG.up {P : Program} {w : World} {K : PySem.W.Frag} {mg : Str → Option Value} {base : Heap} {j k : Nat} {f : Addr} {fd : FuncData} {ps : List Str} {sp : Sp} (F : FnG P w K mg base j f fd ps sp) (h : j ≤ k) : FnG P w K mg base k f fd ps sp :=
  ⟨F.many, fun A out s H args us vs Q E hr => F.goes A out s H args us vs Q E (hr.mono h)⟩

inductive ArgsR (K : PySem.W.Frag) (B H : Hp) : List Addr → List V → List Arg → Prop
  | nil : ArgsR K B H [] [] []
  | d {al : List Addr} {v : V} {vs : List V} {x : D} {as : List Arg} : Dq K B v x → ArgsR K B H al vs as → ArgsR K B H al (v :: vs) (.d x :: as)
  | m {al : List Addr} {a : Addr} {vs : List V} {o : MO} {as : List Arg} : MoRep K B H a o → ArgsR K B H al vs as → ArgsR K B H (a :: al) (.ref a :: vs) (.m o :: as)
def FRep (K : PySem.W.Frag) (W : Wd) (H' H : Hp) (v : V) : FR → Prop
  | .d x => Dq K W.B v x
  | .f xs => ∃ p vs, v = .ref p ∧ H p = none ∧ W.B p = none ∧ H' p = some (.lst vs) ∧ Dqs K W.B vs xs
  | .g kvs => ∃ p es, v = .ref p ∧ H p = none ∧ W.B p = none ∧ H' p = some (.dK es) ∧ KvRep K W.B es kvs
/-- the promise of a def that does ft -/
def spF (K : PySem.W.Frag) (n : Nat) (ft : FT) : Sp := fun vs H Q _ => ∃ B al args, Sub B H ∧ al.Nodup ∧ ArgsR K B H al vs args ∧ args.length = n ∧ match ft args with
  | some (.ok r, os) => ∀ v B' H', StepS ⟨B, al⟩ H ⟨B', al⟩ H' → Sub B' H' → Objs K B' H' al os → FRep K ⟨B', al⟩ H' H v r → Q v H'
  | _ => False
theorem ArgsR.len {K : PySem.W.Frag} {B H : Hp} : ∀ {al : List Addr} {vs : List V} {as : List Arg}, ArgsR K B H al vs as → vs.length = as.length
  | _, _, _, .nil => rfl
  | _, _, _, .d _ t => congrArg (· + 1) t.len
  | _, _, _, .m _ t => congrArg (· + 1) t.len

/-! ### a call -/
def AW (K : PySem.W.Frag) (W : Wd) (v : V) : AV → Prop
  | .d x => Dq K W.B v x
  | .k n => ∀ a, W.al[n]? = some a → v = .ref a
theorem AW.mono {K : PySem.W.Frag} {W W' : Wd} {H H' : Hp} {v : V} (st : Step W H W' H') : ∀ {c : AV}, AW K W v c → AW K W' v c
  | .d _, h => Dq.mono st.sub _ _ h
  | .k n, h => fun a q => by
    obtain ⟨n, e⟩ := st.pre
    rw [e] at q
    exact h a (take_get q)
inductive AWs (K : PySem.W.Frag) (W : Wd) : List V → List AV → Prop
  | nil : AWs K W [] []
  | cons {v : V} {vs : List V} {c : AV} {cs : List AV} : AW K W v c → AWs K W vs cs → AWs K W (v :: vs) (c :: cs)
def RAs (K : PySem.W.Frag) : Rel (List AV) (List V) := fun cs vs W _ _ => AWs K W vs cs
section
variable {X : Cx} {xo : XO} {pos : Pos}
theorem wp_assoc {α β γ : Type} {m : M α} {f : α → M β} {g : β → M γ} {s : PSt} {P : γ → PSt → Prop} {PX : Xn → PSt → Prop} (h : wpM (M.bind (M.bind m f) g) s P PX) : wpM (M.bind m fun a => M.bind (f a) g) s P PX := by
  unfold wpM M.bind at h ⊢
  cases e1 : m s with
  | none => rw [e1] at h; exact h
  | some q =>
    obtain ⟨r, s1⟩ := q
    rw [e1] at h
    cases r <;> exact h
theorem tr_av {K : PySem.W.Frag} {k : Nat} {md : Bool} {m : M RV} {σ : L2.St} {H H0 : Hp} {W0 W1 : Wd} {s1 : PSt} {g : AV → M (List AV)} {P : List AV → PSt → Prop} {Q1 : VK} (S1 : Sim K W1 s1 σ H) (st : Step W0 H0 W1 H) (h : wpM (M.bind (avM k md m) g) s1 P (PXO K xo W0 H0 σ))
    (f : ∀ (x : AV) (v : V) (s2 : PSt) (W2 : Wd) (H2 : Hp), Step W1 H W2 H2 → Sim K W2 s2 σ H2 → AW K W2 v x → wpM (g x) s2 P (PXO K xo W0 H0 σ) → Q1 v H2) : T K xo m σ H Q1 := by
  cases md with
  | false =>
    have h' := wp_assoc (show wpM (M.bind (M.bind (asD k m) fun x => M.pure (.d x)) g) s1 P (PXO K xo W0 H0 σ) from h)
    refine tr_asD ⟨W1, s1, S1, wp_bind h' (fun x s2 h2 v W2 H2 st2 S2 r => ?_) fun x s q => PXO.later st _ _ q⟩
    exact f (.d x) v s2 W2 H2 st2 S2 r h2
  | true =>
    have h' := wp_assoc (show wpM (M.bind (M.bind m fun r => match r with
      | .c (.r k) => M.pure (AV.k k)
      | _ => M.fail) g) s1 P (PXO K xo W0 H0 σ) from h)
    refine ⟨W1, s1, S1, wp_bind h' (fun r s2 h2 v W2 H2 st2 S2 rr => ?_) fun x s q => PXO.later st _ _ q⟩
    cases r with
    | c c =>
      cases c with
      | r j =>
        obtain ⟨a, ha, e⟩ := rr
        exact f (.k j) v s2 W2 H2 st2 S2 (fun b q => by rw [ha] at q; cases q; exact e) h2
      | d x => exact h2.elim
    | f xs => exact h2.elim
    | g xs => exact h2.elim
theorem sd_argsA {k : Nat} {n : Expr → M RV} : ∀ (md : List Bool) (es : List Expr), (∀ v ∈ es, PE X v (T X.K xo (n v))) → es.all notStar = true → PA X es (Tr X.K xo (RAs X.K) (argsM k md (es.map n)))
  | [], [], _, _ => ⟨fun p pins s σ H Q I ⟨W, st, S, h⟩ => pa_nil.run p pins s σ H Q I ((wp_pure h) [] W H .rfl' S .nil)⟩
  | [], _ :: _, _, _ => ⟨fun p pins s σ H Q I ⟨W, st, S, h⟩ => h.elim⟩
  | _ :: _, [], _, _ => ⟨fun p pins s σ H Q I ⟨W, st, S, h⟩ => h.elim⟩
  | b :: bs, e :: es, h, hn => by
    obtain ⟨h1, h2⟩ := List.all_cons (f := notStar) ▸ hn |> Bool.and_eq_true_iff.mp
    have ih := sd_argsA (k := k) (n := n) bs es (fun v m => h v (.tail _ m)) h2
    refine ⟨fun p pins s σ H Q I ⟨W, st, S, q⟩ => (pa_cons (h e (.head _)) ih (star_cons h1)).run p pins s σ H Q I ?_⟩
    refine tr_av S .rfl' (show wpM (M.bind (avM k b (n e)) fun x => M.bind (argsM k bs (es.map n)) fun xs => M.pure (x :: xs)) st _ _ from q) fun x v s2 W2 H2 st2 S2 r h2 => ?_
    refine ⟨W2, s2, S2, wp_bind h2 (fun xs s3 h3 vs W3 H3 st3 S3 rs => ?_) fun x s q => PXO.later st2 _ _ q⟩
    exact (wp_pure h3) _ W3 H3 (st2.trans st3) S3 (.cons (r.mono st3) rs)
theorem nodupB_of : ∀ {ks : List Nat}, nodupB ks = true → ks.Nodup
  | [], _ => List.nodup_nil
  | k :: r, h => by
    obtain ⟨h1, h2⟩ := Bool.and_eq_true_iff.mp h
    refine List.nodup_cons.mpr ⟨fun m => ?_, nodupB_of h2⟩
    rw [List.elem_eq_true_of_mem m] at h1
    cases h1
/-- what is handed on, as the callee sees it -/
theorem args_rep {K : PySem.W.Frag} {W : Wd} {s : PSt} {σ : L2.St} {H : Hp} (S : Sim K W s σ H) : ∀ {vs : List V} {as : List AV} {l : List Arg}, AWs K W vs as → AV.args s.L as = some l → ∃ al : List Addr, ArgsR K W.B H al vs l ∧ al.length = (AV.ks as).length ∧ ∀ (j k : Nat), (AV.ks as)[j]? = some k → ∃ a : Addr, al[j]? = some a ∧ W.al[k]? = some a
  | _, [], l, .nil, e => by
    cases (Option.some.inj e : [] = l)
    exact ⟨[], .nil, rfl, fun j k e => by simp [AV.ks] at e⟩
  | _, .d x :: as, l, .cons r rs, e => by
    have e' : (AV.args s.L as).map (Arg.d x :: ·) = some l := e
    obtain ⟨l', e1, rfl⟩ := Option.map_eq_some_iff.mp e'
    obtain ⟨al, h1, h2, h3⟩ := args_rep S rs e1
    exact ⟨al, .d r h1, h2, h3⟩
  | _, .k n :: as, l, .cons r rs, e => by
    unfold AV.args at e
    cases hk : s.L[n]? with
    | none => rw [hk] at e; cases e
    | some o =>
      rw [hk] at e
      obtain ⟨a, ha, hm⟩ := S.objs.get hk
      have hv := r a ha
      subst hv
      have e' : (AV.args s.L as).map (Arg.m o :: ·) = some l := by
        cases o <;> first | exact e | cases e
      obtain ⟨l', e1, rfl⟩ := Option.map_eq_some_iff.mp e'
      obtain ⟨al, h1, h2, h3⟩ := args_rep S rs e1
      refine ⟨a :: al, .m hm h1, congrArg (· + 1) h2, fun j k q => ?_⟩
      cases j with
      | zero =>
        cases (Option.some.inj q : n = k)
        exact ⟨a, rfl, ha⟩
      | succ j => exact h3 j k q
theorem setAll_len : ∀ (l : List (Nat × MO)) (L : List MO), (setAll l L).length = L.length
  | [], _ => rfl
  | (k, o) :: r, L => (setAll_len r _).trans (List.length_set ..)
theorem setAll_get : ∀ {ks : List Nat} {os : List MO} {L : List MO} {i : Nat} {o : MO}, os.length = ks.length → (setAll (ks.zip os) L)[i]? = some o → (∃ j : Nat, ks[j]? = some i ∧ os[j]? = some o) ∨ (i ∉ ks ∧ L[i]? = some o)
  | [], os, L, i, o, _, h => .inr ⟨(fun m => nomatch m), h⟩
  | _ :: _, [], _, _, _, hl, _ => nomatch hl
  | k :: ks, o1 :: os, L, i, o, hl, h => by
    have h' : (setAll (ks.zip os) (L.set k o1))[i]? = some o := h
    rcases setAll_get (Nat.succ.inj hl) h' with ⟨j, a, b⟩ | ⟨a, b⟩
    · exact .inl ⟨j + 1, a, b⟩
    · by_cases e : i = k
      · subst e
        refine .inl ⟨0, rfl, ?_⟩
        obtain ⟨hlt, _⟩ := List.getElem?_eq_some_iff.mp b
        rw [List.length_set] at hlt
        rw [List.getElem?_set_self hlt] at b
        exact b
      · rw [List.getElem?_set_ne (Ne.symm e)] at b
        exact .inr ⟨fun m => (List.mem_cons.mp m).elim e a, b⟩
theorem Objs.mk {K : PySem.W.Frag} {B H : Hp} : ∀ {as : List Addr} {os : List MO}, as.length = os.length → (∀ (i : Nat) (a : Addr) (o : MO), as[i]? = some a → os[i]? = some o → MoRep K B H a o) → Objs K B H as os
  | [], [], _, _ => .nil
  | a :: as, o :: os, hl, h => .cons (h 0 a o rfl rfl) (Objs.mk (Nat.succ.inj hl) fun i a o e f => h (i + 1) a o e f)
theorem tr_call {K : PySem.W.Frag} {ft : FT} {n : Nat} {m : M (List AV)} (hn : ∀ l r, ft l = some r → l.length = n) (σ : L2.St) (H : Hp) (Q : VK) (h : T K xo (M.bind m fun vs => callM ft vs) σ H Q) (hx : ∀ l x os, ft l ≠ some (.ex x, os)) : tCall (spF K n ft) [] E0 (Tr K xo (RAs K) m) σ H Q := by
  refine tr_bind h fun W as s1 vs W1 H1 st S1 rs h1 => ?_
  rw [List.append_nil]
  unfold wpM callM at h1
  cases hnd : nodupB (AV.ks as) with
  | false => rw [hnd] at h1; exact h1.elim
  | true =>
    rw [hnd] at h1
    simp only [if_true] at h1
    cases ha : AV.args s1.L as with
    | none => rw [ha] at h1; exact h1.elim
    | some l =>
      rw [ha] at h1
      simp only at h1
      obtain ⟨al, hA, hlen, hget⟩ := args_rep S1 rs ha
      have mem : ∀ a, a ∈ al → a ∈ W1.al := fun a ma => by
        obtain ⟨j, hj⟩ := List.mem_iff_getElem?.mp ma
        have hj' : j < (AV.ks as).length := by
          rw [← hlen]
          exact (List.getElem?_eq_some_iff.mp hj).1
        obtain ⟨b, h1, h2⟩ := hget j _ (List.getElem?_eq_getElem hj')
        rw [hj] at h1
        cases h1
        exact List.mem_of_getElem? h2
      have nd : al.Nodup := by
        refine List.pairwise_iff_getElem.mpr fun i j hi hj hij e => ?_
        have hi' : i < (AV.ks as).length := by omega
        have hj' : j < (AV.ks as).length := by omega
        obtain ⟨a, e1, e2⟩ := hget i _ (List.getElem?_eq_getElem hi')
        obtain ⟨b, f1, f2⟩ := hget j _ (List.getElem?_eq_getElem hj')
        rw [List.getElem?_eq_getElem hi] at e1
        rw [List.getElem?_eq_getElem hj] at f1
        have e3 : al[i] = a := Option.some.inj e1
        have f3 : al[j] = b := Option.some.inj f1
        have : a = b := e3.symm.trans (e.trans f3)
        subst this
        have := nodup_get S1.nod e2 f2
        exact absurd ((List.getElem_inj (nodupB_of hnd)).mp this) (by omega)
      refine ⟨W1.B, al, l, S1.sub, nd, hA, ?_, ?_⟩
      · cases hf : ft l with
        | none => rw [hf] at h1; exact h1.elim
        | some r => exact hn l r hf
      · cases hf : ft l with
        | none => rw [hf] at h1; exact h1.elim
        | some r =>
          obtain ⟨r, os⟩ := r
          rw [hf] at h1
          cases r with
          | ex x => exact (hx l x os hf).elim
          | ok r =>
            simp only at h1 ⊢
            cases hol : decide (os.length = (AV.ks as).length) with
            | false => rw [if_neg (of_decide_eq_false hol)] at h1; exact h1.elim
            | true =>
              have hol := of_decide_eq_true hol
              rw [if_pos hol] at h1
              intro v B' H' st' sb' ob' fr
              have out : ∀ a o, H1 a = some o → a ∉ al → B' a = some o → W1.B a = some o := fun a o e na eb => by
                rcases st'.nb a o eb with q | q | q
                · exact q
                · exact absurd q na
                · rw [q] at e; cases e
              have S2 : Sim K ⟨B', W1.al⟩ ⟨s1.env, setAll ((AV.ks as).zip os) s1.L⟩ σ H' := by
                refine ⟨sb', S1.nod, Objs.mk (by rw [setAll_len]; exact S1.objs.len) fun i a o e1 e2 => ?_, EnvRep.mono (W := W1) (W' := ⟨B', W1.al⟩) st'.sub (fun _ _ z => z) S1.env⟩
                rcases setAll_get hol e2 with ⟨j, f1, f2⟩ | ⟨f1, f2⟩
                · obtain ⟨b, g1, g2⟩ := hget j i f1
                  rw [show W1.al[i]? = some a from e1] at g2
                  cases g2
                  obtain ⟨b, k1, k2⟩ := ob'.get f2
                  rw [g1] at k1
                  cases k1
                  exact k2
                · obtain ⟨b, k1, k2⟩ := S1.objs.get f2
                  rw [show W1.al[i]? = some a from e1] at k1
                  cases k1
                  have na : a ∉ al := fun ma => by
                    obtain ⟨j, hj⟩ := List.mem_iff_getElem?.mp ma
                    have hj' : j < (AV.ks as).length := by
                      rw [← hlen]
                      exact (List.getElem?_eq_some_iff.mp hj).1
                    obtain ⟨b, h1, h2⟩ := hget j _ (List.getElem?_eq_getElem hj')
                    rw [hj] at h1
                    cases h1
                    have := nodup_get S1.nod e1 h2
                    subst this
                    exact f1 (List.mem_of_getElem? (List.getElem?_eq_getElem hj'))
                  have tk := k2.trk
                  cases eh : H1 a with
                  | none => exact absurd eh tk
                  | some u =>
                    have e3 := st'.keep a u eh na
                    refine k2.mono st'.sub (fun z => ?_) (eh.trans e3.symm)
                    show B' a = none
                    have z : W1.B a = none := z
                    cases eb : B' a with
                    | none => rfl
                    | some u' =>
                      have : u' = u := by
                        have := sb' a u' eb
                        rw [e3] at this
                        exact (Option.some.inj this).symm
                      subst this
                      rw [out a u' eh na eb] at z
                      cases z
              have st2 : Step W1 H1 ⟨B', W1.al⟩ H' := by
                refine ⟨⟨st'.sub, fun a o e n => st'.keep a o e fun m => n (mem a m), fun a m => .inl m, fun a o e => ?_, st'.trk⟩, W1.al.length, List.take_length.symm⟩
                rcases st'.nb a o e with q | q | q
                · exact .inl q
                · exact .inr (.inl (mem a q))
                · exact .inr (.inr q)
              refine h1 v ⟨B', W1.al⟩ H' (st.trans st2) S2 ?_
              cases r with
              | d x => exact fr
              | f xs =>
                obtain ⟨p, ws, rfl, n1, n2, n3, n4⟩ := fr
                exact ⟨p, ws, rfl, st.trk p n1, n2, fun m => S1.objs.trk m n1, n3, n4⟩
              | g xs =>
                obtain ⟨p, ws, rfl, n1, n2, n3, n4⟩ := fr
                exact ⟨p, ws, rfl, st.trk p n1, n2, fun m => S1.objs.trk m n1, n3, n4⟩
/-- what the text's defs are worth, where one stands -/
structure Fns (X : Cx) (G : Mdl) (k : Nat) : Prop where
  fn : ∀ x md ft, G.fn x = some (md, ft) → ∃ f fd ps, X.mg x = some (.ref f) ∧ PySem.W.keepIn X.K (.ref f) = true ∧ Binds X.K fd ps [] ∧ FnG X.prog X.w X.K X.mg X.base k f fd ps (spF X.K md.length ft) ∧ (∀ l r, ft l = some r → l.length = md.length) ∧ ∀ l y os, ft l ≠ some (.ex y, os)
theorem goG {pins : List (Addr × Obj)} {σ : L2.St} {H : Hp} {s : Shared} {Q : VK} {us : List Value} {vs : List V} {k : Nat} {f : Addr} {fd : FuncData} {ps : List Str} {sp : Sp} (F : FnG X.prog X.w X.K X.mg X.base k f fd ps sp) (hr : Room k X.A) (hg : X.A.guards = some [])
    (hb : Binds X.K fd ps []) (I : Inv X pins σ H s) (r : Vals vs us) (h : sp vs H Q E0) : wpAny (model X.prog X.w) X.A (call (.ref f) us) (EP X pins σ Q) X.xe s := by
  have hl : us.length = ps.length := r.length.symm.trans (F.many _ _ _ _ h)
  have bd := hb s us I.kIn (by rw [List.append_nil]; exact hl)
  rw [List.append_nil] at bd
  refine wpAny_call (codeAny_mono (F.goes X.A X.stack s H ⟨us, []⟩ us vs Q E0 hr hg I.env0 bd r h) fun q s' hq => ?_)
  match q, hq with
  | .error e, hq => exact hq.elim
  | .ok (.ret u), hq => exact I.after hq
  | .ok .next, hq => exact hq.elim
  | .ok .brk, hq => exact hq.elim
  | .ok .cont, hq => exact hq.elim
theorem sd_call {G : Mdl} {k m : Nat} {x : Str} {md : List Bool} {ft : FT} {n : Expr → M RV} {es : List Expr} {p : Pos} (F : Fns X G k) (hr : Room k X.A) (hgd : X.A.guards = some []) (hg : L2.Gl X x) (hd : (x == ("__debug__" : Str)) = false) (hf : G.fn x = some (md, ft))
    (h : ∀ v ∈ es, PE X v (T X.K xo (n v))) (hs : es.all notStar = true) (hne : es ≠ []) : PE X (.Call (.Name x p) es [] pos) (T X.K xo (M.bind (argsM m md (es.map n)) fun vs => callM ft vs)) := by
  obtain ⟨f, fd, ps, e1, e2, e3, e4, e5, e6⟩ := F.fn x md ft hf
  have PAe := sd_argsA (xo := xo) (k := m) md es h hs
  cases es with
  | nil => exact absurd rfl hne
  | cons e0 er =>
    obtain ⟨s1, s2⟩ := List.all_cons (f := notStar) ▸ hs |> Bool.and_eq_true_iff.mp
    refine ⟨fun pins s σ H Q I q => ?_⟩
    refine wpAny_Call_Name_kw (ld_glob I hg e1 ?_ hd)
    refine PySem.W.callWith_K (h₀ := X.base) I.ok.mod.kin e2 (thn (PAe.run pos pins s σ H _ I (tr_call e5 σ H Q q e6)) fun us t ⟨vs, H1, I1, r, q1⟩ => ⟨I1.kIn, ?_⟩) (star_cons s1) (plain_star s2)
    have q2 : spF X.K md.length ft (vs ++ []) H1 Q E0 := q1
    rw [List.append_nil] at q2
    exact goG e4 hr hgd e3 I1 r q2
end
end Pd

set_option Elab.async false
set_option linter.all false
set_option maxRecDepth 100000
set_option maxHeartbeats 2000000
/-! Methods of own lists; what is walked; comprehensions. -/
namespace Pd
open PySem L2
section
variable {X : Cx} {xo : XO} {a b c e : Expr} {ma mb mc : M RV} {pos : Pos}
/-- the k-th own list is changed -/
theorem Sim.mut {K : PySem.W.Frag} {W : Wd} {env : EnvP} {L : List MO} {σ : L2.St} {H : Hp} {k : Nat} {p : Addr} {xs ys : List D} {vs : List V} (S : Sim K W ⟨env, L⟩ σ H) (hk : L[k]? = some (.lst xs)) (hp : W.al[k]? = some p) (q : Dqs K W.B vs ys) :
    Sim K W ⟨env, L.set k (.lst ys)⟩ σ (upd H p (.lst vs)) ∧ Step W H W (upd H p (.lst vs)) := by
  obtain ⟨a, ha, hr⟩ := S.objs.get hk
  rw [hp] at ha
  cases ha
  obtain ⟨hb, ws, hH, hd⟩ := hr
  refine ⟨⟨S.sub.upd hb, S.nod, Objs.impSet S.nod hp S.objs (fun a ma ne o r => r.mono .rfl' (fun z => z) (upd_ne ne).symm) ⟨hb, vs, upd_same, q⟩, S.env⟩, ⟨⟨.rfl', fun a o h n => ?_, fun _ m => .inl m, fun _ _ h => .inl h, fun a h => ?_⟩, W.al.length, List.take_length.symm⟩⟩
  · rw [upd_ne fun e => ?_]
    · exact h
    · subst e
      exact n (List.mem_of_getElem? hp)
  · by_cases e : a = p
    · subst e
      rw [upd_same] at h
      cases h
    · rw [upd_ne e] at h
      exact h
theorem ptrM_c {r : RV} {s : PSt} {P : Nat → PSt → Prop} {PX : Xn → PSt → Prop} (h : wpM (ptrM r) s P PX) : ∃ k xs, r = .c (.r k) ∧ s.L[k]? = some (.lst xs) ∧ P k s := by
  unfold wpM ptrM at h
  cases r with
  | c c =>
    cases c with
    | r k =>
      simp only at h
      cases e : s.L[k]? with
      | none => rw [e] at h; exact h.elim
      | some o =>
        rw [e] at h
        cases o with
        | lst xs => exact ⟨k, xs, rfl, e, h⟩
        | _ => exact h.elim
    | d x => exact h.elim
  | f xs => exact h.elim
  | g xs => exact h.elim
theorem base_of {o : Expr} {m : Str} {env : Env} (h : plainBase o = true) : attributeBase o m env (eval o env) = eval o env := by
  cases o <;> first | rfl | cases h
theorem few_of {e : Expr} {env : Env} {p : Pos} (h : notStar e = true) : ((backTo p (starEach [e] env)).all (fun x => !x.1) && (backToKw p (keywordEach [] env)).all (fun x => x.1.isSome)
      && decide ([e].length + ([] : List Keyword).length + (if ([] : List Keyword).isEmpty then 0 else 1) < 30)) = true := by
  rw [star_cons h]
  rfl
theorem list_ty {K : PySem.W.Frag} {H : Hp} {p : Addr} {vs : List V} (h : H p = some (.lst vs)) : tyV K "list" (.ref p) H := .inl ⟨rfl, vs, SqL.of h⟩
/-- an own thing that stands after a step stood before it as one, too -/
theorem Sim.lstBack {K : PySem.W.Frag} {W1 W2 : Wd} {H1 H2 : Hp} {s2 : PSt} {σ : L2.St} {j : Nat} {p : Addr} {xs : List D} (S2 : Sim K W2 s2 σ H2) (st : Step W1 H1 W2 H2) (hp : W1.al[j]? = some p) (hk : s2.L[j]? = some (.lst xs)) : W2.al[j]? = some p := by
  obtain ⟨a, ha, _⟩ := S2.objs.get hk
  obtain ⟨n, e⟩ := st.pre
  rw [e] at ha
  have := take_get ha
  rw [hp] at this
  cases this
  rw [e]
  exact ha
/-- o.m(a), o an own list: the list is found first, then a is asked -/
theorem tr_meth {K : PySem.W.Frag} {R : Rel RV V} {mo : M RV} {f : Nat → M RV} {r : V → List V → Hp → VK → Prop} {ta : TA} {σ : L2.St} {H : Hp} {Q : VK} (h : Tr K xo R (M.bind (M.bind mo ptrM) f) σ H Q)
    (k : ∀ (W0 W1 : Wd) (H1 : Hp) (s1 : PSt) (j : Nat) (p : Addr), Step W0 H W1 H1 → Sim K W1 s1 σ H1 → W1.al[j]? = some p → wpM (f j) s1 (PO K R W0 H σ Q) (PXO K xo W0 H σ) → ta σ H1 fun xs H2 => r (.ref p) xs H2 Q) : tBM K "list" r (T K xo mo) ta σ H Q := by
  obtain ⟨W, s, S, h⟩ := h
  refine ⟨W, s, S, wp_bind (wp_assoc h) (fun rv s1 h1 v W1 H1 st S1 rr => ?_) kx0⟩
  have h2 : wpM (ptrM rv) s1 (fun j s2 => wpM (f j) s2 (PO K R W H σ Q) (PXO K xo W H σ)) (PXO K xo W H σ) := wp_bind h1 (fun a s1 z => z) (fun _ _ z => z)
  obtain ⟨j, xs, rfl, hl, h3⟩ := ptrM_c h2
  obtain ⟨p, hp, rfl⟩ := rr
  obtain ⟨a, ha, _, vs, hH, _⟩ := S1.objs.get hl
  rw [hp] at ha
  cases ha
  exact ⟨list_ty hH, k W W1 H1 s1 j p st S1 hp h3⟩
theorem wp_setL {α : Type} {f : List MO → Option (List MO)} {g : Unit → M α} {s : PSt} {P : α → PSt → Prop} {PX : Xn → PSt → Prop} (h : wpM (M.bind (setL f) g) s P PX) : ∃ L, f s.L = some L ∧ wpM (g ()) ⟨s.env, L⟩ P PX := by
  unfold wpM M.bind setL at h
  cases e : f s.L with
  | none => rw [e] at h; exact h.elim
  | some L => rw [e] at h; exact ⟨L, rfl, h⟩
theorem sd_append {k : Nat} {o : Expr} {ap : Pos} (ho : PE X o (T X.K xo ma)) (ha : PE X a (T X.K xo mb)) (hn : notStar a = true) (hb : plainBase o = true) (hl : (ap.endLine == pos.line) = true) : PE X (.Call (.Attribute o "append" ap) [a] [] pos) (T X.K xo (appendM k ma mb)) := by
  refine (pe_bm PySem.F.plainAttrs_list PySem.F.slot_list_append PySem.F.type_list_append mt_append ho (pa_cons ha pa_nil (star_cons hn)) (base_of hb) (few_of hn) hl (star_cons hn) rfl).weak fun σ H Q h => ?_
  refine tr_meth h fun W0 W1 H1 s1 j p st1 S1 hp h1 => ?_
  refine tr_asD ⟨W1, s1, S1, wp_bind h1 (fun x s2 h2 v W2 H2 st2 S2 r => ?_) fun x s q => PXO.later st1 _ _ q⟩
  obtain ⟨L, eL, h3⟩ := wp_setL h2
  unfold appO at eL
  split at eL
  · rename_i xs hk
    split at eL
    · rename_i hf
      cases eL
      have hp2 := S2.lstBack st2 hp hk
      obtain ⟨b, hb', _, ws, hH, hd⟩ := S2.objs.get hk
      rw [hp2] at hb'
      cases hb'
      obtain ⟨S3, st3⟩ := S2.mut (vs := ws ++ [v]) hk hp2 (dl_app hd (.cons r .nil))
      exact ⟨p, ws, v, rfl, rfl, hH, by rw [dl_len hd]; exact fits_lt hf, (wp_pure h3) .non W2 _ ((st1.trans st2).trans st3) S3 .non⟩
    · cases eL
  · cases eL
theorem sd_extend {o : Expr} {ap : Pos} (ho : PE X o (T X.K xo ma)) (ha : PE X a (T X.K xo mb)) (hn : notStar a = true) (hb : plainBase o = true) (hl : (ap.endLine == pos.line) = true) : PE X (.Call (.Attribute o "extend" ap) [a] [] pos) (T X.K xo (extendM ma mb)) := by
  refine (pe_bm PySem.F.plainAttrs_list PySem.F.slot_list_extend PySem.F.type_list_extend mt_extA ho (pa_cons ha pa_nil (star_cons hn)) (base_of hb) (few_of hn) hl (star_cons hn) rfl).weak fun σ H Q h => ?_
  refine tr_meth h fun W0 W1 H1 s1 j p st1 S1 hp h1 => ?_
  refine tr_asC ⟨W1, s1, S1, wp_bind h1 (fun c s2 h2 v W2 H2 st2 S2 r => ?_) fun x s q => PXO.later st1 _ _ q⟩
  obtain ⟨x, ex, h2⟩ := wp_bindR h2
  obtain ⟨zs, ez, h2⟩ := wp_bindO h2
  obtain ⟨L, eL, h3⟩ := wp_setL h2
  have hx : ∃ b us, v = .ref b ∧ (SqL X.K H2 b us ∨ SqT X.K H2 b us) ∧ Dqs X.K W2.B us zs := by
    unfold seqOf at ez
    split at ez
    · cases ez
      obtain ⟨b, us, e1, e2, e3⟩ := (S2.rd r ex).lst S2.sub
      exact ⟨b, us, e1, .inl e2, e3⟩
    · cases ez
      obtain ⟨b, us, e1, e2, e3, _⟩ := (S2.rd r ex).tup S2.sub
      exact ⟨b, us, e1, .inr e2, e3⟩
    · cases ez
  obtain ⟨b, us, rfl, hB, hd2⟩ := hx
  unfold extO at eL
  split at eL
  · rename_i xs hk
    split at eL
    · rename_i hf
      cases eL
      have hp2 := S2.lstBack st2 hp hk
      obtain ⟨b', hb', _, ws, hH, hd⟩ := S2.objs.get hk
      rw [hp2] at hb'
      cases hb'
      obtain ⟨S3, st3⟩ := S2.mut (vs := ws ++ us) hk hp2 (dl_app hd hd2)
      exact ⟨p, b, ws, us, rfl, rfl, hH, hB, by rw [dl_len hd, dl_len hd2]; exact fits_le hf, (wp_pure h3) .non W2 _ ((st1.trans st2).trans st3) S3 .non⟩
    · cases eL
  · cases eL
theorem sd_pop {o : Expr} {ap : Pos} (ho : PE X o (T X.K xo ma)) (ha : PE X a (T X.K xo mb)) (hn : notStar a = true) (hb : plainBase o = true) (hl : (ap.endLine == pos.line) = true) : PE X (.Call (.Attribute o "pop" ap) [a] [] pos) (T X.K xo (popM ma mb)) := by
  refine (pe_bm PySem.F.plainAttrs_list PySem.F.slot_list_pop PySem.F.type_list_pop mt_popAt ho (pa_cons ha pa_nil (star_cons hn)) (base_of hb) (few_of hn) hl (star_cons hn) rfl).weak fun σ H Q h => ?_
  refine tr_meth h fun W0 W1 H1 s1 j p st1 S1 hp h1 => ?_
  refine ⟨W1, s1, S1, wp_bind (wp_assoc h1) (fun rv s2 h2 v W2 H2 st2 S2 rr => ?_) fun x s q => PXO.later st1 _ _ q⟩
  have h2' : wpM (intM rv) s2 (fun i s2 => wpM (fun s => match s.L[j]? with
  | some (.lst xs) => match ixN xs.length i with
    | some j' => match xs[j']? with
      | some x => if smallI i then some (.ok (.c (.d x)), ⟨s.env, s.L.set j (.lst (xs.eraseIdx j'))⟩) else none
      | none => none
    | none => none
  | _ => none) s2 (PO X.K (RR X.K) W0 H σ Q) (PXO X.K xo W0 H σ)) (PXO X.K xo W0 H σ) := wp_bind h2 (fun a s1 z => z) (fun _ _ z => z)
  obtain ⟨i, rfl, h3⟩ := intM_c h2'
  obtain rfl := dq_int rr
  unfold wpM at h3
  simp only at h3
  cases hk : s2.L[j]? with
  | none => rw [hk] at h3; exact h3.elim
  | some ob =>
    rw [hk] at h3
    cases ob with
    | lst xs =>
      simp only at h3
      cases hi : ixN xs.length i with
      | none => rw [hi] at h3; exact h3.elim
      | some i' =>
        rw [hi] at h3
        simp only at h3
        cases hx : xs[i']? with
        | none => rw [hx] at h3; exact h3.elim
        | some x =>
          rw [hx] at h3
          simp only at h3
          cases hs : smallI i with
          | false => rw [hs] at h3; exact h3.elim
          | true =>
            rw [hs] at h3
            simp only [if_true] at h3
            have hs' := small_io hs
            have hp2 := S2.lstBack st2 hp hk
            obtain ⟨b', hb', _, ws, hH, hd⟩ := S2.objs.get hk
            rw [hp2] at hb'
            cases hb'
            obtain ⟨w, hw, qw⟩ := dl_get hd hx
            obtain ⟨S3, st3⟩ := S2.mut (vs := ws.eraseIdx i') hk hp2 (dl_erase i' hd)
            refine ⟨p, ws, i, i', w, rfl, rfl, hH, by omega, by omega, ?_, hw, h3 w W2 _ ((st1.trans st2).trans st3) S3 qw⟩
            rw [dl_len hd]
            exact (ixN_seq hi).1
    | _ => exact h3.elim
end
end Pd

set_option Elab.async false
set_option linter.all false
set_option maxRecDepth 100000
set_option maxHeartbeats 4000000
/-! dict(t) of a tuple of pairs. -/
namespace Pd
open PySem PySem.Spec PyProof.Rows L2
theorem tup_keys_none : typeLookup (.type "tuple") "keys" = pure none := am_miss_of_fast (by first | decide +kernel | rfl)
section
variable {prog : Program} {w : World} {A : Around} {E : Value → Shared → Prop}
/-- a tuple has no «keys» -/
theorem miss_tup {s : Shared} {a : Addr} {o : Obj} {xs : Array Value} {k : Nat} {Q : Option Value → Shared → Prop} (hx : s.heap.get? a = some o) (hc : o.cls = .type "tuple") (hdat : o.data = .seq xs k) (hd : o.dict = none) (hA : A.handled = none)
    (h : ∀ h' tk, (∀ b ob, s.heap.get? b = some ob → h'.get? b = some ob) → Q none { s with heap := h', toks := tk }) : wpAny (model prog w) A (getAttr? (.ref a) "keys") Q E s := by
  obtain ⟨c, dct, dat, sl⟩ := o
  simp only at hc hdat hd
  subst hc hdat hd
  obtain ⟨hp, g, d, tk, os⟩ := s
  have t1 : ∀ tk', (⟨hp, g, d, tk', os⟩ : Shared).TypeIs (.ref a) "tuple" := fun _ => ⟨_, hx, rfl⟩
  have t2 := tup_keys_none
  have t3 : (["__module__", "__name__", "__qualname__", "__doc__", "__annotations__"] : List Str).contains "keys" = false := by decide +kernel
  have t4 : ("keys" : Str).length + 100 ≤ sizeLine := by decide +kernel
  have f1 := sub_AttributeError
  have f3 := PySem.F.slot_tuple_getattribute.lookup
  have f4 := PySem.F.slot_tuple_getattribute.bind (.ref a)
  have f5 := am_tuple_getattr_none
  unfold getAttr? getAttrBy? getAttrBy
  repeat (any_goals (first | assumption | exact t1 _ | ((with_reducible show wpAny _ _ (call (Value.builtin "tuple.__getattribute__") _ _) _ _ _); refine call_meets PySem.F.slot_tuple_getattribute (t1 _) am_entry_tuple_getattribute (PySem.F.args_tuple_getattribute_2 _ _) (meets_getattribute_miss_tuple a xs k sl "keys" _ t2 t3 t4) ⟨hx, hA, fun h' tk' e hx' => ?_⟩) | wp_step))
  obtain ⟨t', u', he⟩ := hx'.there
  show wpAny _ _ (getattributeRaised _ _ _ _ _ _ _) _ _ _
  unfold getattributeRaised
  repeat (any_goals (first | assumption | wp_step))
  all_goals first | exact h _ _ hx'.keeps | (dsimp only; repeat (any_goals (first | assumption | exact h _ _ hx'.keeps | wp_step)))
/-- the pairs of a tuple, one behind another -/
theorem walk_pairs {R : Result → Shared → Prop} {S I l : Addr} {items : Array Value} {res : Value} (hh : A.handled = none) (n1 : l ≠ I) (n2 : S ≠ I) (n3 : S ≠ l) :
    ∀ (rest : List (Key × Value)) (i : Nat) (acc : List (Key × Value)) (ix : Int) (t : Tok) (s : Shared), items.size = i + rest.length → acc.length + rest.length ≤ sizeLine →
      (∀ (j : Nat) (q : Key × Value), rest[j]? = some q → ∃ (b : Addr) (u : Value), items[i + j]? = some (.ref b) ∧ b ≠ S ∧ b ≠ I ∧ IsTup s.heap b #[u, q.2] ∧ keyIs q.1 u = true) →
      s.heap.IsTupleIter I l i → s.heap.IsTuple l items → s.heap.DictOf (mixKind prog w) S acc →
      (∀ h' tk, h'.DictOf (mixKind prog w) S (merged acc rest) → (∀ b o, b ≠ S → b ≠ I → s.heap.get? b = some o → h'.get? b = some o) → R (.ok (.ret res)) { s with heap := h', toks := tk }) →
      codeAny (model prog w) A (.builtin "dict.update.loop" ⟨[.ref S, .ref I, .int ix t, res], []⟩) R s := by
  intro rest
  induction rest with
  | nil =>
    intro i acc ix t s z1 z2 z3 z4 z5 z6 out
    refine codeAny_builtin ud_entry ?_
    rw [Around.under_plainId ud_plain _]
    show wpAny _ A.in1 (pyNext (.ref I) >>= _) _ _ s
    have past : items[i]? = none := by
      rw [List.length_nil] at z1
      exact Array.getElem?_eq_none (by omega)
    refine wpAny_bind (wpAny_pyNext_tuple_end (A := A.in1) hh z4 z5 past fun h' he => ?_)
    show wpAny _ A.in1 (Builtin.Dict.addKeywords S [] >>= _) _ _ _
    exact wpAny_bind (wpAny_pure (wpAny_pure (out h' s.toks (z6.extBut he n2) fun b o _ hb e => he b o hb e)))
  | cons q rest ih =>
    intro i acc ix t s z1 z2 z3 z4 z5 z6 out
    obtain ⟨b, u, g1, g2, g3, g4, g5⟩ := z3 0 q rfl
    rw [List.length_cons] at z1 z2
    refine codeAny_builtin ud_entry ?_
    rw [Around.under_plainId ud_plain _]
    show wpAny _ A.in1 (pyNext (.ref I) >>= _) _ _ s
    refine wpAny_bind (wpAny_pyNext_tuple_item (x := .ref b) z4 z5 (by simpa using g1) fun h1 y1 y2 => ?_)
    have w1 : IsTup h1 b #[u, q.2] := g4.extBut y2.extBut g3
    have w2 : h1.IsTuple l items := z5.extBut y2.extBut n1
    have w3 : h1.DictOf (mixKind prog w) S acc := z6.extBut y2.extBut n2
    obtain ⟨o, ho, hc, n, hd⟩ := id w1
    show wpAny _ A.in1 (holding [Value.ref b] _ >>= _) _ _ _
    refine wpAny_bind (wpAny_holding (wpAny_bind (wpAny_tryCatch ?_)))
    unfold Builtin.Dict.pairItems
    refine wpAny_bind (wpAny_typeOf (T := "tuple") ⟨o, ho, hc⟩ ?_)
    rw [if_pos (by first | decide | rfl | simp)]
    refine wpAny_bind (wpAny_seqItems ho hd (wpAny_pure ?_))
    show wpAny _ A.in1 (holding [u, q.2] (dictSet S u q.2)) _ _ _
    refine wpAny_holding (wpAny_dictSet_pairs (knd := mixKind prog w) (k := q.1) g5 w3 (fun h2 x1 x2 => ?_) (by omega))
    have grow := stored_length_le acc q.1 q.2
    refine wpAny_pure ⟨plainId_quiet ud_plain _, ih (i + 1) (stored acc q.1 q.2) (ix + 1) 0 _ (by omega) (by omega) (fun j q' e => ?_) ?_ (w2.extBut x2.extBut (Ne.symm n3)) x1 fun h' tk m1 m2 => ?_⟩
    · obtain ⟨b', u', r1, r2, r3, r4, r5⟩ := z3 (j + 1) q' (by simpa using e)
      exact ⟨b', u', by rw [show i + 1 + j = i + (j + 1) by omega]; exact r1, r2, r3, (r4.extBut y2.extBut r3).extBut x2.extBut r2, r5⟩
    · exact y1.at fun o' e => x2.extBut I o' (Ne.symm n2) e
    · exact out h' tk m1 fun c oc h3 h4 e => m2 c oc h3 h4 (x2.extBut c oc h3 (y2.extBut c oc h4 e))
/-- dict(t), t a tuple of pairs -/
theorem dict_of_tup {s : Shared} {l : Addr} {ol : Obj} {items : Array Value} {n : Nat} {prs : List (Key × Value)} {Q : Value → Shared → Prop} (hh : A.handled = none) (hl : s.heap.get? l = some ol) (hc : ol.cls = .type "tuple") (hd : ol.dict = none)
    (hdat : ol.data = .seq items n) (hsz : items.size = prs.length) (hln : prs.length ≤ sizeLine)
    (ht : ∀ (j : Nat) (q : Key × Value), prs[j]? = some q → ∃ (b : Addr) (u : Value), items[j]? = some (.ref b) ∧ IsTup s.heap b #[u, q.2] ∧ keyIs q.1 u = true)
    (h : ∀ h' tk, h'.DictOf (mixKind prog w) s.heap.objs.size (merged [] prs) → (∀ b o, s.heap.get? b = some o → h'.get? b = some o) → Q (.ref s.heap.objs.size) { s with heap := h', toks := tk }) :
    wpAny (model prog w) A (call (.type "dict") [.ref l]) Q E s := by
  let O : Obj := { cls := .type "dict", data := .dict #[] }
  refine callType_codes (Q₁ := fun obj s₁ => obj = .ref s.heap.objs.size ∧ s₁ = { s with heap := s.heap.push O }) PySem.F.kt_called_dict (PySem.F.kt_typeCall_dict_1 _) PySem.F.entry_dict_init (kt_code_dict_new _ ⟨rfl, rfl⟩) ?_
  rintro obj s₁ ⟨rfl, rfl⟩
  have d0 : (s.heap.push O).DictOf (mixKind prog w) s.heap.objs.size [] := Heap.DictOf.new s.heap
  have k0 : ∀ b o, s.heap.get? b = some o → (s.heap.push O).get? b = some o := fun b o e => Heap.get?_push_of_some _ e
  refine ⟨d0.typeIs, PySem.F.args_dict_init_2 _ _, ?_⟩
  unfold Builtin.«dict.__init__»
  refine wpAny_bind ?_
  unfold Builtin.Dict.selfAndRest
  refine wpAny_bind (wpAny_notOrdered_dict d0.typeIs ?_)
  show wpAny _ _ (pure (s.heap.objs.size, [Value.ref l])) _ _ _
  refine wpAny_pure ?_
  show wpAny _ _ (Builtin.Dict.updateFrom "dict.__init__" s.heap.objs.size (.ref l) [] .none) _ _ _
  unfold Builtin.Dict.updateFrom
  refine wpAny_bind (wpAny_typeOf (T := "tuple") ⟨ol, k0 _ _ hl, hc⟩ ?_)
  rw [if_pos (by first | decide | rfl | simp)]
  refine wpAny_bind (miss_tup (k0 _ _ hl) hc hdat hd hh fun h1 tk1 hk1 => ?_)
  rw [if_pos (show (none : Option Value).isNone = true from rfl)]
  refine wpAny_bind (wpAny_rule ?_)
  have l1 : h1.IsTuple l items := ⟨ol, hk1 _ _ (k0 _ _ hl), hc, n, hdat⟩
  have big : s.heap.objs.size < h1.objs.size := by
    have e : (s.heap.push O).get? s.heap.objs.size = some O := Heap.get?_push_size _ rfl
    exact Heap.lt_size (hk1 _ _ e)
  refine wpAny_bind (wpAny_pyIter_tuple l1 ?_)
  have k2 : ∀ b o, h1.get? b = some o → (h1.push { cls := .type "tuple_iterator", data := .fields #[.ref l, .int 0 0] }).get? b = some o := fun b o e => Heap.get?_push_of_some _ e
  have low : ∀ {b : Addr} {o : Obj}, s.heap.get? b = some o → b ≠ s.heap.objs.size ∧ b ≠ h1.objs.size := fun e => ⟨Nat.ne_of_lt (Heap.lt_size e), Nat.ne_of_lt (Nat.lt_trans (Heap.lt_size e) big)⟩
  have key := walk_pairs (prog := prog) (w := w) (A := A.in1) (R := wants (fun r s₂ => r = .none ∧ Q (.ref s.heap.objs.size) s₂) E) (S := s.heap.objs.size) (I := h1.objs.size) (l := l) (items := items) (res := Value.none) hh
    (low hl).2 (Nat.ne_of_lt big) (Ne.symm (low hl).1) prs 0 [] 0 0 { s with heap := h1.push { cls := .type "tuple_iterator", data := .fields #[.ref l, .int 0 0] }, toks := tk1 } (by omega) (by rw [List.length_nil, Nat.zero_add]; exact hln)
    (fun j q e => by
      obtain ⟨b, u, e1, e2, e3⟩ := ht j q e
      obtain ⟨ob, eo, _⟩ := id e2
      exact ⟨b, u, by rw [Nat.zero_add]; exact e1, (low eo).1, (low eo).2, e2.keeps fun c o z => k2 _ _ (hk1 _ _ (k0 _ _ z)), e3⟩)
    ⟨_, Heap.get?_push_size _ rfl, rfl, rfl⟩ ⟨ol, k2 _ _ (hk1 _ _ (k0 _ _ hl)), hc, n, hdat⟩ ((d0.at fun o e => hk1 _ _ e).at fun o e => k2 _ _ e)
    (fun h' tk m1 m2 => ⟨rfl, h h' tk m1 fun b o e => m2 b o (low e).1 (low e).2 (k2 _ _ (hk1 _ _ (k0 _ _ e)))⟩)
  first
    | exact wpAny_pure ⟨plainId_quiet ud_plain _, key⟩
    | exact wpAny_bind (wpAny_pure (wpAny_pure ⟨plainId_quiet ud_plain _, key⟩))
end
section
variable {X : Cx}
theorem call_dictT (hcalm : X.calm = true) : CallR X (.type "dict") (fun xs H Q => ∃ (a : Addr) (ps : List Addr) (kvs : List (Key × V)), xs = [.ref a] ∧ SqE X.K H a (ps.map V.ref) ∧ Paired (fun p kv => SqT X.K H p [kV kv.1, kv.2]) ps kvs ∧
    ∀ p, H p = none → Q (.ref p) (L2.upd H p (.dK (mergeK [] kvs)))) := by
  rintro pins s σ H _ us Q I r ⟨a, ps, kvs, rfl, hq, hp, q⟩
  obtain ⟨u, rfl, rx⟩ := vals1 r
  cases rx
  obtain ⟨o, its, n, rv, ho, hc, hd, hdat, hz⟩ : ∃ (o : Obj) (its : List Value) (n : Nat), Vals (ps.map V.ref) its ∧ s.heap.get? a = some o ∧ o.cls = .type "tuple" ∧ o.dict = none ∧ o.data = .seq its.toArray n ∧ (ps.map V.ref).length ≤ sizeLine := by
    rcases hq with ⟨o, h1, h2⟩ | ⟨o, its, n, h1, h2, h3, h4, h5, h6⟩
    · obtain ⟨e1, z, its, rv, o', g1, g2, n, g3⟩ := (show ObjOk X.prog X.w H s.heap a (.frz o (.tup (ps.map V.ref))) from I.hok a _ h1)
      rw [e1] at g1
      cases g1
      exact ⟨o, its, n, rv, e1, g2, h2, g3, z⟩
    · refine ⟨o, its.toList, n, h6, I.kIn a o h1, h2, h3, by simpa using h4, ?_⟩
      rw [h6.length, Array.length_toList]
      exact h5
  have ei := refs_at rv
  subst ei
  rw [List.length_map] at hz
  obtain ⟨prs, rel, hl, hpr⟩ := pairs_of I hp
  refine dict_of_tup (prs := prs) (I.ok.hd hcalm) ho hc hd hdat (by simp [hl]) (by rw [hl]; exact hz) (fun j q' e => ?_) fun h' tk m1 m2 => ?_
  · obtain ⟨b, u, e1, e2, e3⟩ := hpr j q' e
    exact ⟨b, u, by simp [e1], e2, e3⟩
  · have hm : (s.heap.objs.size == sysModules) = false := beq_eq_false_iff_ne.mpr (Nat.ne_of_gt I.big)
    have hlen : (mergeK [] kvs).length ≤ sizeLine := by
      refine Nat.le_trans (length_mergeK kvs []) ?_
      rw [List.length_nil, Nat.zero_add, rel.length, hl]
      exact hz
    exact ⟨.ref s.heap.objs.size, L2.upd H s.heap.objs.size (.dK (mergeK [] kvs)), I.laid (t' := tk) m2 (Nat.le_refl _) (show ObjOk X.prog X.w _ _ _ (.dK (mergeK [] kvs)) from ⟨hlen, hm, merged [] prs, KV.merge rel .nil, m1⟩), rfl, q _ (I.hok.fresh (Nat.le_refl _))⟩
end
end Pd

set_option Elab.async false
set_option linter.all false
set_option maxRecDepth 100000
set_option maxHeartbeats 2000000
/-! Dicts of data: made of pairs, asked. -/
namespace Pd
open PySem L2
theorem dl_pairs {K : PySem.W.Frag} {B : Hp} : ∀ {vs : List V} {ds : List D} {kvs : List (D × D)}, Dqs K B vs ds → pairsOf ds = some kvs → ∃ (ps : List Addr) (r : List (Key × V)), vs = ps.map V.ref ∧ Paired (fun p kv => SqT K B p [kV kv.1, kv.2]) ps r ∧ KvRep K B r kvs
  | _, _, _, .nil, e => by
    cases (Option.some.inj e : [] = _)
    exact ⟨[], [], rfl, .nil, .nil⟩
  | _, _, _, .cons h t, e => by
    unfold pairsOf at e
    split at e
    · rename_i q
      cases q
    · rename_i q
      cases q
      split at e
      · rename_i hk
        obtain ⟨kvs, e1, rfl⟩ := Option.map_eq_some_iff.mp e
        obtain ⟨ps, r, rfl, h2, h3⟩ := dl_pairs t e1
        obtain ⟨k, hk⟩ := Option.isSome_iff_exists.mp hk
        cases h with
        | tup hq qs =>
          cases qs with
          | cons q1 qs =>
            cases qs with
            | cons q2 qs =>
              cases qs
              have := key_dq q1 hk
              subst this
              exact ⟨_ :: ps, (k, _) :: r, rfl, .cons hq.t h2, .cons hk q2 h3⟩
      · cases e
    · cases e
section
variable {X : Cx} {xo : XO} {a b c e : Expr} {ma mb mc : M RV} {pos : Pos}
theorem paired_mono {K : PySem.W.Frag} {B H : Hp} (s : Sub B H) : ∀ {ps : List Addr} {r : List (Key × V)}, Paired (fun p (kv : Key × V) => SqT K B p [kV kv.1, kv.2]) ps r → Paired (fun p kv => SqT K H p [kV kv.1, kv.2]) ps r
  | _, _, .nil => .nil
  | _, _, .cons h t => .cons (s.t h) (paired_mono s t)
def rDct (K : PySem.W.Frag) : List V → Hp → VK → Prop := fun vs H Q => ∃ B v x kvs, vs = [v] ∧ Sub B H ∧ Rdv K B H v x ∧ dctO x = some kvs ∧ ∀ p es, H p = none → KvRep K B es kvs → Q (.ref p) (upd H p (.dK es))
theorem cr_dct (hc : X.calm = true) : CallR X (.type "dict") (rDct X.K) := by
  rintro pins s σ H vs us Q I r ⟨B, v, x, kvs, rfl, sb, hx, e, q⟩
  unfold dctO at e
  split at e
  · obtain ⟨k0, e1, rfl⟩ := Option.map_eq_some_iff.mp e
    obtain ⟨p, ws, rfl, h1, h2⟩ := hx.lst sb
    obtain ⟨ps, r0, rfl, h3, h4⟩ := dl_pairs h2 e1
    exact call_dictP hc pins s σ H _ us Q I r ⟨p, ps, r0, rfl, h1, paired_mono sb h3, fun l hl => q l _ hl (kv_merge h4 .nil)⟩
  · obtain ⟨k0, e1, rfl⟩ := Option.map_eq_some_iff.mp e
    cases hx with
    | d hx =>
      cases hx with
      | tup h1 h2 =>
        obtain ⟨ps, r0, rfl, h3, h4⟩ := dl_pairs h2 e1
        exact call_dictT hc pins s σ H _ us Q I r ⟨_, ps, r0, rfl, sb.e h1, paired_mono sb h3, fun l hl => q l _ hl (kv_merge h4 .nil)⟩
  · cases e
theorem sd_dct {p : Pos} (hc : X.calm = true) (hg : L2.Gl X "dict") (hm : X.mg "dict" = none) (ha : PE X a (T X.K xo ma)) (hn : notStar a = true) : PE X (.Call (.Name "dict" p) [a] [] pos) (T X.K xo (dctM ma)) := by
  refine (pe_callTy (cr_dct hc) hg hm (by decide +kernel) (pa_cons ha pa_nil (star_cons hn)) (by decide) (by decide) (star_cons hn) rfl).weak fun σ H Q h => ?_
  obtain ⟨W, s, S, h⟩ := h
  refine tr_asC ⟨W, s, S, wp_bind h (fun c1 s1 h1 v W1 H1 st S1 r1 => ?_) kx0⟩
  obtain ⟨x, ex, h2⟩ := wp_bindR h1
  obtain ⟨kvs, ek, h3⟩ := wp_bindO h2
  refine ⟨W1.B, v, x, kvs, rfl, S1.sub, S1.rd r1 ex, ek, fun p es hp q => ?_⟩
  obtain ⟨hb, ha⟩ := S1.fresh hp
  exact (wp_pure h3) _ W1 _ (st.trans (Step.alloc hp)) (S1.alloc hp) ⟨p, es, rfl, st.trk p hp, hb, ha, upd_same, q⟩
theorem sd_dnew : PE X (.Dict [] [] pos) (T X.K xo (M.pure (.g []))) := pe_dnewK.weak fun σ H Q ⟨W, s, S, h⟩ p hp => by
  obtain ⟨hb, ha⟩ := S.fresh hp
  exact (wp_pure h) _ W _ (Step.alloc hp) (S.alloc hp) ⟨p, [], rfl, hp, hb, ha, upd_same, .nil⟩
/-! ### d.get -/
theorem dptrM_c {r : RV} {s : PSt} {P : Nat → PSt → Prop} {PX : Xn → PSt → Prop} (h : wpM (dptrM r) s P PX) : ∃ k xs, r = .c (.r k) ∧ s.L[k]? = some (.dic xs) ∧ P k s := by
  unfold wpM dptrM at h
  cases r with
  | c c =>
    cases c with
    | r k =>
      simp only at h
      cases e : s.L[k]? with
      | none => rw [e] at h; exact h.elim
      | some o =>
        rw [e] at h
        cases o with
        | dic xs => exact ⟨k, xs, rfl, e, h⟩
        | _ => exact h.elim
    | d x => exact h.elim
  | f xs => exact h.elim
  | g xs => exact h.elim
theorem tr_methD {K : PySem.W.Frag} {R : Rel RV V} {mo : M RV} {f : Nat → M RV} {r : V → List V → Hp → VK → Prop} {ta : TA} {σ : L2.St} {H : Hp} {Q : VK} (h : Tr K xo R (M.bind (M.bind mo dptrM) f) σ H Q)
    (k : ∀ (W0 W1 : Wd) (H1 : Hp) (s1 : PSt) (j : Nat) (p : Addr), Step W0 H W1 H1 → Sim K W1 s1 σ H1 → W1.al[j]? = some p → wpM (f j) s1 (PO K R W0 H σ Q) (PXO K xo W0 H σ) → ta σ H1 fun xs H2 => r (.ref p) xs H2 Q) : tBM K "dict" r (T K xo mo) ta σ H Q := by
  obtain ⟨W, s, S, h⟩ := h
  refine ⟨W, s, S, wp_bind (wp_assoc h) (fun rv s1 h1 v W1 H1 st S1 rr => ?_) kx0⟩
  have h2 : wpM (dptrM rv) s1 (fun j s2 => wpM (f j) s2 (PO K R W H σ Q) (PXO K xo W H σ)) (PXO K xo W H σ) := wp_bind h1 (fun a s1 z => z) (fun _ _ z => z)
  obtain ⟨j, xs, rfl, hl, h3⟩ := dptrM_c h2
  obtain ⟨p, hp, rfl⟩ := rr
  obtain ⟨a, ha, _, es, hH, _⟩ := S1.objs.get hl
  rw [hp] at ha
  cases ha
  exact ⟨.inr (.inr (.inl ⟨rfl, .inl ⟨es, hH⟩⟩)), k W W1 H1 s1 j p st S1 hp h3⟩
def rGet : V → List V → Hp → VK → Prop := fun x xs H Q => ∃ a y o, x = .ref a ∧ DGet H a y o ∧ ((xs = [y] ∧ Q (o.getD .non) H) ∨ ∃ z, xs = [y, z] ∧ Q (o.getD z) H)
theorem mt_get (hu : X.A.units + 70 < cLine) : MtM X "dict.get" rGet := by
  rintro pins s σ H x xs v us Q I rx rv ⟨a, y, o, rfl, g, h⟩
  cases rx
  rcases h with ⟨rfl, q⟩ | ⟨z, rfl, q⟩
  · obtain ⟨u, rfl, ru⟩ := vals1 rv
    exact d_get1 (by omega) I g ru fun w' s3 I3 rw' => ⟨_, H, I3, rw', q⟩
  · obtain ⟨u, u2, rfl, ru, ru2⟩ := vals2 rv
    exact d_get2 (by omega) I g ru ru2 fun w' s3 I3 rw' => ⟨_, H, I3, rw', q⟩
/-- a dict that stood when it was found stands behind the arguments -/
theorem Sim.dicBack {K : PySem.W.Frag} {W1 W2 : Wd} {H1 H2 : Hp} {s2 : PSt} {σ : L2.St} {j : Nat} {p : Addr} {xs : List (D × D)} (S2 : Sim K W2 s2 σ H2) (st : Step W1 H1 W2 H2) (hp : W1.al[j]? = some p) (hk : s2.L[j]? = some (.dic xs)) : W2.al[j]? = some p := by
  obtain ⟨a, ha, _⟩ := S2.objs.get hk
  obtain ⟨n, e⟩ := st.pre
  rw [e] at ha
  have := take_get ha
  rw [hp] at this
  cases this
  rw [e]
  exact ha
theorem few_all {es : List Expr} {env : Env} {p : Pos} (h : es.all notStar = true) (hl : es.length ≤ 3) : ((backTo p (starEach es env)).all (fun x => !x.1) && (backToKw p (keywordEach [] env)).all (fun x => x.1.isSome)
      && decide (es.length + ([] : List Keyword).length + (if ([] : List Keyword).isEmpty then 0 else 1) < 30)) = true := by
  match es, hl with
  | [], _ => rfl
  | [a], _ => exact few_of (Bool.and_eq_true_iff.mp (List.all_cons (f := notStar) ▸ h)).1
  | [a, b], _ =>
    obtain ⟨h1, h2⟩ := Bool.and_eq_true_iff.mp (List.all_cons (f := notStar) ▸ h)
    have h2 := (Bool.and_eq_true_iff.mp (List.all_cons (f := notStar) ▸ h2)).1
    rw [star_cons h1, star_cons h2]
    rfl
  | [a, b, c], _ =>
    obtain ⟨h1, h2⟩ := Bool.and_eq_true_iff.mp (List.all_cons (f := notStar) ▸ h)
    obtain ⟨h2, h3⟩ := Bool.and_eq_true_iff.mp (List.all_cons (f := notStar) ▸ h2)
    have h3 := (Bool.and_eq_true_iff.mp (List.all_cons (f := notStar) ▸ h3)).1
    rw [star_cons h1, star_cons h2, star_cons h3]
    rfl
theorem sd_get {k : Nat} {n : Expr → M RV} {o : Expr} {as : List Expr} {ap : Pos} (hu : X.A.units + 70 < cLine) (ho : PE X o (T X.K xo ma)) (h : ∀ v ∈ as, PE X v (T X.K xo (n v))) (hs : as.all notStar = true) (hl2 : as.length ≤ 3) (hb : plainBase o = true) (hl : (ap.endLine == pos.line) = true) (hne : as ≠ []) :
    PE X (.Call (.Attribute o "get" ap) as [] pos) (T X.K xo (getM k ma (as.map n))) := by
  cases as with
  | nil => exact absurd rfl hne
  | cons e0 er =>
  obtain ⟨s1, s2⟩ := List.all_cons (f := notStar) ▸ hs |> Bool.and_eq_true_iff.mp
  refine (pe_bm PySem.F.plainAttrs_dict PySem.F.slot_dict_get PySem.F.type_dict_get (mt_get hu) ho (sd_args (k := k) (e0 :: er) h hs) (base_of hb) (few_all hs hl2) hl (star_cons s1) (plain_star s2)).weak fun σ H Q h => ?_
  have em : ((e0 :: er).map n).map (asD k) = (e0 :: er).map fun z => asD k (n z) := by rw [List.map_map]; rfl
  unfold getM at h
  rw [em] at h
  refine tr_methD h fun W0 W1 H1 s1 j p st1 S1 hp h1 => ?_
  refine ⟨W1, s1, S1, wp_bind h1 (fun ds s2 h2 vs W2 H2 st2 S2 rs => ?_) fun x s q => PXO.later st1 _ _ q⟩
  unfold wpM at h2
  simp only at h2
  cases hx : getO s2.L j ds with
  | none => rw [hx] at h2; exact h2.elim
  | some x =>
    rw [hx] at h2
    have h3 : PO X.K (RR X.K) W0 H σ Q (.c (.d x)) s2 := h2
    unfold getO at hx
    split at hx
    · split at hx
      · rename_i kvs hk
        split at hx
        · rename_i hkey
          cases hx
          obtain ⟨key, hkey⟩ := Option.isSome_iff_exists.mp hkey
          cases rs with
          | cons r1 rs =>
            cases rs
            obtain rfl := key_dq r1 hkey
            have hp2 := S2.dicBack st2 hp hk
            obtain ⟨b, hb', _, es, hH, hd⟩ := S2.objs.get hk
            rw [hp2] at hb'
            cases hb'
            refine ⟨p, _, valV es key, rfl, .inl ⟨es, key, .of hH, rfl, rfl⟩, .inl ⟨rfl, ?_⟩⟩
            rcases kv_find hkey hd with ⟨f1, f2⟩ | ⟨w, d, f1, f2, f3⟩
            · rw [f1]
              rw [f2] at h3
              exact h3 .non W2 H2 (st1.trans st2) S2 .non
            · rw [f1]
              rw [f2] at h3
              exact h3 w W2 H2 (st1.trans st2) S2 f3
        · cases hx
      · cases hx
    · split at hx
      · rename_i kvs hk
        split at hx
        · rename_i hkey
          cases hx
          obtain ⟨key, hkey⟩ := Option.isSome_iff_exists.mp hkey
          cases rs with
          | cons r1 rs =>
            cases rs with
            | cons r2 rs =>
            cases rs
            obtain rfl := key_dq r1 hkey
            have hp2 := S2.dicBack st2 hp hk
            obtain ⟨b, hb', _, es, hH, hd⟩ := S2.objs.get hk
            rw [hp2] at hb'
            cases hb'
            refine ⟨p, _, valV es key, rfl, .inl ⟨es, key, .of hH, rfl, rfl⟩, .inr ⟨_, rfl, ?_⟩⟩
            rcases kv_find hkey hd with ⟨f1, f2⟩ | ⟨w, d, f1, f2, f3⟩
            · rw [f1]
              rw [f2] at h3
              exact h3 _ W2 H2 (st1.trans st2) S2 r2
            · rw [f1]
              rw [f2] at h3
              exact h3 w W2 H2 (st1.trans st2) S2 f3
        · cases hx
      · cases hx
    · cases hx
end
end Pd

set_option Elab.async false
set_option linter.all false
set_option maxRecDepth 100000
set_option maxHeartbeats 2000000
/-! What is walked; targets; comprehensions. -/
namespace Pd
open PySem L2
/-- a datum that is walked over: for a target of several, also a pair of the moment -/
def DqI (K : PySem.W.Frag) (b : Bool) (B : Hp) (v : V) (d : D) : Prop := Dq K B v d ∨ (b = true ∧ ∃ a vs ds, v = .ref a ∧ d = .tuple ds ∧ SqT K B a vs ∧ Dqs K B vs ds)
/-- an iterator that yields these data, whatever is changed but the stock B -/
structure ItD (K : PySem.W.Frag) (b : Bool) (B : Hp) (J : It) (xs : List D) : Prop where
  go : ∀ i H, Sub B H → i < xs.length → J.go i H
  yld : ∀ i W s σ H v H', Sim K W s σ H → Sub B W.B → J.yld i H v H' → ∃ W', Step W H W' H' ∧ W'.al = W.al ∧ Sim K W' s σ H' ∧ ∀ x, xs[i]? = some x → DqI K b W'.B v x
  stop : ∀ i H, Sub B H → xs.length ≤ i → J.stop i H
theorem ItD.mono {K : PySem.W.Frag} {b : Bool} {B B' : Hp} {J : It} {xs : List D} (h : ItD K b B J xs) (e : Sub B B') : ItD K b B' J xs :=
  ⟨fun i H s l => h.go i H (e.trans s) l, fun i W s σ H v H' S sb y => h.yld i W s σ H v H' S (e.trans sb) y, fun i H s l => h.stop i H (e.trans s) l⟩
theorem itd_list {K : PySem.W.Frag} {bt : Bool} {B : Hp} {a : Addr} {vs : List V} {xs : List D} (h : SqL K B a vs) (q : Dqs K B vs xs) : ItD K bt B (Itl K a) xs where
  go := fun i H s l => by
    obtain ⟨v, hv, _⟩ := dl_get q (List.getElem?_eq_getElem l)
    exact ⟨vs, v, s.l h, hv⟩
  yld := fun i W s σ H v H' S sb y => by
    obtain ⟨rfl, y2⟩ := y
    refine ⟨W, .rfl', rfl, S, fun x e => ?_⟩
    obtain ⟨d, hd, hq⟩ := dl_getV q (y2 vs ((sb.trans S.sub).l h))
    rw [e] at hd
    cases hd
    exact .inl (Dq.mono sb _ _ hq)
  stop := fun i H s l => ⟨vs, s.l h, by rw [dl_len q]; exact l⟩
theorem itd_tup {K : PySem.W.Frag} {bt : Bool} {B : Hp} {a : Addr} {vs : List V} {xs : List D} (h : SqT K B a vs) (q : Dqs K B vs xs) : ItD K bt B (Itt K a) xs where
  go := fun i H s l => by
    obtain ⟨v, hv, _⟩ := dl_get q (List.getElem?_eq_getElem l)
    exact ⟨vs, v, s.t h, hv⟩
  yld := fun i W s σ H v H' S sb y => by
    obtain ⟨rfl, y2⟩ := y
    refine ⟨W, .rfl', rfl, S, fun x e => ?_⟩
    obtain ⟨d, hd, hq⟩ := dl_getV q (y2 vs ((sb.trans S.sub).t h))
    rw [e] at hd
    cases hd
    exact .inl (Dq.mono sb _ _ hq)
  stop := fun i H s l => ⟨vs, s.t h, by rw [dl_len q]; exact l⟩
theorem pairsD_get : ∀ {xs ys : List D} {i : Nat} {d : D}, (pairsD xs ys)[i]? = some d → ∃ x y, xs[i]? = some x ∧ ys[i]? = some y ∧ d = .tuple [x, y]
  | x :: xs, y :: ys, 0, d, h => ⟨x, y, rfl, rfl, (Option.some.inj h).symm⟩
  | x :: xs, y :: ys, i + 1, d, h => pairsD_get (xs := xs) (ys := ys) (i := i) h
  | [], _, i, d, h => by simp [pairsD] at h
  | _ :: _, [], i, d, h => by simp [pairsD] at h
theorem pairsD_len : ∀ (xs ys : List D), (pairsD xs ys).length = min xs.length ys.length
  | x :: xs, y :: ys => by
    show (pairsD xs ys).length + 1 = _
    rw [pairsD_len xs ys, List.length_cons, List.length_cons]
    omega
  | [], _ => by simp [pairsD]
  | _ :: _, [] => by simp [pairsD]
/-- the yield of a fresh pair -/
theorem yld_pair {K : PySem.W.Frag} {W : Wd} {s : PSt} {σ : L2.St} {H H' : Hp} {T : Addr} {x y : V} {xs ys : List D} {vs us : List V} {i : Nat} (S : Sim K W s σ H) (n : H T = none) (e : H' = upd H T (.tup [x, y])) (hx : vs[i]? = some x) (hy : us[i]? = some y) (q1 : Dqs K W.B vs xs) (q2 : Dqs K W.B us ys) :
    ∃ W', Step W H W' H' ∧ W'.al = W.al ∧ Sim K W' s σ H' ∧ ∀ d, (pairsD xs ys)[i]? = some d → DqI K true W'.B (.ref T) d := by
  subst e
  obtain ⟨x', e1, h1⟩ := dl_getV q1 hx
  obtain ⟨y', e2, h2⟩ := dl_getV q2 hy
  obtain ⟨S1, st1⟩ := S.newP (vs := [x, y]) n
  refine ⟨_, st1, rfl, S1, fun d e => ?_⟩
  obtain ⟨a, b, e3, e4, rfl⟩ := pairsD_get e
  rw [e1] at e3
  rw [e2] at e4
  cases e3
  cases e4
  exact .inr ⟨rfl, _, _, _, rfl, rfl, SqT.of upd_same, Dqs.mono st1.sub _ _ (Dqs.cons h1 (.cons h2 .nil))⟩
theorem itd_zipL {K : PySem.W.Frag} {B : Hp} {a b : Addr} {vs us : List V} {xs ys : List D} (h1 : SqL K B a vs) (q1 : Dqs K B vs xs) (h2 : SqL K B b us) (q2 : Dqs K B us ys) : ItD K true B (Itz K a b) (pairsD xs ys) where
  go := fun i H s l => by
    rw [pairsD_len] at l
    obtain ⟨v, hv, _⟩ := dl_get q1 (List.getElem?_eq_getElem (by omega : i < xs.length))
    obtain ⟨u, hu, _⟩ := dl_get q2 (List.getElem?_eq_getElem (by omega : i < ys.length))
    exact ⟨vs, us, v, u, s.l h1, s.l h2, hv, hu⟩
  yld := fun i W s σ H v H' S sb y => by
    obtain ⟨T, x, y', rfl, n, e, g1, g2⟩ := y
    exact yld_pair S n e (g1 vs ((sb.trans S.sub).l h1)) (g2 us ((sb.trans S.sub).l h2)) (Dqs.mono sb _ _ q1) (Dqs.mono sb _ _ q2)
  stop := fun i H s l => ⟨vs, us, s.l h1, s.l h2, by rw [pairsD_len] at l; rw [dl_len q1, dl_len q2]; omega⟩
theorem itd_zipT {K : PySem.W.Frag} {B : Hp} {a b : Addr} {vs us : List V} {xs ys : List D} (h1 : SqT K B a vs) (q1 : Dqs K B vs xs) (h2 : SqT K B b us) (q2 : Dqs K B us ys) : ItD K true B (RZ.ItzT K a b) (pairsD xs ys) where
  go := fun i H s l => by
    rw [pairsD_len] at l
    obtain ⟨v, hv, _⟩ := dl_get q1 (List.getElem?_eq_getElem (by omega : i < xs.length))
    obtain ⟨u, hu, _⟩ := dl_get q2 (List.getElem?_eq_getElem (by omega : i < ys.length))
    exact ⟨vs, us, v, u, s.t h1, s.t h2, hv, hu⟩
  yld := fun i W s σ H v H' S sb y => by
    obtain ⟨T, x, y', rfl, n, e, g1, g2⟩ := y
    exact yld_pair S n e (g1 vs ((sb.trans S.sub).t h1)) (g2 us ((sb.trans S.sub).t h2)) (Dqs.mono sb _ _ q1) (Dqs.mono sb _ _ q2)
  stop := fun i H s l => ⟨vs, us, s.t h1, s.t h2, by rw [pairsD_len] at l; rw [dl_len q1, dl_len q2]; omega⟩
theorem rangeL_len (a b : Int) : (rangeL a b).length = (b - a).toNat := by
  unfold rangeL
  rw [List.length_map, List.length_range]
theorem rangeL_get {a b : Int} {i : Nat} {x : D} (h : (rangeL a b)[i]? = some x) : x = .int (a + (i : Nat)) := by
  unfold rangeL at h
  rw [List.getElem?_map] at h
  obtain ⟨k, e, rfl⟩ := Option.map_eq_some_iff.mp h
  rw [List.getElem?_range (by
    have := (List.getElem?_eq_some_iff.mp e).1
    rw [List.length_range] at this
    exact this)] at e
  cases e
  rfl
theorem itd_range {K : PySem.W.Frag} {bt : Bool} {B : Hp} {a b : Int} : ItD K bt B (Itr a (b - a).toNat) (rangeL a b) where
  go := fun i H _ l => by rw [rangeL_len] at l; exact l
  yld := fun i W s σ H v H' S _ y => by
    obtain ⟨rfl, y2⟩ := y
    refine ⟨W, .rfl', rfl, S, fun x e => ?_⟩
    rw [rangeL_get e, y2]
    exact .inl (.int _)
  stop := fun i H _ l => by rw [rangeL_len] at l; exact l
section
variable {X : Cx} {xo : XO} {a b c e tg : Expr} {ma mb mc : M RV} {pos : Pos}
/-- an iterable of data -/
def RI (K : PySem.W.Frag) (bt : Bool) : Rel (List D) It := fun xs J W _ _ => ItD K bt W.B J xs
abbrev TIt (K : PySem.W.Frag) (xo : XO) (bt : Bool) (m : M (List D)) : TI := Tr K xo (RI K bt) m
theorem _root_.L2.PI.weak {t t' : TI} (h : PI X tg e t) (k : ∀ σ H R, t' σ H R → t σ H R) : PI X tg e t' := ⟨fun pins s σ H R I q => h.run pins s σ H R I (k σ H R q)⟩
/-- a list or a tuple -/
def iSeq (K : PySem.W.Frag) (tl : TE) : TI := fun σ H R => tl σ H fun x H1 => ∃ a, x = .ref a ∧ ((∃ xs, SqL K H1 a xs ∧ R (Itl K a) H1) ∨ ∃ xs, SqT K H1 a xs ∧ R (Itt K a) H1)
theorem pi_seq {l : Expr} {tl : TE} (hl : PE X l tl) : PI X tg l (iSeq X.K tl) := by
  refine ⟨fun pins s σ H R I h => ?_⟩
  refine thn (hl.run pins s σ H _ I h) fun v t ⟨x, H1, I1, r1, a, ex, q⟩ => ?_
  subst ex
  obtain rfl : v = Value.ref a := r1
  have val : ∀ {Q : VK}, Q (.ref a) H1 → EP X pins σ Q (.ref a) t := fun q => ⟨.ref a, H1, I1, rfl, q⟩
  rcases q with ⟨xs, hx, hR⟩ | ⟨xs, hx, hR⟩
  · obtain ⟨its, rv, pl, hz⟩ := I1.list hx
    refine wpAny_pyIter_list pl.isList ⟨t.heap.objs.size, [t.heap.objs.size], _, _, H1, rfl, I1.kept (t' := t.toks) fun b o e => Heap.get?_push_of_some _ e, turn_list a _, ⟨_, Heap.get?_push_size _ rfl, rfl, rfl⟩, fun b hb => ?_, hR⟩
    obtain rfl : b = t.heap.objs.size := by simpa using hb
    exact I1.fpOk (Nat.le_refl _) (I1.hok.fresh (Nat.le_refl _))
  · obtain ⟨its, rv, pl, hz⟩ := I1.tuple hx
    refine wpAny_pyIter_tuple (show t.heap.IsTuple a its.toArray from pl) ⟨t.heap.objs.size, [t.heap.objs.size], _, _, H1, rfl, I1.kept (t' := t.toks) fun b o e => Heap.get?_push_of_some _ e, turn_tuple a _, ⟨_, Heap.get?_push_size _ rfl, rfl, rfl⟩, fun b hb => ?_, hR⟩
    obtain rfl : b = t.heap.objs.size := by simpa using hb
    exact I1.fpOk (Nat.le_refl _) (I1.hok.fresh (Nat.le_refl _))
theorem sd_iter {bt : Bool} {k : Nat} (ha : PE X a (T X.K xo ma)) : PI X tg a (TIt X.K xo bt (iterM k ma)) := by
  refine (pi_seq (tg := tg) ha).weak fun σ H R h => ?_
  refine tr_asD (tr_bind h fun W x s1 v W1 H1 st S1 r h1 => ?_)
  obtain ⟨xs, ex, h2⟩ := wp_opt h1
  unfold seqOf at ex
  split at ex
  · cases ex
    cases r with
    | lst h q => exact ⟨_, rfl, .inl ⟨_, S1.sub.l h, h2 _ W1 H1 st S1 (itd_list h q)⟩⟩
  · cases ex
    cases r with
    | tup h q => exact ⟨_, rfl, .inr ⟨_, S1.sub.t h.t, h2 _ W1 H1 st S1 (itd_tup h.t q)⟩⟩
  · cases ex
theorem sd_range1 {bt : Bool} {p : Pos} (hg : L2.Gl X "range") (hm : X.mg "range" = none) (ha : PE X a (T X.K xo ma)) (hn : notStar a = true) : PI X tg (.Call (.Name "range" p) [a] [] pos) (TIt X.K xo bt (rangeM [ma])) := by
  refine (pi_range1 (tg := tg) hg hm (pa_cons ha pa_nil (star_cons hn)) (star_cons hn)).weak fun σ H R h => ?_
  have h' : Tr X.K xo (RI X.K bt) (M.bind (M.bind ma intM) fun j => if smallI j then M.pure (rangeL 0 j) else M.fail) σ H R := h
  refine show T X.K xo ma σ H _ from ?_
  have := tr_int (Q := fun j H1 => -(2 ^ 62) ≤ j ∧ j < 2 ^ 62 ∧ R (Itr 0 j.toNat) H1) (tr_bind h' fun W j s1 d W1 H1 st S1 e h1 => by
    cases (show j = d from e)
    cases hs : smallI j with
    | false => rw [hs] at h1; exact h1.elim
    | true =>
      rw [hs, if_pos rfl] at h1
      have hs' := small_io hs
      have it : ItD X.K bt W1.B (Itr 0 (j - 0).toNat) (rangeL 0 j) := itd_range
      rw [Int.sub_zero] at it
      exact ⟨by omega, by omega, (wp_pure h1) _ W1 H1 st S1 it⟩)
  obtain ⟨W, s, S, q⟩ := this
  exact ⟨W, s, S, wp_imp q (fun rv s1 z v W' H' st S' rr => by
    obtain ⟨j, rfl, g1, g2, g3⟩ := z v W' H' st S' rr
    exact ⟨j, rfl, g1, g2, g3⟩) fun _ _ z => z⟩
end
end Pd

set_option Elab.async false
set_option linter.all false
set_option maxRecDepth 100000
set_option maxHeartbeats 2000000
namespace Pd
open PySem L2
section
variable {X : Cx} {xo : XO} {a b c e tg : Expr} {ma mb mc : M RV} {pos : Pos}
def RI1 : Rel Int Int := fun a b _ _ _ => a = b
theorem sd_range2 {bt : Bool} {p : Pos} (hg : L2.Gl X "range") (hm : X.mg "range" = none) (ha : PE X a (T X.K xo ma)) (hb : PE X b (T X.K xo mb)) (hn : notStar a = true) (hn' : notStar b = true) : PI X tg (.Call (.Name "range" p) [a, b] [] pos) (TIt X.K xo bt (rangeM [ma, mb])) := by
  have e2 : starEach [b] X.env = [(false, eval b X.env)] := star_cons hn'
  have e1 : starEach [a, b] X.env = [(false, eval a X.env), (false, eval b X.env)] := by rw [star_cons hn, e2]
  refine (pi_range2 (tg := tg) hg hm (pa_cons ha (pa_cons hb pa_nil (star_cons hn')) (star_cons hn)) e1 e2).weak fun σ H R h => ?_
  have h' : Tr X.K xo (RI X.K bt) (M.bind (M.bind ma intM) fun i => M.bind (M.bind mb intM) fun j => if smallI i && smallI j then M.pure (rangeL i j) else M.fail) σ H R := h
  refine show T X.K xo ma σ H _ from ?_
  have := tr_int (Q := fun i H1 => T X.K xo mb σ H1 fun v H2 => ∃ j, v = .int j ∧ (-(2 ^ 62) ≤ i ∧ i < 2 ^ 62 ∧ -(2 ^ 62) ≤ j ∧ j < 2 ^ 62) ∧ R (Itr i (j - i).toNat) H2) (tr_bind h' fun W i s1 d W1 H1 st S1 e h1 => by
    cases (show i = d from e)
    have h1' : Tr X.K xo (RI X.K bt) (M.bind (M.bind mb intM) fun j => if smallI i && smallI j then M.pure (rangeL i j) else M.fail) σ H1 R := tr_go (fun _ _ _ _ _ _ _ h => h) st S1 h1
    exact tr_int (Q := fun j H2 => (-(2 ^ 62) ≤ i ∧ i < 2 ^ 62 ∧ -(2 ^ 62) ≤ j ∧ j < 2 ^ 62) ∧ R (Itr i (j - i).toNat) H2) (tr_bind h1' fun W' j s2 d W2 H2 st2 S2 e h2 => by
      cases (show j = d from e)
      cases hs : smallI i && smallI j with
      | false => rw [hs] at h2; exact h2.elim
      | true =>
        rw [hs, if_pos rfl] at h2
        obtain ⟨g1, g2⟩ := Bool.and_eq_true_iff.mp hs
        have g1' := small_io g1
        have g2' := small_io g2
        exact ⟨by omega, (wp_pure h2) _ W2 H2 st2 S2 itd_range⟩))
  obtain ⟨W, s, S, q⟩ := this
  refine ⟨W, s, S, wp_imp q (fun rv s1 z v W' H' st S' rr => ?_) fun _ _ z => z⟩
  obtain ⟨i, rfl, z2⟩ := z v W' H' st S' rr
  obtain ⟨W2, s2, S2, z3⟩ := z2
  refine ⟨W2, s2, S2, wp_imp z3 (fun rv s1 z v W' H' st S' rr => ?_) fun _ _ z => z⟩
  obtain ⟨j, rfl, g1, g2⟩ := z v W' H' st S' rr
  exact ⟨i, j, rfl, g1, g2⟩

/-! ### targets -/
/-- an item stored: only slots in vs may change -/
def TgD (K : PySem.W.Frag) (bt : Bool) (vs : List Nat) (m : D → M Unit) : TG := fun v σ H Q => ∃ W s d, Sim K W s σ H ∧ DqI K bt W.B v d ∧ wpM (m d) s (fun _ s' => ∀ σ', σ'.length = σ.length → (∀ i, i ∉ vs → σ'[i]? = σ[i]?) → Sim K W s' σ' H → Q σ' H) (fun _ _ => False)
theorem set_len {σ : L2.St} {env : EnvP} (h : σ.length = env.length) (i : Nat) (v : Option V) (c : Option C) : (σ.set i v).length = (env.set i c).length := by
  rw [List.length_set, List.length_set]
  exact h
theorem Sim.store {K : PySem.W.Frag} {W : Wd} {s : PSt} {σ : L2.St} {H : Hp} {v : V} {c : C} (S : Sim K W s σ H) (i : Nat) (r : CRep K W v c) : Sim K W ⟨s.env.set i (some c), s.L⟩ (σ.set i (some v)) H := by
  refine ⟨S.sub, S.nod, S.objs, set_len S.env.1 .., fun j c' e => ?_⟩
  by_cases h : i = j
  · subst h
    have hl : i < s.env.length := by
      have := (List.getElem?_eq_some_iff.mp e).1
      rw [List.length_set] at this
      exact this
    rw [List.getElem?_set_self hl] at e
    cases e
    exact ⟨v, List.getElem?_set_self (by rw [S.env.1]; exact hl), r⟩
  · rw [List.getElem?_set_ne h] at e
    obtain ⟨w, a, b⟩ := S.env.2 j c' e
    exact ⟨w, by rw [List.getElem?_set_ne h]; exact a, b⟩
theorem set_out {σ : L2.St} {i j : Nat} {v : Option V} (h : i ≠ j) : (σ.set i v)[j]? = σ[j]? := List.getElem?_set_ne h
def TgsD (K : PySem.W.Frag) (vs : List Nat) (n : Nat) (m : List D → M Unit) : TGs := fun us σ H Q => ∃ W s ds, Sim K W s σ H ∧ Dqs K W.B us ds ∧ ds.length = n ∧ wpM (m ds) s (fun _ s' => ∀ σ', σ'.length = σ.length → (∀ i, i ∉ vs → σ'[i]? = σ[i]?) → Sim K W s' σ' H → Q σ' H) (fun _ _ => False)
theorem asg_cons {e : Expr} {es : List Expr} {env : Env} (h : notStar e = true) : assignEach (e :: es) env = (false, assign e env) :: assignEach es env := by
  cases e <;> first | rfl | cases h
theorem asg_len {env : Env} : ∀ {es : List Expr}, es.all notStar = true → (assignEach es env).length = es.length ∧ (assignEach es env).findIdx? (·.1) = none
  | [], _ => ⟨rfl, rfl⟩
  | e :: es, h => by
    obtain ⟨h1, h2⟩ := List.all_cons (f := notStar) ▸ h |> Bool.and_eq_true_iff.mp
    obtain ⟨a, b⟩ := asg_len (env := env) h2
    rw [asg_cons h1]
    refine ⟨congrArg (· + 1) a, ?_⟩
    rw [List.findIdx?_cons, b]
    rfl
/-- which names may be stored -/
def Lok (X : Cx) (sc : Scope) : Prop := ∀ x, locB sc x = true → Loc X.env.scope x ∧ (X.fn x = true ∨ X.env.scope.names.lookup x = some .local)
theorem sd_tgs {k : Nat} {N : List Str} {sc : Scope} {n : Nat} : ∀ (ts : List Expr), (∀ t ∈ ts, PG X t (TgD X.K (isTupE t) (tgSlots N n t) (fun x => tgtM k N sc n t x))) → ts.all notStar = true → PGs X ts (TgsD X.K (ts.flatMap (tgSlots N n)) ts.length (fun ds => eachT (ts.map (tgtM k N sc n))  ds))
  | [], _, _ => ⟨fun pins s σ H vs us Q I r ⟨W, st, ds, S, q, hl, h⟩ => pgs_nil.run pins s σ H vs us Q I r (by
      cases ds with
      | nil => cases q; exact ⟨rfl, h σ rfl (fun _ _ => rfl) S⟩
      | cons d ds => cases hl)⟩
  | t :: ts, h, hn => by
    obtain ⟨h1, h2⟩ := List.all_cons (f := notStar) ▸ hn |> Bool.and_eq_true_iff.mp
    have ih := sd_tgs ts (fun x m => h x (.tail _ m)) h2
    refine ⟨fun pins s σ H vs us Q I r ⟨W, st, ds, S, q, hl, g⟩ => (pgs_cons (h t (.head _)) ih (by rw [asg_cons h1]; rfl)).run pins s σ H vs us Q I r ?_⟩
    match vs, ds, q, hl, g with
    | [], [], .nil, hl, _ => cases hl
    | v :: vr, d :: dr, .cons q qs, hl, g =>
      refine ⟨v, vr, rfl, W, st, d, S, .inl q, wp_bind (show wpM (M.bind (tgtM k N sc n t d) fun _ => eachT (ts.map (tgtM k N sc n))  dr) st _ _ from g) (fun _ s1 g1 σ' l1 o1 S1 => ?_) fun _ _ z => z⟩
      refine ⟨W, s1, dr, S1, qs, Nat.succ.inj hl, wp_imp g1 (fun _ s2 g2 σ'' l2 o2 S2 => ?_) fun _ _ z => z⟩
      refine g2 σ'' (l2.trans l1) (fun i hi => ?_) S2
      have hi' : i ∉ tgSlots N n t ∧ i ∉ ts.flatMap (tgSlots N n) := by
        rw [List.flatMap_cons, List.mem_append] at hi
        exact ⟨fun m => hi (.inl m), fun m => hi (.inr m)⟩
      rw [o2 i hi'.2, o1 i hi'.1]
theorem sd_tg {k : Nat} {N : List Str} {sc : Scope} (hc : X.calm = true) (hN : X.N = N) (nd : N.Nodup) (lk : Lok X sc) : ∀ (n : Nat) (t : Expr), PG X t (TgD X.K (isTupE t) (tgSlots N n t) (fun x => tgtM k N sc n t x))
  | 0, _ => ⟨fun pins s σ H v u Q I r ⟨W, st, d, S, q, h⟩ => h.elim⟩
  | n + 1, t => by
    cases t with
    | Name y p =>
      refine ⟨fun pins s σ H v u Q I r ⟨W, st, d, S, q, h⟩ => ?_⟩
      have q : Dq X.K W.B v d := q.elim (fun z => z) fun z => nomatch z.1
      unfold tgtM at h
      simp only at h
      cases hs : slot N y with
      | none => rw [hs] at h; exact h.elim
      | some i =>
        rw [hs] at h
        simp only at h
        cases hl : locB sc y with
        | false => rw [hl] at h; exact h.elim
        | true =>
          rw [hl, if_pos rfl] at h
          obtain ⟨l1, l2⟩ := lk y hl
          refine (pg_name (i := i) (by rw [hN]; exact nd) (by rw [hN]; exact slot_get hs) l1 l2).run pins s σ H v u Q I r ?_
          have h' : ∀ σ', σ'.length = σ.length → (∀ j, j ∉ tgSlots N (n + 1) (.Name y p) → σ'[j]? = σ[j]?) → Sim X.K W ⟨st.env.set i (some (.d d)), st.L⟩ σ' H → Q σ' H := h
          refine h' _ (List.length_set ..) (fun j hj => set_out fun e => hj ?_) (S.store i q)
          subst e
          show i ∈ (slot N y).toList
          rw [hs]
          exact .head _
    | Tuple ts p1 p2 =>
      refine ⟨fun pins s σ H v u Q I r ⟨W, st, d, S, q, h⟩ => ?_⟩
      unfold tgtM at h
      cases d with
      | tuple xs =>
        simp only at h
        cases hs : ts.all notStar && xs.length == ts.length with
        | false => rw [hs] at h; exact h.elim
        | true =>
          rw [hs, if_pos rfl] at h
          obtain ⟨h1, h2⟩ := Bool.and_eq_true_iff.mp hs
          obtain ⟨a1, a2⟩ := asg_len (env := X.env) h1
          refine (pg_tup hc (sd_tgs (k := k) ts (fun t _ => sd_tg (k := k) hc hN nd lk n t) h1) a1 a2).run pins s σ H v u Q I r ?_
          rcases q with q | ⟨_, a, vs, ds, rfl, e, hq, qs⟩
          · cases q with
            | tup hq qs => exact ⟨_, _, rfl, S.sub.t hq.t, (dl_len qs).trans (by simpa using h2), W, st, xs, S, qs, by simpa using h2, h⟩
          · cases e
            exact ⟨_, _, rfl, S.sub.t hq, (dl_len qs).trans (by simpa using h2), W, st, xs, S, qs, by simpa using h2, h⟩
      | list xs =>
        simp only at h
        cases hs : ts.all notStar && xs.length == ts.length with
        | false => rw [hs] at h; exact h.elim
        | true =>
          rw [hs, if_pos rfl] at h
          obtain ⟨h1, h2⟩ := Bool.and_eq_true_iff.mp hs
          obtain ⟨a1, a2⟩ := asg_len (env := X.env) h1
          refine (pg_unl hc (sd_tgs (k := k) ts (fun t _ => sd_tg (k := k) hc hN nd lk n t) h1) a1 a2).run pins s σ H v u Q I r ?_
          rcases q with q | ⟨_, a, vs, ds, rfl, e, hq, qs⟩
          · cases q with
            | lst hq qs => exact ⟨_, _, rfl, S.sub.l hq, (dl_len qs).trans (by simpa using h2), W, st, xs, S, qs, by simpa using h2, h⟩
          · cases e
      | _ => exact h.elim
    | _ => exact ⟨fun pins s σ H v u Q I r ⟨W, st, d, S, q, h⟩ => h.elim⟩

/-! ### comprehensions -/
theorem wipe_get {σ : L2.St} {vs : List Nat} {i : Nat} (h : i ∉ vs) : (wipe σ vs)[i]? = σ[i]? := wipe_out h
theorem wipeE_len : ∀ (vs : List Nat) (env : EnvP), (wipeE env vs).length = env.length
  | [], _ => rfl
  | v :: vs, env => (wipeE_len vs (env.set v none)).trans (List.length_set ..)
theorem wipeE_get : ∀ {vs : List Nat} {env : EnvP} {i : Nat} {c : C}, (wipeE env vs)[i]? = some (some c) → i ∉ vs ∧ env[i]? = some (some c)
  | [], _, _, _, h => ⟨(fun m => nomatch m), h⟩
  | v :: vs, env, i, c, h => by
    obtain ⟨h1, h2⟩ := wipeE_get (vs := vs) (env := env.set v none) h
    by_cases e : v = i
    · subst e
      have hl : v < env.length := by
        have := (List.getElem?_eq_some_iff.mp h2).1
        rw [List.length_set] at this
        exact this
      rw [List.getElem?_set_self hl] at h2
      cases h2
    · rw [List.getElem?_set_ne e] at h2
      exact ⟨fun m => (List.mem_cons.mp m).elim (fun q => e q.symm) h1, h2⟩
/-- the state of a turn's start -/
theorem Sim.wipe {K : PySem.W.Frag} {W : Wd} {env : EnvP} {L : List MO} {σ : L2.St} {H : Hp} (S : Sim K W ⟨env, L⟩ σ H) (vs : List Nat) : Sim K W ⟨wipeE env vs, L⟩ (L2.wipe σ vs) H := by
  refine ⟨S.sub, S.nod, S.objs, by rw [wipe_length, wipeE_len]; exact S.env.1, fun i c e => ?_⟩
  obtain ⟨h1, h2⟩ := wipeE_get e
  obtain ⟨v, a, b⟩ := S.env.2 i c h2
  exact ⟨v, (wipe_get h1).trans a, b⟩
theorem restore_get : ∀ {vs : List Nat} {e0 e : EnvP} {i : Nat} {c : C}, (restore vs e0 e)[i]? = some (some c) → (i ∉ vs ∧ e[i]? = some (some c)) ∨ (i ∈ vs ∧ e0[i]? = some (some c))
  | [], _, _, _, _, h => .inl ⟨(fun m => nomatch m), h⟩
  | v :: vs, e0, e, i, c, h => by
    rcases restore_get (vs := vs) (e0 := e0) (e := e.set v (e0.getD v none)) h with ⟨h1, h2⟩ | ⟨h1, h2⟩
    · by_cases q : v = i
      · subst q
        have hl : v < e.length := by
          have := (List.getElem?_eq_some_iff.mp h2).1
          rw [List.length_set] at this
          exact this
        rw [List.getElem?_set_self hl] at h2
        refine .inr ⟨.head _, ?_⟩
        have h3 : e0.getD v none = some c := Option.some.inj h2
        rw [List.getD_eq_getElem?_getD] at h3
        cases h4 : e0[v]? with
        | none => rw [h4] at h3; cases h3
        | some o => rw [h4] at h3; exact congrArg some h3
      · rw [List.getElem?_set_ne q] at h2
        exact .inl ⟨fun m => (List.mem_cons.mp m).elim (fun z => q z.symm) h1, h2⟩
    · exact .inr ⟨.tail _ h1, h2⟩
theorem restore_len : ∀ (vs : List Nat) (e0 e : EnvP), (restore vs e0 e).length = e.length
  | [], _, _ => rfl
  | v :: vs, e0, e => (restore_len vs e0 _).trans (List.length_set ..)
theorem ownFree_get {vs : List Nat} {env : EnvP} (h : ownFree vs env = true) {i : Nat} {c : C} (m : i ∈ vs) (e : env[i]? = some (some c)) : ∃ x, c = .d x := by
  have := List.all_eq_true.mp h i m
  rw [List.getD_eq_getElem?_getD, e] at this
  cases c with
  | d x => exact ⟨x, rfl⟩
  | r k => cases this
end
end Pd

set_option Elab.async false
set_option linter.all false
set_option maxRecDepth 100000
set_option maxHeartbeats 2000000
/-! zip, enumerate, list(range(..)). -/
namespace Pd
open PySem L2
section
variable {X : Cx} {xo : XO} {a b c e tg : Expr} {ma mb mc : M RV} {pos : Pos}
theorem sd_zip {k kk : Nat} {n : Expr → M RV} {elts as : List Expr} {p tpos : Pos} (hg : L2.Gl X "zip") (hm : X.mg "zip" = none) (h : ∀ v ∈ as, PE X v (T X.K xo (n v))) (hs : as.all notStar = true) (hl : (as.length == 2) = true) :
    PI X (.Tuple elts kk tpos) (.Call (.Name "zip" p) as [] pos) (TIt X.K xo true (M.bind (seqM (as.map fun z => asD k (n z))) fun ds => optM (zipO ds))) := by
  match as, hl with
  | [a, b], _ =>
    obtain ⟨s1, s2⟩ := List.all_cons (f := notStar) ▸ hs |> Bool.and_eq_true_iff.mp
    refine (RZ.pi_zipA hg hm (sd_args (k := k) [a, b] h hs) (star_cons s1) (plain_star s2)).weak fun σ H R h => ?_
    refine tr_bind h fun W ds s1 vs W1 H1 st S1 rs h1 => ?_
    obtain ⟨xs, ex, h2⟩ := wp_opt h1
    unfold zipO at ex
    split at ex
    · cases ex
      cases rs with
      | cons r1 rs =>
        cases rs with
        | cons r2 rs =>
          cases rs
          cases r1 with
          | lst h q =>
            cases r2 with
            | lst h' q' => exact ⟨_, _, _, _, rfl, .inl ⟨S1.sub.l h, S1.sub.l h', h2 _ W1 H1 st S1 (itd_zipL h q h' q')⟩⟩
    · cases ex
      cases rs with
      | cons r1 rs =>
        cases rs with
        | cons r2 rs =>
          cases rs
          cases r1 with
          | tup h q =>
            cases r2 with
            | tup h' q' => exact ⟨_, _, _, _, rfl, .inr ⟨S1.sub.t h.t, S1.sub.t h'.t, h2 _ W1 H1 st S1 (itd_zipT h.t q h'.t q')⟩⟩
    · cases ex
theorem itd_enum {K : PySem.W.Frag} {B : Hp} {a : Addr} {vs : List V} {xs : List D} (h1 : SqL K B a vs) (q1 : Dqs K B vs xs) : ItD K true B (Ite K a) (pairsD (rangeL 0 xs.length) xs) where
  go := fun i H s l => by
    rw [pairsD_len] at l
    obtain ⟨v, hv, _⟩ := dl_get q1 (List.getElem?_eq_getElem (by omega : i < xs.length))
    exact ⟨vs, v, s.l h1, hv⟩
  yld := fun i W s σ H v H' S sb y => by
    obtain ⟨T, x, rfl, n, e, g1⟩ := y
    have hx := g1 vs ((sb.trans S.sub).l h1)
    obtain ⟨x', e1, hq⟩ := dl_getV (Dqs.mono sb _ _ q1) hx
    subst e
    obtain ⟨S1, st1⟩ := S.newP (vs := [.int (i : Nat), x]) n
    refine ⟨_, st1, rfl, S1, fun d e => ?_⟩
    obtain ⟨a, b, e3, e4, rfl⟩ := pairsD_get e
    have := rangeL_get e3
    rw [e1] at e4
    cases e4
    rw [this, Int.zero_add]
    exact .inr ⟨rfl, _, _, _, rfl, rfl, SqT.of upd_same, Dqs.mono st1.sub _ _ (Dqs.cons (.int (i : Nat)) (.cons hq .nil))⟩
  stop := fun i H s l => ⟨vs, s.l h1, by
    rw [pairsD_len, rangeL_len] at l
    rw [dl_len q1]
    omega⟩
theorem itd_enumT {K : PySem.W.Frag} {B : Hp} {a : Addr} {vs : List V} {xs : List D} (h1 : SqT K B a vs) (q1 : Dqs K B vs xs) : ItD K true B (Pn.Iet K a) (pairsD (rangeL 0 xs.length) xs) where
  go := fun i H s l => by
    rw [pairsD_len] at l
    obtain ⟨v, hv, _⟩ := dl_get q1 (List.getElem?_eq_getElem (by omega : i < xs.length))
    exact ⟨vs, v, s.t h1, hv⟩
  yld := fun i W s σ H v H' S sb y => by
    obtain ⟨T, x, rfl, n, e, g1⟩ := y
    have hx := g1 vs ((sb.trans S.sub).t h1)
    obtain ⟨x', e1, hq⟩ := dl_getV (Dqs.mono sb _ _ q1) hx
    subst e
    obtain ⟨S1, st1⟩ := S.newP (vs := [.int (i : Nat), x]) n
    refine ⟨_, st1, rfl, S1, fun d e => ?_⟩
    obtain ⟨a, b, e3, e4, rfl⟩ := pairsD_get e
    have := rangeL_get e3
    rw [e1] at e4
    cases e4
    rw [this, Int.zero_add]
    exact .inr ⟨rfl, _, _, _, rfl, rfl, SqT.of upd_same, Dqs.mono st1.sub _ _ (Dqs.cons (.int (i : Nat)) (.cons hq .nil))⟩
  stop := fun i H s l => ⟨vs, s.t h1, by
    rw [pairsD_len, rangeL_len] at l
    rw [dl_len q1]
    omega⟩
theorem sd_enum {k kk : Nat} {n : Expr → M RV} {elts as : List Expr} {p tpos : Pos} (hg : L2.Gl X "enumerate") (hm : X.mg "enumerate" = none) (h : ∀ v ∈ as, PE X v (T X.K xo (n v))) (hs : as.all notStar = true) (hl : (as.length == 1) = true) :
    PI X (.Tuple elts kk tpos) (.Call (.Name "enumerate" p) as [] pos) (TIt X.K xo true (M.bind (seqM (as.map fun z => asD k (n z))) fun ds => optM (enumO ds))) := by
  match as, hl with
  | [a], _ =>
    obtain ⟨s1, s2⟩ := List.all_cons (f := notStar) ▸ hs |> Bool.and_eq_true_iff.mp
    refine (Pn.pi_enumA hg hm (sd_args (k := k) [a] h hs) (star_cons s1)).weak fun σ H R h => ?_
    refine tr_bind h fun W ds s1 vs W1 H1 st S1 rs h1 => ?_
    obtain ⟨xs, ex, h2⟩ := wp_opt h1
    unfold enumO at ex
    split at ex
    · cases ex
      cases rs with
      | cons r1 rs =>
        cases rs
        cases r1 with
        | lst h q => exact ⟨_, rfl, .inl ⟨_, S1.sub.l h, h2 _ W1 H1 st S1 (itd_enum h q)⟩⟩
    · cases ex
      cases rs with
      | cons r1 rs =>
        cases rs
        cases r1 with
        | tup h q => exact ⟨_, rfl, .inr ⟨_, S1.sub.t h.t, h2 _ W1 H1 st S1 (itd_enumT h.t q)⟩⟩
    · cases ex
/-! ### list(range(..)) -/
theorem dl_rg {K : PySem.W.Frag} {B : Hp} (i j : Int) : Dqs K B (rgV i j) (rangeL i j) := by
  unfold rgV rangeL
  generalize List.range (j - i).toNat = l
  induction l with
  | nil => exact .nil
  | cons x l ih => exact .cons (.int _) ih
theorem rg_ok {i j : Int} (h1 : smallI i = true) (h2 : smallI j = true) (h : fits (rangeL i j).length = true) : RgOk i j := by
  have h1 := small_io h1
  have h2 := small_io h2
  have h := of_decide_eq_true h
  rw [rangeL_len] at h
  exact ⟨by omega, by omega, by omega, by omega, by omega⟩
theorem rg_end {i j : Int} {W0 W1 : Wd} {H0 H1 : Hp} {s1 : PSt} {σ : L2.St} {Q : VK} (h1 : smallI i = true) (h2 : smallI j = true) (st : Step W0 H0 W1 H1) (S1 : Sim X.K W1 s1 σ H1)
    (h : wpM (if fits (rangeL i j).length then M.pure (.f (rangeL i j)) else M.fail : M RV) s1 (PO X.K (RR X.K) W0 H0 σ Q) (PXO X.K xo W0 H0 σ)) : RgOk i j ∧ ∀ q, H1 q = none → Q (.ref q) (upd H1 q (.lst (rgV i j))) := by
  cases hf : fits (rangeL i j).length with
  | false => rw [hf] at h; exact h.elim
  | true =>
    rw [hf, if_pos rfl] at h
    refine ⟨rg_ok h1 h2 hf, fun p hp => ?_⟩
    obtain ⟨hb, ha⟩ := S1.fresh hp
    exact (wp_pure h) _ W1 _ (st.trans (Step.alloc hp)) (S1.alloc hp) ⟨p, _, rfl, st.trk p hp, hb, ha, upd_same, dl_rg i j⟩
theorem isRange_some {e : Expr} {as : List Expr} (h : isRange e = some as) : (∃ p a pos, e = .Call (.Name ("range" : Str) p) [a] [] pos ∧ as = [a]) ∨ ∃ p a b pos, e = .Call (.Name ("range" : Str) p) [a, b] [] pos ∧ as = [a, b] := by
  unfold isRange at h
  split at h
  · split at h
    · rename_i ef
      cases h
      subst ef
      exact .inl ⟨_, _, _, rfl, rfl⟩
    · cases h
  · split at h
    · rename_i ef
      cases h
      subst ef
      exact .inr ⟨_, _, _, _, rfl, rfl⟩
    · cases h
  · cases h
theorem sd_lrg {as' : List Expr} {n : Expr → M RV} {p : Pos} (hc : X.calm = true) (hg : L2.Gl X "list") (hm : X.mg "list" = none) (hgr : L2.Gl X "range") (hmr : X.mg "range" = none) (hr : isRange e = some as') (h : ∀ v ∈ as', PE X v (T X.K xo (n v))) (hs : as'.all notStar = true) (hne : notStar e = true) :
    PE X (.Call (.Name "list" p) [e] [] pos) (T X.K xo (M.bind (rangeM (as'.map n)) fun xs => if fits xs.length then M.pure (.f xs) else M.fail)) := by
  rcases isRange_some hr with ⟨p', a, pos', rfl, rfl⟩ | ⟨p', a, b, pos', rfl, rfl⟩
  · · have ha := h a (.head _)
      have sa : notStar a = true := (Bool.and_eq_true_iff.mp (List.all_cons (f := notStar) ▸ hs)).1
      refine (pe_listRg hc hg hm (prg_1 hgr hmr ha (star_cons sa)) (star_cons hne)).weak fun σ H Q h => ?_
      have h' : T X.K xo (M.bind (M.bind (M.bind (n a) intM) fun j => if smallI j then M.pure (rangeL 0 j) else M.fail) fun xs => if fits xs.length then M.pure (.f xs) else M.fail) σ H Q := h
      obtain ⟨W, s, S, q⟩ := h'
      have q := wp_assoc q
      have := tr_int (Q := fun j H1 => RgOk 0 j ∧ ∀ q, H1 q = none → Q (.ref q) (upd H1 q (.lst (rgV 0 j)))) (tr_bind ⟨W, s, S, q⟩ fun W0 j s1 d W1 H1 st S1 e h1 => by
        cases (show j = d from e)
        cases hj : smallI j with
        | false => rw [hj] at h1; exact h1.elim
        | true =>
          rw [hj, if_pos rfl] at h1
          exact rg_end (by decide) hj st S1 h1)
      obtain ⟨W, s, S, q⟩ := this
      exact ⟨W, s, S, wp_imp q (fun rv s1 z v W' H' st S' rr => by
        obtain ⟨j, rfl, g1, g2⟩ := z v W' H' st S' rr
        exact ⟨j, rfl, g1, g2⟩) fun _ _ z => z⟩
  · · have ha := h a (.head _)
      have hb := h b (.tail _ (.head _))
      obtain ⟨sa, sb⟩ := Bool.and_eq_true_iff.mp (List.all_cons (f := notStar) ▸ hs)
      have hs' := sb
      have sb : notStar b = true := (Bool.and_eq_true_iff.mp (List.all_cons (f := notStar) ▸ sb)).1
      refine (pe_listRg hc hg hm (prg_2 hgr hmr ha hb (star_cons sa) (star_cons sb) (plain_star hs')) (star_cons hne)).weak fun σ H Q h => ?_
      have h' : T X.K xo (M.bind (M.bind (M.bind (n a) intM) fun i => M.bind (M.bind (n b) intM) fun j => if smallI i && smallI j then M.pure (rangeL i j) else M.fail) fun xs => if fits xs.length then M.pure (.f xs) else M.fail) σ H Q := h
      obtain ⟨W, s, S, q⟩ := h'
      have q := wp_assoc q
      have := tr_int (Q := fun i H1 => T X.K xo (n b) σ H1 fun v H2 => ∃ j, v = .int j ∧ RgOk i j ∧ ∀ q, H2 q = none → Q (.ref q) (upd H2 q (.lst (rgV i j)))) (tr_bind ⟨W, s, S, q⟩ fun W0 i s1 d W1 H1 st S1 e h1 => by
        cases (show i = d from e)
        have h1 := wp_assoc h1
        have h1' : T X.K xo (M.bind (M.bind (n b) intM) fun j => M.bind (if smallI i && smallI j then M.pure (rangeL i j) else M.fail) fun xs => if fits xs.length then M.pure (.f xs) else M.fail) σ H1 Q := tr_go rr_back st S1 h1
        exact tr_int (Q := fun j H2 => RgOk i j ∧ ∀ q, H2 q = none → Q (.ref q) (upd H2 q (.lst (rgV i j)))) (tr_bind h1' fun W' j s2 d W2 H2 st2 S2 e h2 => by
          cases (show j = d from e)
          cases hj : smallI i && smallI j with
          | false => rw [hj] at h2; exact h2.elim
          | true =>
            rw [hj, if_pos rfl] at h2
            obtain ⟨g1, g2⟩ := Bool.and_eq_true_iff.mp hj
            exact rg_end g1 g2 st2 S2 h2))
      obtain ⟨W, s, S, q⟩ := this
      refine ⟨W, s, S, wp_imp q (fun rv s1 z v W' H' st S' rr => ?_) fun _ _ z => z⟩
      obtain ⟨i, rfl, z2⟩ := z v W' H' st S' rr
      obtain ⟨W2, s2, S2, z3⟩ := z2
      refine ⟨W2, s2, S2, wp_imp z3 (fun rv s1 z v W' H' st S' rr => ?_) fun _ _ z => z⟩
      obtain ⟨j, rfl, g1, g2⟩ := z v W' H' st S' rr
      exact ⟨i, j, rfl, rfl, g1, g2⟩
end
end Pd

set_option Elab.async false
set_option linter.all false
set_option maxRecDepth 100000
set_option maxHeartbeats 2000000
namespace Pd
open PySem L2
def xF : XO := fun _ _ _ => False
theorem wipeE_out : ∀ {vs : List Nat} {env : EnvP} {i : Nat}, i ∉ vs → (wipeE env vs)[i]? = env[i]?
  | [], _, _, _ => rfl
  | v :: vs, env, i, h => by
    have h1 : v ≠ i := fun e => h (e ▸ .head _)
    have := wipeE_out (vs := vs) (env := env.set v none) (i := i) fun m => h (.tail _ m)
    exact this.trans (List.getElem?_set_ne h1)
theorem wipe_in {σ : L2.St} {i : Nat} : ∀ {vs : List Nat}, i ∈ vs → (wipe σ vs)[i]? = if i < σ.length then some none else none
  | v :: vs, m => by
    unfold wipe
    by_cases e : v = i
    · subst e
      by_cases h : v < σ.length
      · rw [List.getElem?_set_self (by rw [wipe_length]; exact h), if_pos h]
      · rw [if_neg h, List.getElem?_eq_none]
        rw [List.length_set, wipe_length]
        omega
    · rw [List.getElem?_set_ne e]
      exact wipe_in ((List.mem_cons.mp m).elim (fun q => absurd q.symm e) fun q => q)
theorem wipe_eq {σ σ' : L2.St} {vs : List Nat} (hl : σ'.length = (wipe σ vs).length) (ho : ∀ i, i ∉ vs → σ'[i]? = (wipe σ vs)[i]?) : wipe σ' vs = wipe σ vs := by
  refine List.ext_getElem? fun i => ?_
  rw [wipe_length] at hl
  by_cases h : i ∈ vs
  · rw [wipe_in h, wipe_in h, hl]
  · rw [wipe_out h, ho i h]
theorem Sim.other {K : PySem.W.Frag} {W : Wd} {s : PSt} {σ : L2.St} {H : Hp} {p : Addr} {o : HO} (S : Sim K W s σ H) (hb : W.B p = none) (ha : p ∉ W.al) : Sim K W s σ (upd H p o) :=
  ⟨S.sub.upd hb, S.nod, S.objs.imp fun a m _ r => r.mono .rfl' (fun z => z) (upd_ne fun e => by subst e; exact ha m).symm, S.env⟩
theorem Step.other {W W' : Wd} {H H' : Hp} {p : Addr} {o : HO} (st : Step W H W' H') (hn : H p = none) : Step W H W' (upd H' p o) :=
  ⟨⟨st.sub, fun a u h n => by rw [upd_ne (ne_of_none h hn)]; exact st.keep a u h n, st.al, st.nb, fun a h => by
    by_cases e : a = p
    · rw [e]; exact hn
    · rw [upd_ne e] at h; exact st.trk a h⟩, st.pre⟩
/-- a thing that stands by and is nobody's stays so -/
theorem Step.by {W W' : Wd} {H H' : Hp} {p : Addr} {o : HO} (st : Step W H W' H') (h : H p = some o) (hb : W.B p = none) (ha : p ∉ W.al) : H' p = some o ∧ W'.B p = none ∧ p ∉ W'.al := by
  refine ⟨st.keep p o h ha, ?_, fun m => (st.al p m).elim ha fun q => by rw [q] at h; cases h⟩
  cases e : W'.B p with
  | none => rfl
  | some u =>
    rcases st.nb p u e with q | q | q
    · rw [q] at hb; cases hb
    · exact absurd q ha
    · rw [q] at h; cases h
theorem wp_some {α : Type} {m : M α} {s : PSt} {P : α → PSt → Prop} (h : wpM m s P (fun _ _ => False)) : ∃ a s', P a s' := by
  unfold wpM at h
  cases e : m s with
  | none => rw [e] at h; exact h.elim
  | some q =>
    obtain ⟨r, s'⟩ := q
    rw [e] at h
    cases r with
    | ok a => exact ⟨a, s', h⟩
    | ex x => exact h.elim
section
variable {X : Cx} {xo : XO}
theorem wp_own {α : Type} {vs : List Nat} {b : M α} {g : α → M RV} {s : PSt} {P : RV → PSt → Prop} {PX : Xn → PSt → Prop} (h : wpM (M.bind (withOwn vs b) g) s P PX) : ownFree vs s.env = true ∧ wpM b s (fun r s' => wpM (g r) ⟨restore vs s.env s'.env, s'.L⟩ P PX) (fun _ _ => False) := by
  unfold wpM M.bind withOwn at h
  cases ho : ownFree vs s.env with
  | false => rw [ho] at h; exact h.elim
  | true =>
    rw [ho] at h
    simp only [if_true] at h
    refine ⟨rfl, ?_⟩
    unfold wpM
    cases e : b s with
    | none => rw [e] at h; exact h.elim
    | some q =>
      obtain ⟨r, s'⟩ := q
      rw [e] at h
      cases r with
      | ok a => exact h
      | ex x => exact h.elim
theorem tr_comp {K : PySem.W.Frag} {bt : Bool} {k : Nat} {vs : List Nat} {mi : M (List D)} {mt : D → M Unit} {mtst : M Bool} {me : M RV} {vt : List Nat} (hv : ∀ i ∈ vt, i ∈ vs) (σ : L2.St) (H : Hp) (Q : VK) (h : T K xo (M.bind mi fun items => compM k vs mt mtst me items) σ H Q) :
    tLc (Tr K xo (fun (xs : List D) (J : It) (W : Wd) _ _ => ItD K bt W.B J xs) mi) (TgD K bt vt mt) (TB K xF mtst) (T K xF me) vs σ H Q := by
  refine tr_bind h fun W0 items s1 J W1 H1 st1 S1 itd h1 => ?_
  intro P0 hP0
  obtain ⟨hof, h2⟩ := wp_own h1
  let body : D → M (Option D) := fun x => M.bind (setEnv fun e => wipeE e vs) fun _ => M.bind (mt x) fun _ => M.bind mtst fun b => if b then M.bind (asD k me) fun y => M.pure (some y) else M.pure none
  let fin : List D → PSt → Prop := fun ys s' => wpM (if fits ys.length then M.pure (.f ys) else M.fail : M RV) ⟨restore vs s1.env s'.env, s'.L⟩ (PO K (RR K) W0 H σ Q) (PXO K xo W0 H σ)
  have h3 : wpM (compL body items) s1 fin (fun _ _ => False) := h2
  obtain ⟨hb0, ha0⟩ := S1.fresh hP0
  refine ⟨fun i m H' => m = items.length - i ∧ i ≤ items.length ∧ ∃ W' s' acc ys, Step W1 H1 W' H' ∧ Sim K W' ⟨wipeE s'.env vs, s'.L⟩ (wipe σ vs) H' ∧ H' P0 = some (.lst acc) ∧ W'.B P0 = none ∧ P0 ∉ W'.al ∧ Dqs K W'.B acc ys ∧
      wpM (compL body (items.drop i)) s' (fun zs s'' => fin (ys ++ zs) s'') (fun _ _ => False), ⟨items.length, rfl, Nat.zero_le _, W1, s1, [], [], Step.alloc hP0, (S1.alloc hP0).wipe vs, upd_same, hb0, ha0, .nil, h3⟩, ?_⟩
  rintro i m H' ⟨rfl, hi', W', s', acc, ys, st', S', hD, hDb, hDa, hq, hw⟩
  have subJ : Sub W1.B H' := st'.sub.trans S'.sub
  by_cases hlt : i < items.length
  · refine .inr ⟨itd.go i H' subJ hlt, _, fun H'' w => ⟨items.length - (i + 1), by omega, w⟩, fun v H' y => ?_⟩
    obtain ⟨W', st', S', hD, hDb, hDa, hq, hx⟩ : ∃ W'', Step W1 H1 W'' H' ∧ Sim K W'' ⟨wipeE s'.env vs, s'.L⟩ (wipe σ vs) H' ∧ H' P0 = some (.lst acc) ∧ W''.B P0 = none ∧ P0 ∉ W''.al ∧ Dqs K W''.B acc ys ∧ ∀ x, items[i]? = some x → DqI K bt W''.B v x := by
      obtain ⟨Wy, sy, _, Sy, hx⟩ := itd.yld i _ _ _ _ v H' S' st'.sub y
      obtain ⟨a, b, c⟩ := sy.by hD hDb hDa
      exact ⟨Wy, st'.trans sy, Sy, a, b, c, Dqs.mono sy.sub _ _ hq, hx⟩
    have hx := hx _ (List.getElem?_eq_getElem hlt)
    rw [List.drop_eq_getElem_cons hlt] at hw
    generalize items[i] = x at hw hx
    have w1 : wpM (M.bind (body x) fun o => M.bind (compL body (items.drop (i + 1))) fun zs => M.pure (match o with
      | some y => y :: zs
      | none => zs)) s' (fun zs s'' => fin (ys ++ zs) s'') (fun _ _ => False) := hw
    have w2 := wp_assoc w1
    have w3 : wpM (M.bind (M.bind (mt x) fun _ => M.bind mtst fun b => if b then M.bind (asD k me) fun y => M.pure (some y) else M.pure none) fun o => M.bind (compL body (items.drop (i + 1))) fun zs => M.pure (match o with
      | some y => y :: zs
      | none => zs)) ⟨wipeE s'.env vs, s'.L⟩ (fun zs s'' => fin (ys ++ zs) s'') (fun _ _ => False) := w2
    refine ⟨W', ⟨wipeE s'.env vs, s'.L⟩, x, S', hx, wp_bind (wp_assoc w3) (fun _ s2 w4 σ2 hl2 ho2 S2 => ?_) fun _ _ z => z⟩
    have ew : wipe σ2 vs = wipe σ vs := wipe_eq hl2 fun j hj => ho2 j fun m => hj (hv j m)
    refine ⟨ew, W', s2, S2, wp_bind (wp_assoc w4) (fun b s3 w5 b' W3 H3 st3 S3 eb => ?_) fun _ _ z => z.elim⟩
    cases (show b = b' from eb)
    obtain ⟨hD3, hDb3, hDa3⟩ := st3.by hD hDb hDa
    cases b with
    | true =>
      rw [if_pos rfl]
      have w6 : wpM (M.bind (M.bind (asD k me) fun y => M.pure (some y)) fun o => M.bind (compL body (items.drop (i + 1))) fun zs => M.pure (match o with
        | some y => y :: zs
        | none => zs)) s3 (fun zs s'' => fin (ys ++ zs) s'') (fun _ _ => False) := w5
      refine tr_asD ⟨W3, s3, S3, wp_bind (wp_assoc w6) (fun y s4 w7 w W4 H4 st4 S4 qy => ?_) fun _ _ z => z.elim⟩
      obtain ⟨hD4, hDb4, hDa4⟩ := st4.by hD3 hDb3 hDa3
      have w8 : wpM (M.bind (compL body (items.drop (i + 1))) fun zs => M.pure (y :: zs)) s4 (fun zs s'' => fin (ys ++ zs) s'') (fun _ _ => False) := w7
      have w9 : wpM (compL body (items.drop (i + 1))) s4 (fun zs s'' => fin ((ys ++ [y]) ++ zs) s'') (fun _ _ => False) := wp_bind w8 (fun zs s5 z => by
        have z' : fin (ys ++ (y :: zs)) s5 := z
        rw [List.append_assoc]
        exact z') fun _ _ z => z
      refine ⟨acc, hD4, ?_, rfl, hlt, W4, s4, acc ++ [w], ys ++ [y], ((st'.trans st3).trans st4).other hP0, ?_, upd_same, hDb4, hDa4, dl_app (Dqs.mono (st3.sub.trans st4.sub) _ _ hq) (.cons qy .nil), w9⟩
      · obtain ⟨zs, s5, z⟩ := wp_some w9
        have : fits ((ys ++ [y]) ++ zs).length = true := by
          cases hf : fits ((ys ++ [y]) ++ zs).length with
          | true => rfl
          | false =>
            have z' : wpM (if fits ((ys ++ [y]) ++ zs).length then M.pure (.f ((ys ++ [y]) ++ zs)) else M.fail : M RV) ⟨restore vs s1.env s5.env, s5.L⟩ (PO K (RR K) W0 H σ Q) (PXO K xo W0 H σ) := z
            rw [hf] at z'
            exact z'.elim
        have := fits_lt this
        rw [dl_len hq]
        rw [List.length_append, List.length_append] at this
        omega
      · have := S4.wipe vs
        rw [ew] at this
        exact this.other hDb4 hDa4
    | false =>
      rw [if_neg Bool.false_ne_true]
      have w6 : wpM (compL body (items.drop (i + 1))) s3 (fun zs s'' => fin (ys ++ zs) s'') (fun _ _ => False) := by
        have w5' : wpM (M.bind (compL body (items.drop (i + 1))) fun zs => M.pure zs) s3 (fun zs s'' => fin (ys ++ zs) s'') (fun _ _ => False) := w5
        exact wp_bind w5' (fun zs s5 z => z) fun _ _ z => z
      have := S3.wipe vs
      rw [ew] at this
      exact ⟨rfl, hlt, W3, s3, acc, ys, st'.trans st3, this, hD3, hDb3, hDa3, Dqs.mono st3.sub _ _ hq, w6⟩
  · have e : i = items.length := by omega
    subst e
    refine .inl ⟨itd.stop _ H' subJ (Nat.le_refl _), ?_⟩
    rw [List.drop_length] at hw
    have hw' : fin (ys ++ []) s' := hw
    rw [List.append_nil] at hw'
    have hw2 : wpM (if fits ys.length then M.pure (.f ys) else M.fail : M RV) ⟨restore vs s1.env s'.env, s'.L⟩ (PO K (RR K) W0 H σ Q) (PXO K xo W0 H σ) := hw'
    cases hf : fits ys.length with
    | false => rw [hf] at hw2; exact hw2.elim
    | true =>
      rw [hf, if_pos rfl] at hw2
      have S5 : Sim K W' ⟨restore vs s1.env s'.env, s'.L⟩ σ H' := by
        refine ⟨S'.sub, S'.nod, S'.objs, ?_, fun j c ej => ?_⟩
        · have := S'.env.1
          rw [wipe_length, wipeE_len] at this
          rw [restore_len]
          exact this
        · rcases restore_get ej with ⟨n1, n2⟩ | ⟨n1, n2⟩
          · obtain ⟨v, a, b⟩ := S'.env.2 j c ((wipeE_out n1).trans n2)
            exact ⟨v, (wipe_out n1).symm.trans a, b⟩
          · obtain ⟨x, rfl⟩ := ownFree_get hof n1 n2
            obtain ⟨v, a, b⟩ := S1.env.2 j _ n2
            exact ⟨v, a, Dq.mono st'.sub _ _ b⟩
      exact (wp_pure hw2) _ W' H' (st1.trans st') S5 ⟨P0, acc, rfl, st1.trk P0 hP0, hDb, hDa, hD, hq⟩
theorem sd_comp {bt : Bool} {k : Nat} {elt tg it : Expr} {ifs : List Expr} {scope : Scope} {own : List (Str × Nat)} {pos : Pos} {mi : M (List D)} {mt : D → M Unit} {mtst : M Bool} {me : M RV} {vt : List Nat} (hc : X.calm = true) (hN : X.N.Nodup) (hi : PI X tg it (TIt X.K xo bt mi))
    (ok : BlkOk X.N X.env.scope scope own) (hv : ∀ i ∈ vt, i ∈ own.map (·.2))
    (hg : ∀ (s : Shared) (H : Hp) (C : Addr) (cl : List (Str × Addr)) (fp : List Addr), PG (X.blk s H scope (compEnvC scope cl C X.env) fp) tg (TgD X.K bt vt mt)) (ht : ∀ (s : Shared) (H : Hp) (C : Addr) (cl : List (Str × Addr)) (fp : List Addr), PTs (X.blk s H scope (compEnvC scope cl C X.env) fp) ifs (TB X.K xF mtst))
    (he : ∀ (s : Shared) (H : Hp) (C : Addr) (cl : List (Str × Addr)) (fp : List Addr), PE (X.blk s H scope (compEnvC scope cl C X.env) fp) elt (T X.K xF me)) (hs : ∀ x, foldedSetIterable it X.env x = pure x) :
    PE X (.ListComp elt [⟨tg, it, ifs, 0⟩] scope pos) (T X.K xo (M.bind mi fun items => compM k (own.map (·.2)) mt mtst me items)) :=
  (pe_lc hc hN hi ok hg ht he hs).weak (tr_comp hv)
end
end Pd

set_option Elab.async false
set_option linter.all false
set_option maxRecDepth 100000
set_option maxHeartbeats 4000000
/-! The evaluator keeps its word: every expression. -/
namespace Pd
open PySem L2
structure Ok (X : Cx) (G : Mdl) (N : List Str) (k : Nat) (sc : Scope) : Prop where
  calm : X.calm = true
  eqN : X.N = N
  nd : N.Nodup
  eqS : X.env.scope = sc
  cst : ∀ x d, G.cst x = some d → ∃ u v, X.mg x = some u ∧ RelV v u ∧ Dq X.K (fun _ => none) v d
  free : ∀ x, G.free x = true → X.mg x = none
  fns : Fns X G k
  room : Room k X.A
  gd : X.A.guards = some []
theorem Ok.hu {X : Cx} {G : Mdl} {N : List Str} {k : Nat} {sc : Scope} (o : Ok X G N k sc) : X.A.units + 70 < cLine := by
  have := o.room.un
  omega
theorem Ok.blk {X : Cx} {G : Mdl} {N : List Str} {k : Nat} {sc : Scope} (o : Ok X G N k sc) (s : Shared) (H : Hp) (scope : Scope) (C : Addr) (cl : List (Str × Addr)) (fp : List Addr) : Ok (X.blk s H scope (compEnvC scope cl C X.env) fp) G N k (relS scope sc) :=
  ⟨o.calm, o.eqN, o.nd, by rw [← o.eqS]; rfl, o.cst, o.free, ⟨o.fns.fn⟩, o.room, o.gd⟩
theorem relS_lookup {c : NameKind → Str → Bool} {x : Str} {k : NameKind} (hk : k ≠ .free) (hc : ∀ k' n, c k' n = true → k' = .free) : ∀ {l : List (Str × NameKind)}, l.lookup x = some k → (l.map fun (p : Str × NameKind) => if c p.2 p.1 then (p.1, NameKind.cell) else (p.1, p.2)).lookup x = some k
  | [], h => by cases h
  | (n, k') :: r, h => by
    rw [List.lookup_cons] at h
    show List.lookup x ((if c k' n then (n, NameKind.cell) else (n, k')) :: _) = _
    cases e : x == n with
    | true =>
      rw [e] at h
      cases h
      have : c k n = false := by
        cases q : c k n with
        | false => rfl
        | true => exact absurd (hc _ _ q) hk
      rw [this, if_neg Bool.false_ne_true, List.lookup_cons, e]
    | false =>
      rw [e] at h
      have ih := relS_lookup hk hc h
      cases q : c k' n with
      | true => rw [if_pos rfl, List.lookup_cons, e]; exact ih
      | false => rw [if_neg Bool.false_ne_true, List.lookup_cons, e]; exact ih
theorem relS_at {scope sc : Scope} {x : Str} {k : NameKind} (hk : k ≠ .free) (h : scope.names.lookup x = some k) : (relS scope sc).names.lookup x = some k :=
  relS_lookup (c := fun k' n => k' == .free && sc.kind == .function && sc.names.lookup n == some .cell) hk (fun k' n q => by
    have := (Bool.and_eq_true_iff.mp (Bool.and_eq_true_iff.mp q).1).1
    exact eq_of_beq this) h
theorem Lok.blk {X : Cx} {s : Shared} {H : Hp} {scope : Scope} {C : Addr} {cl : List (Str × Addr)} {fp : List Addr} : Lok (X.blk s H scope (compEnvC scope cl C X.env) fp) scope := by
  intro x h
  have e : (X.blk s H scope (compEnvC scope cl C X.env) fp).env.scope = relS scope X.env.scope := rfl
  unfold locB at h
  split at h
  · rename_i q
    have := relS_at (sc := X.env.scope) (k := .local) (by intro z; cases z) q
    exact ⟨.inl (by rw [e]; exact this), .inr (by rw [e]; exact this)⟩
  · rename_i q
    have := relS_at (sc := X.env.scope) (k := .cell) (by intro z; cases z) q
    refine ⟨.inr (by rw [e]; exact this), .inl ?_⟩
    show (scope.names.lookup x == some .cell) = true
    rw [q]
    rfl
  · cases h
section
variable {X : Cx} {xo : XO} {e tg : Expr}
theorem sd_fail : PE X e (T X.K xo M.fail) := ⟨fun _ _ _ _ _ _ ⟨_, _, _, h⟩ => h.elim⟩
theorem sd_tfail : PT X e (TB X.K xo M.fail) := ⟨fun _ _ _ _ _ _ ⟨_, _, _, h⟩ => h.elim⟩
theorem sd_ifail {bt : Bool} : PI X tg e (TIt X.K xo bt M.fail) := ⟨fun _ _ _ _ _ _ ⟨_, _, _, h⟩ => h.elim⟩
theorem sd_ite {b : Bool} {m : M RV} (h : b = true → PE X e (T X.K xo m)) : PE X e (T X.K xo (if b then m else M.fail)) := by
  cases b with
  | true => rw [if_pos rfl]; exact h rfl
  | false => exact sd_fail
theorem sd_itei {bt b : Bool} {m : M (List D)} (h : b = true → PI X tg e (TIt X.K xo bt m)) : PI X tg e (TIt X.K xo bt (if b then m else M.fail)) := by
  cases b with
  | true => rw [if_pos rfl]; exact h rfl
  | false => exact sd_ifail
theorem folded_of {it : Expr} {env : Env} (h : notSet it = true) : ∀ x, foldedSetIterable it env x = pure x := by
  intro x
  cases it <;> first | rfl | cases h
end
theorem sound (G : Mdl) (N : List Str) (m k : Nat) : ∀ n : Nat, (∀ (sc : Scope) (e : Expr) (X : Cx) (xo : XO), Ok X G N k sc → PE X e (T X.K xo (exN G N m n sc e))) ∧
    (∀ (sc : Scope) (e : Expr) (X : Cx) (xo : XO), Ok X G N k sc → PT X e (TB X.K xo (exT G N m n sc e))) ∧ (∀ (sc : Scope) (e tg : Expr) (X : Cx) (xo : XO), Ok X G N k sc → PI X tg e (TIt X.K xo (isTupE tg) (itN G N m n sc tg e)))
  | 0 => ⟨fun _ _ _ _ _ => sd_fail, fun _ _ _ _ _ => sd_tfail, fun _ _ _ _ _ _ => sd_ifail⟩
  | n + 1 => by
    obtain ⟨ihE, ihT, ihI⟩ := sound G N m k n
    refine ⟨fun sc e X xo o => ?_, fun sc e X xo o => ?_, fun sc e tg X xo o => ?_⟩
    · have hu := o.hu
      have hu65 : X.A.units + 65 < cLine := by omega
      have E := fun (a : Expr) => ihE sc a X xo o
      cases e with
      | Name x p =>
        have := sd_name (X := X) (xo := xo) (G := G) (N := N) (x := x) (pos := p) o.eqN o.cst
        rw [o.eqS] at this
        exact this
      | Constant c j p => exact sd_const (k := j)
      | BinOp a op b p => exact sd_bin (E a) (E b)
      | UnaryOp op a p =>
        cases op with
        | Not => exact sd_not (E a)
        | USub => exact sd_neg (E a)
        | _ => exact sd_fail
      | BoolOp op vs p =>
        cases op with
        | And =>
          cases vs with
          | nil => exact sd_fail
          | cons v r => exact sd_ands (n := fun v => exN G N m n sc v) (v :: r) (fun v _ => E v) (fun z => nomatch z)
        | Or =>
          cases vs with
          | nil => exact sd_fail
          | cons v r => exact sd_ors (n := fun v => exN G N m n sc v) (v :: r) (fun v _ => E v) (fun z => nomatch z)
      | IfExp t a b p => exact sd_if (ihT sc t X xo o) (E a) (E b)
      | Compare a ops cs p =>
        match ops, cs with
        | [op], [b] =>
          show PE X _ (T X.K xo (if behindInMarks op b then M.fail else cmpM op (exN G N m n sc a) (exN G N m n sc b)))
          cases hb : behindInMarks op b with
          | true => exact sd_fail
          | false => exact sd_cmp hu65 (E a) (E b) hb
        | [op, op'], [b, c] =>
          show PE X _ (T X.K xo (if behindInMarks op b || behindInMarks op' c then M.fail else chainM op op' (exN G N m n sc a) (exN G N m n sc b) (exN G N m n sc c)))
          cases hb : behindInMarks op b || behindInMarks op' c with
          | true => exact sd_fail
          | false =>
            obtain ⟨h1, h2⟩ := Bool.or_eq_false_iff.mp hb
            exact sd_chain hu65 (E a) (E b) (E c) h1 h2
        | [], _ => exact sd_fail
        | [_], [] => exact sd_fail
        | [_], _ :: _ :: _ => exact sd_fail
        | [_, _], [] => exact sd_fail
        | [_, _], [_] => exact sd_fail
        | [_, _], _ :: _ :: _ :: _ => exact sd_fail
        | _ :: _ :: _ :: _, _ => exact sd_fail
      | Subscript a i p =>
        cases i with
        | Slice lo hi st p2 =>
          cases st with
          | none => exact sd_slice (n := fun z => exN G N m n sc z) (E a) (fun v _ => E v) (fun v _ => E v)
          | some z =>
            show PE X _ (T X.K xo (if lo.isNone && hi.isNone && isNeg1 (some z) then revM (exN G N m n sc a) else M.fail))
            refine sd_ite fun hb => ?_
            obtain ⟨hb1, h3⟩ := Bool.and_eq_true_iff.mp hb
            obtain ⟨h1, h2⟩ := Bool.and_eq_true_iff.mp hb1
            cases lo with
            | some _ => cases h1
            | none =>
              cases hi with
              | some _ => cases h2
              | none =>
                obtain ⟨k1, q1, q2, e1⟩ := isNeg1_some h3
                cases e1
                exact sd_rev (E a)
        | _ => first
          | exact sd_ix (E a) (E _) rfl
          | exact sd_fail
      | Tuple es j p => exact sd_tuple (n := fun z => exN G N m n sc z) (fun v _ => E v)
      | List es p => exact sd_list (n := fun z => exN G N m n sc z) (fun v _ => E v)
      | Dict ks vs p =>
        refine sd_ite (m := M.pure (.g [])) fun hb => ?_
        obtain ⟨h1, h2⟩ := Bool.and_eq_true_iff.mp hb
        cases ks with
        | cons a b => cases h1
        | nil =>
          cases vs with
          | cons a b => cases h2
          | nil => exact sd_dnew
      | ListComp elt gens scope p =>
        match gens with
        | [⟨tg, it, ifs, 0⟩] =>
          refine sd_ite fun hb => ?_
          obtain ⟨hb1, h4⟩ := Bool.and_eq_true_iff.mp hb
          obtain ⟨hb2, h3⟩ := Bool.and_eq_true_iff.mp hb1
          obtain ⟨h1, h2⟩ := Bool.and_eq_true_iff.mp hb2
          have hok : BlkOk X.N X.env.scope scope (ownOf N scope) := by
            rw [o.eqN, o.eqS]
            exact blkOk_by h1
          refine sd_comp (vt := tgSlots N 3 tg) o.calm (by rw [o.eqN]; exact o.nd) (ihI sc it tg X xo o) hok (fun i mi => ?_) (fun s H C cl fp => ?_) (fun s H C cl fp => ?_) (fun s H C cl fp => ?_) (folded_of h4)
          · have := List.all_eq_true.mp h3 i mi
            exact List.elem_iff.mp this
          · have ob := o.blk s H scope C cl fp
            exact sd_tg ob.calm ob.eqN ob.nd Lok.blk 3 tg
          · have ob := o.blk s H scope C cl fp
            match ifs, of_decide_eq_true h2 with
            | [], _ => exact ⟨fun pins s σ H Q I ⟨W, st, S, h⟩ => pts_nil.run pins s σ H Q I ((wp_pure h) true W H .rfl' S rfl)⟩
            | [t], _ =>
              refine ⟨fun pins s σ H Q I h => (pts_one (ihT _ t _ xF ob)).run pins s σ H Q I (tr_unit _ (fun b => by cases b <;> rfl) σ H Q h)⟩
          · have ob := o.blk s H scope C cl fp
            exact ihE _ elt _ xF ob
        | [] => exact sd_fail
        | [⟨_, _, _, .ofNat (_ + 1)⟩] => exact sd_fail
        | [⟨_, _, _, .negSucc _⟩] => exact sd_fail
        | ⟨_, _, _, .ofNat 0⟩ :: _ :: _ => exact sd_fail
        | ⟨_, _, _, .ofNat (_ + 1)⟩ :: _ :: _ => exact sd_fail
        | ⟨_, _, _, .negSucc _⟩ :: _ :: _ => exact sd_fail
      | Call f as kws p =>
        match kws, f with
        | [], .Name x px =>
          refine sd_ite fun hb => ?_
          obtain ⟨hb1, h4⟩ := Bool.and_eq_true_iff.mp hb
          obtain ⟨hb2, h3⟩ := Bool.and_eq_true_iff.mp hb1
          obtain ⟨h1, h2⟩ := Bool.and_eq_true_iff.mp hb2
          have hne : as ≠ [] := fun z => by subst z; cases h4
          have hg : L2.Gl X x := gl_of (by rw [o.eqS]; exact h3)
          have hd : dbgB x = false := by
            cases q : dbgB x with
            | false => rfl
            | true => rw [q] at h2; cases h2
          cases hf : G.fn x with
          | some q =>
            obtain ⟨md, ft⟩ := q
            exact sd_call (n := fun z => exN G N m n sc z) o.fns o.room o.gd hg (dbg_of hd).1 hf (fun v _ => E v) h1 hne
          | none =>
            refine sd_ite fun hfr => ?_
            cases hlr : lrgOf x as with
            | some as' =>
              refine sd_ite fun hq => ?_
              obtain ⟨hq1, q3⟩ := Bool.and_eq_true_iff.mp hq
              obtain ⟨q1, q2⟩ := Bool.and_eq_true_iff.mp hq1
              unfold lrgOf at hlr
              split at hlr
              · split at hlr
                · rename_i ex
                  subst ex
                  exact sd_lrg (n := fun z => exN G N m n sc z) o.calm hg (o.free _ hfr) (gl_of (by rw [o.eqS]; exact q1)) (o.free _ q2) hlr (fun v _ => E v) q3 (Bool.and_eq_true_iff.mp (List.all_cons (f := notStar) ▸ h1)).1
                · cases hlr
              · cases hlr
            | none =>
            show PE X _ (T X.K xo (if x = ("dict" : Str) then dct1 ((soleOf as).map fun a => exN G N m n sc a) else match isiOf x as with
              | some (a, y, t) => if glB sc y && G.free y && notStar a then isiM t (exN G N m n sc a) else M.fail
              | none => match setOf1 as with
                | some a => if glB sc "set" && G.free "set" && notStar a then (if x = ("sorted" : Str) then srtSetM (exN G N m n sc a) else if x = ("len" : Str) then lenSetM (exN G N m n sc a) else M.fail) else M.fail
                | none => match bltOf x with
                  | some b => bltM b (as.map fun z => exN G N m n sc z)
                  | none => M.fail))
            by_cases hx : x = ("dict" : Str)
            · rw [if_pos hx]
              subst hx
              cases hso : soleOf as with
              | none => exact sd_fail
              | some a =>
                cases soleOf_some hso
                exact sd_dct o.calm hg (o.free _ hfr) (E a) (Bool.and_eq_true_iff.mp (List.all_cons (f := notStar) ▸ h1)).1
            rw [if_neg hx]
            cases hi : isiOf x as with
            | some q =>
              obtain ⟨a, y, t⟩ := q
              refine sd_ite fun hq => ?_
              obtain ⟨hq1, q3⟩ := Bool.and_eq_true_iff.mp hq
              obtain ⟨q1, q2⟩ := Bool.and_eq_true_iff.mp hq1
              obtain ⟨rfl, yp, ht, rfl⟩ := isiOf_some hi
              exact sd_isi hg (o.free _ hfr) (gl_of (by rw [o.eqS]; exact q1)) (o.free _ q2) ht (E a) q3
            | none =>
            cases hst : setOf1 as with
            | some a =>
              refine sd_ite fun hq => ?_
              obtain ⟨hq1, q3⟩ := Bool.and_eq_true_iff.mp hq
              obtain ⟨q1, q2⟩ := Bool.and_eq_true_iff.mp hq1
              obtain ⟨yp, cp, rfl⟩ := setOf1_some hst
              by_cases hs : x = ("sorted" : Str)
              · rw [if_pos hs]
                subst hs
                exact sd_srtSet hu o.calm hg (o.free _ hfr) (gl_of (by rw [o.eqS]; exact q1)) (o.free _ q2) (E a) q3
              rw [if_neg hs]
              by_cases hs : x = ("len" : Str)
              · rw [if_pos hs]
                subst hs
                exact sd_lenSet hu o.calm hg (o.free _ hfr) (gl_of (by rw [o.eqS]; exact q1)) (o.free _ q2) (E a) q3
              rw [if_neg hs]
              exact sd_fail
            | none =>
            cases hb : bltOf x with
            | none => exact sd_fail
            | some b => exact sd_blt (n := fun z => exN G N m n sc z) hu o.gd o.calm hg (o.free x hfr) hb (fun v _ => E v) h1 hne
        | [], .Attribute ob meth ap =>
          show PE X _ (T X.K xo (if meth = ("get" : Str) then (if as.all notStar && plainBase ob && (ap.endLine == p.line) && decide (as.length ≤ 3) && as.length != 0 then getM m (exN G N m n sc ob) (as.map fun z => exN G N m n sc z) else M.fail) else match soleOf as with
            | some a => if notStar a && plainBase ob && (ap.endLine == p.line) then (if meth = ("append" : Str) then appendM m (exN G N m n sc ob) (exN G N m n sc a)
              else if meth = ("extend" : Str) then extendM (exN G N m n sc ob) (exN G N m n sc a)
              else if meth = ("pop" : Str) then popM (exN G N m n sc ob) (exN G N m n sc a) else M.fail) else M.fail
            | none => M.fail))
          by_cases q0 : meth = ("get" : Str)
          · rw [if_pos q0]
            subst q0
            refine sd_ite fun hb => ?_
            obtain ⟨hb4, h5⟩ := Bool.and_eq_true_iff.mp hb
            obtain ⟨hb3, h4⟩ := Bool.and_eq_true_iff.mp hb4
            obtain ⟨hb2, h3⟩ := Bool.and_eq_true_iff.mp hb3
            obtain ⟨h1, h2⟩ := Bool.and_eq_true_iff.mp hb2
            exact sd_get (n := fun z => exN G N m n sc z) hu (E ob) (fun v _ => E v) h1 (of_decide_eq_true h4) h2 h3 (fun z => by subst z; cases h5)
          rw [if_neg q0]
          cases hso : soleOf as with
          | none => exact sd_fail
          | some a =>
            cases soleOf_some hso
            refine sd_ite fun hb => ?_
            obtain ⟨hb1, h3⟩ := Bool.and_eq_true_iff.mp hb
            obtain ⟨h1, h2⟩ := Bool.and_eq_true_iff.mp hb1
            by_cases q1 : meth = ("append" : Str)
            · rw [if_pos q1]
              subst q1
              exact sd_append (E ob) (E a) h1 h2 h3
            · rw [if_neg q1]
              by_cases q2 : meth = ("extend" : Str)
              · rw [if_pos q2]
                subst q2
                exact sd_extend (E ob) (E a) h1 h2 h3
              · rw [if_neg q2]
                by_cases q3 : meth = ("pop" : Str)
                · rw [if_pos q3]
                  subst q3
                  exact sd_pop (E ob) (E a) h1 h2 h3
                · rw [if_neg q3]
                  exact sd_fail
        | _ :: _, _ => exact sd_fail
        | [], .BoolOp .. => exact sd_fail
        | [], .NamedExpr .. => exact sd_fail
        | [], .BinOp .. => exact sd_fail
        | [], .UnaryOp .. => exact sd_fail
        | [], .Lambda .. => exact sd_fail
        | [], .IfExp .. => exact sd_fail
        | [], .Dict .. => exact sd_fail
        | [], .Set .. => exact sd_fail
        | [], .ListComp .. => exact sd_fail
        | [], .SetComp .. => exact sd_fail
        | [], .DictComp .. => exact sd_fail
        | [], .GeneratorExp .. => exact sd_fail
        | [], .Await .. => exact sd_fail
        | [], .Yield .. => exact sd_fail
        | [], .YieldFrom .. => exact sd_fail
        | [], .Compare .. => exact sd_fail
        | [], .Call .. => exact sd_fail
        | [], .FormattedValue .. => exact sd_fail
        | [], .JoinedStr .. => exact sd_fail
        | [], .Constant .. => exact sd_fail
        | [], .Subscript .. => exact sd_fail
        | [], .Starred .. => exact sd_fail
        | [], .List .. => exact sd_fail
        | [], .Tuple .. => exact sd_fail
        | [], .Slice .. => exact sd_fail
      | _ => exact sd_fail
    · have hu := o.hu
      have hu65 : X.A.units + 65 < cLine := by omega
      have E := fun (a : Expr) => ihE sc a X xo o
      have B := fun (a : Expr) => ihT sc a X xo o
      cases e with
      | UnaryOp op a p =>
        cases op with
        | Not => exact sd_tnot (B a)
        | _ => exact sd_tval (E _) rfl
      | BoolOp op vs p =>
        cases op with
        | And =>
          cases vs with
          | nil => exact sd_tfail
          | cons v r => exact (sd_tands (n := fun v => exT G N m n sc v) (v :: r) (fun v _ => B v) (fun z => nomatch z)).pt
        | Or =>
          cases vs with
          | nil => exact sd_tfail
          | cons v r => exact (sd_tors (n := fun v => exT G N m n sc v) (v :: r) (fun v _ => B v) (fun z => nomatch z)).pt
      | IfExp t a b p => exact sd_tfail
      | Compare a ops cs p =>
        match ops, cs with
        | [op], [b] =>
          show PT X _ (TB X.K xo (if behindInMarks op b then M.fail else M.bind (cmpM op (exN G N m n sc a) (exN G N m n sc b)) boolM))
          cases hb : behindInMarks op b with
          | true => exact sd_tfail
          | false => exact sd_tcmp hu65 (E a) (E b) hb
        | [op, op'], [b, c] =>
          show PT X _ (TB X.K xo (if behindInMarks op b || behindInMarks op' c then M.fail else M.bind (chainM op op' (exN G N m n sc a) (exN G N m n sc b) (exN G N m n sc c)) boolM))
          cases hb : behindInMarks op b || behindInMarks op' c with
          | true => exact sd_tfail
          | false =>
            obtain ⟨h1, h2⟩ := Bool.or_eq_false_iff.mp hb
            exact sd_tchain hu65 (E a) (E b) (E c) h1 h2
        | [], _ => exact sd_tfail
        | [_], [] => exact sd_tfail
        | [_], _ :: _ :: _ => exact sd_tfail
        | [_, _], [] => exact sd_tfail
        | [_, _], [_] => exact sd_tfail
        | [_, _], _ :: _ :: _ :: _ => exact sd_tfail
        | _ :: _ :: _ :: _, _ => exact sd_tfail
      | _ => exact sd_tval (E _) rfl
    · have E := fun (a : Expr) => ihE sc a X xo o
      show PI X tg e (TIt X.K xo (isTupE tg) (match isRange e with
        | some as => if glB sc "range" && G.free "range" && as.all notStar then rangeM (as.map fun z => exN G N m n sc z) else M.fail
        | none => match callIs "zip" e with
          | some as => if isTupE tg && glB sc "zip" && G.free "zip" && as.all notStar && as.length == 2 then M.bind (seqM (as.map fun z => asD m (exN G N m n sc z))) fun ds => optM (zipO ds) else M.fail
          | none => match callIs "enumerate" e with
            | some as => if isTupE tg && glB sc "enumerate" && G.free "enumerate" && as.all notStar && as.length == 1 then M.bind (seqM (as.map fun z => asD m (exN G N m n sc z))) fun ds => optM (enumO ds) else M.fail
            | none => iterM m (exN G N m n sc e)))
      have look : ∀ {f : Str} {as : List Expr}, callIs f e = some as → ∃ p pos, e = .Call (.Name f p) as [] pos := fun {f as} q => by
        unfold callIs at q
        split at q
        · split at q
          · rename_i eg
            cases q
            subst eg
            exact ⟨_, _, rfl⟩
          · cases q
        · cases q
      have tup : isTupE tg = true → ∃ es kk tp, tg = .Tuple es kk tp := fun q => by
        unfold isTupE at q
        split at q
        · exact ⟨_, _, _, rfl⟩
        · cases q
      cases hr : isRange e with
      | none =>
        cases hz : callIs "zip" e with
        | some as =>
          refine sd_itei fun hb => ?_
          obtain ⟨hb4, h5⟩ := Bool.and_eq_true_iff.mp hb
          obtain ⟨hb3, h4⟩ := Bool.and_eq_true_iff.mp hb4
          obtain ⟨hb2, h3⟩ := Bool.and_eq_true_iff.mp hb3
          obtain ⟨h1, h2⟩ := Bool.and_eq_true_iff.mp hb2
          obtain ⟨p, pos, rfl⟩ := look hz
          obtain ⟨es, kk, tp, rfl⟩ := tup h1
          exact sd_zip (n := fun z => exN G N m n sc z) (gl_of (by rw [o.eqS]; exact h2)) (o.free _ h3) (fun v _ => E v) h4 h5
        | none =>
          cases hen : callIs "enumerate" e with
          | some as =>
            refine sd_itei fun hb => ?_
            obtain ⟨hb4, h5⟩ := Bool.and_eq_true_iff.mp hb
            obtain ⟨hb3, h4⟩ := Bool.and_eq_true_iff.mp hb4
            obtain ⟨hb2, h3⟩ := Bool.and_eq_true_iff.mp hb3
            obtain ⟨h1, h2⟩ := Bool.and_eq_true_iff.mp hb2
            obtain ⟨p, pos, rfl⟩ := look hen
            obtain ⟨es, kk, tp, rfl⟩ := tup h1
            exact sd_enum (n := fun z => exN G N m n sc z) (gl_of (by rw [o.eqS]; exact h2)) (o.free _ h3) (fun v _ => E v) h4 h5
          | none => exact sd_iter (E e)
      | some as =>
        refine sd_itei fun hb => ?_
        obtain ⟨hb1, h3⟩ := Bool.and_eq_true_iff.mp hb
        obtain ⟨h1, h2⟩ := Bool.and_eq_true_iff.mp hb1
        have hg : L2.Gl X "range" := gl_of (by rw [o.eqS]; exact h1)
        have hm := o.free _ h2
        unfold isRange at hr
        split at hr
        · split at hr
          · rename_i ef
            cases hr
            subst ef
            exact sd_range1 hg hm (E _) (Bool.and_eq_true_iff.mp h3).1
          · cases hr
        · split at hr
          · rename_i ef
            cases hr
            subst ef
            obtain ⟨g1, g2⟩ := Bool.and_eq_true_iff.mp h3
            exact sd_range2 hg hm (E _) (E _) g1 (Bool.and_eq_true_iff.mp g2).1
          · cases hr
        · cases hr
end Pd

set_option Elab.async false
set_option linter.all false
set_option maxRecDepth 100000
set_option maxHeartbeats 4000000
/-! Statements: what a block does over plain data; a def. -/
namespace Pd
open PySem L2
inductive Fl where
  | nx | bk | ct
  | rt (v : RV)
def chk {α : Type} (m : Nat) (b : M α) : M α := M.bind b fun r s => if m ≤ s.L.length then some (.ok r, s) else none
def seqF (a b : M Fl) : M Fl := M.bind a fun fl => match fl with
  | .nx => b
  | fl => M.pure fl
/-- a name's store -/
def stoN (m : Nat) (own : Bool) (i : Nat) (r : RV) : M Unit := fun s => match r with
  | .c c => some (.ok (), ⟨s.env.set i (some c), gc m (s.env.set i (some c)) s.L⟩)
  | .f xs => if own then some (.ok (), ⟨s.env.set i (some (.r (gc m (s.env.set i none) s.L).length)), gc m (s.env.set i none) s.L ++ [.lst xs]⟩)
      else some (.ok (), ⟨s.env.set i (some (.d (.list xs))), gc m (s.env.set i none) s.L⟩)
  | .g kvs => some (.ok (), ⟨s.env.set i (some (.r (gc m (s.env.set i none) s.L).length)), gc m (s.env.set i none) s.L ++ [.dic kvs]⟩)
def retM (m : Nat) (r : RV) : M Fl := fun s => match r with
  | .c (.d x) => some (.ok (.rt r), s)
  | .c (.r k) => if m ≤ k then some (.ok (.rt r), s) else none
  | .f xs => some (.ok (.rt r), s)
  | .g _ => none
def stoO (L : List MO) (k : Nat) (y x : D) : Option (List MO) := match L[k]? with
  | some (.lst xs) => (match y with
    | .int i => (match ixN xs.length i with
      | some j => some (L.set k (.lst (xs.set j x)))
      | none => none)
    | _ => none)
  | some (.dic kvs) => if (keyD y).isSome && decide (kvs.length ≤ 100000) then some (L.set k (.dic (putD kvs y x))) else none
  | _ => none
def optrM (r : RV) : M Nat := fun s => match r with
  | .c (.r k) => some (.ok k, s)
  | _ => none
/-- o[i] = e: e first -/
def stoS (m : Nat) (e o i : M RV) : M Unit := M.bind (asD m e) fun x => M.bind (M.bind o optrM) fun k => M.bind (asC i) fun c => M.bind (rdM c) fun y => setL fun L => stoO L k y x
def forL (tg : D → M Unit) (body : M Fl) : List D → M Fl
  | [] => M.pure .nx
  | x :: r => M.bind (tg x) fun _ => M.bind body fun fl => match fl with
    | .nx => forL tg body r
    | .ct => forL tg body r
    | .bk => M.pure .nx
    | .rt v => M.pure (.rt v)
def whileL (test : M Bool) (body : M Fl) : Nat → M Fl
  | 0 => M.fail
  | n + 1 => M.bind test fun b => if b then M.bind body fun fl => match fl with
    | .nx => whileL test body n
    | .ct => whileL test body n
    | .bk => M.pure .nx
    | .rt v => M.pure (.rt v)
    else M.pure .nx
def okF (m : M Unit) : M Fl := M.bind m fun _ => M.pure .nx
/-- whether `name = [..]` is stored within the comprehension's own frame -/
def swB (sc : Scope) (y : Str) (py : Pos) (e : Expr) (line : Nat) : Bool := match e with
  | .ListComp elt gs scope pos => (match sc.names.lookup y with | some .local => true | _ => false) && py.line == pos.line && !(scope.names.any fun (n, k) => n == y && (k == .local || k == .cell))
  | _ => false
def isComp : Expr → Bool
  | .ListComp .. => true
  | .SetComp .. => true
  | .DictComp .. => true
  | _ => false
def isTup : Expr → Bool
  | .Tuple .. => true
  | _ => false
def lstC : Expr → Bool
  | .ListComp .. => true
  | _ => false
structure Df where
  G : Mdl
  N : List Str
  m : Nat
  own : List Nat
  fuel : Nat
mutual
def exS (d : Df) (sc : Scope) : Nat → Stmt → M Fl
  | 0, _ => M.fail
  | n + 1, st => match st with
    | .Pass _ => M.pure .nx
    | .Break _ => M.pure .bk
    | .Continue _ => M.pure .ct
    | .Return v _ => (match v with
      | some e => M.bind (chk d.m (exN d.G d.N d.m n sc e)) (retM d.m)
      | none => M.pure (.rt (.c (.d .none))))
    | .Expr e _ => if isComp e then M.fail else okF (M.bind (chk d.m (exN d.G d.N d.m n sc e)) fun _ => M.pure ())
    | .If t a b _ => M.bind (chk d.m (exT d.G d.N d.m n sc t)) fun c => if c then exB d sc n a else exB d sc n b
    | .Assign ts e p => (match ts with
      | [tg] => (match tg with
        | .Name y py => (match slot d.N y with
          | some i => if locB sc y && (!isComp e || lstC e) then okF (M.bind (chk d.m (exN d.G d.N d.m n sc e)) (stoN d.m (d.own.elem i) i)) else M.fail
          | none => M.fail)
        | .Subscript o i _ => if plainIx i && !isComp e then okF (chk d.m (stoS d.m (exN d.G d.N d.m n sc e) (exN d.G d.N d.m n sc o) (exN d.G d.N d.m n sc i))) else M.fail
        | .Tuple .. => if isTup e || isComp e then M.fail else okF (M.bind (chk d.m (asD d.m (exN d.G d.N d.m n sc e))) (tgtM d.m d.N sc 3 tg))
        | _ => M.fail)
      | _ => M.fail)
    | .For tg it body orelse _ => if orelse.isEmpty && notSet it then
        M.bind (chk d.m (itN d.G d.N d.m n sc tg it)) fun items => forL (tgtM d.m d.N sc 3 tg) (exB d sc n body) items else M.fail
    | .While t body orelse _ => if orelse.isEmpty then whileL (chk d.m (exT d.G d.N d.m n sc t)) (exB d sc n body) d.fuel else M.fail
    | _ => M.fail
def exB (d : Df) (sc : Scope) : Nat → List Stmt → M Fl
  | 0, _ => M.fail
  | n + 1, l => match l with
    | [] => M.pure .nx
    | s :: r => seqF (exS d sc n s) (exB d sc n r)
end
/-- a def: from what is handed to what is given, what was handed to be changed as it stands then -/
def envOf : Nat → List Arg → EnvP
  | _, [] => []
  | k, .d x :: r => some (.d x) :: envOf k r
  | k, .m _ :: r => some (.r k) :: envOf (k + 1) r
def objsOf : List Arg → List MO
  | [] => []
  | .d _ :: r => objsOf r
  | .m o :: r => o :: objsOf r
def rtO (m : Nat) (r : RV) (L : List MO) : Option FR := match r with
  | .c (.d x) => some (.d x)
  | .c (.r k) => (match L[k]? with
    | some (.lst xs) => if m ≤ k then some (.f xs) else none
    | _ => none)
  | .f xs => some (.f xs)
  | .g _ => none
def runD (d : Df) (sc : Scope) (n : Nat) (body : List Stmt) (np : Nat) : FT := fun args =>
  if args.length = np && (objsOf args).length = d.m && np ≤ d.N.length then
    match exB d sc n body ⟨envOf 0 args ++ List.replicate (d.N.length - np) none, objsOf args⟩ with
    | some (.ok .nx, s) => some (.ok (.d .none), s.L.take d.m)
    | some (.ok (.rt r), s) => (match rtO d.m r s.L with
      | some v => some (.ok v, s.L.take d.m)
      | none => none)
    | _ => none
  else none
end Pd

set_option Elab.async false
set_option linter.all false
set_option maxRecDepth 100000
set_option maxHeartbeats 4000000
/-! Statements keep to their reading. -/
namespace Pd
open PySem L2
structure StS (m : Nat) (W : Wd) (H : Hp) (W' : Wd) (H' : Hp) : Prop extends StepS W H W' H' where
  al0 : W'.al.take m = W.al.take m
theorem StS.rfl' {m : Nat} {W : Wd} {H : Hp} : StS m W H W H := ⟨.rfl', rfl⟩
theorem StS.trans {m : Nat} {W W1 W2 : Wd} {H H1 H2 : Hp} (x : StS m W H W1 H1) (y : StS m W1 H1 W2 H2) : StS m W H W2 H2 := ⟨x.toStepS.trans y.toStepS, y.al0.trans x.al0⟩
theorem Step.sts {K : PySem.W.Frag} {m : Nat} {W W1 : Wd} {H H1 : Hp} {s1 : PSt} {σ : L2.St} (st : Step W H W1 H1) (S1 : Sim K W1 s1 σ H1) (hm : m ≤ s1.L.length) : StS m W H W1 H1 := by
  refine ⟨st.toStepS, ?_⟩
  obtain ⟨n, e⟩ := st.pre
  have hl : m ≤ W1.al.length := by rw [S1.objs.len]; exact hm
  rw [e] at hl ⊢
  rw [List.length_take] at hl
  rw [List.take_take, Nat.min_eq_left (by omega)]
def RtRep (K : PySem.W.Frag) (W' : Wd) (H' H : Hp) (v : V) (m : Nat) : RV → Prop
  | .c (.d x) => Dq K W'.B v x
  | .c (.r k) => ∃ p, W'.al[k]? = some p ∧ v = .ref p ∧ m ≤ k
  | .f xs => ∃ p vs, v = .ref p ∧ H p = none ∧ W'.B p = none ∧ H' p = some (.lst vs) ∧ Dqs K W'.B vs xs
  | .g _ => False
def PF (K : PySem.W.Frag) (m : Nat) (W : Wd) (H : Hp) (D : Ends) : Fl → PSt → Prop
  | .nx, s' => ∀ σ' W' H', StS m W H W' H' → Sim K W' s' σ' H' → D.nx σ' H'
  | .bk, s' => ∀ σ' W' H', StS m W H W' H' → Sim K W' s' σ' H' → D.bk σ' H'
  | .ct, s' => ∀ σ' W' H', StS m W H W' H' → Sim K W' s' σ' H' → D.ct σ' H'
  | .rt r, s' => ∀ σ' v W' H', StS m W H W' H' → Sim K W' s' σ' H' → RtRep K W' H' H v m r → D.rt v H'
abbrev PFx : Xn → PSt → Prop := fun _ _ => False
def TSt (K : PySem.W.Frag) (m : Nat) (e : M Fl) : TS := fun D σ H => ∃ W s, Sim K W s σ H ∧ wpM e s (PF K m W H D) PFx
theorem RtRep.back {K : PySem.W.Frag} {W' : Wd} {H' H H1 : Hp} {v : V} {m : Nat} (t : ∀ p, H1 p = none → H p = none) : ∀ {r : RV}, RtRep K W' H' H1 v m r → RtRep K W' H' H v m r
  | .c (.d _), h => h
  | .c (.r _), h => h
  | .f _, ⟨p, vs, a, b, c⟩ => ⟨p, vs, a, t p b, c⟩
  | .g _, h => h
theorem PF.later {K : PySem.W.Frag} {m : Nat} {W W1 : Wd} {H H1 : Hp} {D : Ends} (st : StS m W H W1 H1) : ∀ (fl : Fl) (s : PSt), PF K m W H D fl s → PF K m W1 H1 D fl s
  | .nx, _, h => fun σ' W' H' st' S => h σ' W' H' (st.trans st') S
  | .bk, _, h => fun σ' W' H' st' S => h σ' W' H' (st.trans st') S
  | .ct, _, h => fun σ' W' H' st' S => h σ' W' H' (st.trans st') S
  | .rt r, _, h => fun σ' v W' H' st' S q => h σ' v W' H' (st.trans st') S (q.back st.trk)
theorem wp_chk {α β : Type} {m : Nat} {b : M α} {f : α → M β} {s : PSt} {P : β → PSt → Prop} {PX : Xn → PSt → Prop} (h : wpM (M.bind (chk m b) f) s P PX) : wpM b s (fun a s1 => m ≤ s1.L.length ∧ wpM (f a) s1 P PX) PX := by
  unfold wpM M.bind chk M.bind at h
  unfold wpM
  cases e : b s with
  | none => rw [e] at h; exact h
  | some q =>
    obtain ⟨r, s1⟩ := q
    rw [e] at h
    cases r with
    | ex x => exact h
    | ok a =>
      simp only at h ⊢
      by_cases hm : m ≤ s1.L.length
      · rw [if_pos hm] at h
        exact ⟨hm, h⟩
      · rw [if_neg hm] at h
        exact h.elim
theorem _root_.L2.PS.weak {X : Cx} {st : Stmt} {t t' : TS} (h : PS X st t) (k : ∀ D σ H, t' D σ H → t D σ H) : PS X st t' := ⟨fun pins s σ H D I q => h.run pins s σ H D I (k D σ H q)⟩
theorem _root_.L2.PSs.weak {X : Cx} {st : List Stmt} {t t' : TS} (h : PSs X st t) (k : ∀ D σ H, t' D σ H → t D σ H) : PSs X st t' := ⟨fun pins s σ H D I q => h.run pins s σ H D I (k D σ H q)⟩
/-- an expression within a statement -/
theorem tr_st {α β γ : Type} {K : PySem.W.Frag} {m : Nat} {R : Rel α β} {b : M α} {f : α → M γ} {W : Wd} {s : PSt} {σ : L2.St} {H : Hp} {P : γ → PSt → Prop} {Q1 : β → Hp → Prop} (S : Sim K W s σ H) (h : wpM (M.bind (chk m b) f) s P PFx)
    (k : ∀ (a : α) (s1 : PSt) (v : β) (W1 : Wd) (H1 : Hp), StS m W H W1 H1 → Sim K W1 s1 σ H1 → R a v W1 H1 H → wpM (f a) s1 P PFx → Q1 v H1) : Tr K xF R b σ H Q1 :=
  ⟨W, s, S, wp_imp (wp_chk h) (fun a s1 ⟨hm, q⟩ v W1 H1 st S1 r => k a s1 v W1 H1 (st.sts S1 hm) S1 r q) fun _ _ z => z.elim⟩
section
variable {X : Cx} {m : Nat} {a e : Expr} {ma : M RV} {pos : Pos}
theorem st_fail {st : Stmt} : PS X st (TSt X.K m M.fail) := ⟨fun _ _ _ _ _ _ ⟨_, _, _, h⟩ => h.elim⟩
theorem ss_fail {st : List Stmt} : PSs X st (TSt X.K m M.fail) := ⟨fun _ _ _ _ _ _ ⟨_, _, _, h⟩ => h.elim⟩
theorem ss_nil : PSs X [] (TSt X.K m (M.pure .nx)) := pss_nil.weak fun D σ H ⟨W, s, S, h⟩ => (wp_pure h) σ W H .rfl' S
theorem ss_cons {st : Stmt} {r : List Stmt} {x y : M Fl} (h1 : PS X st (TSt X.K m x)) (h2 : PSs X r (TSt X.K m y)) : PSs X (st :: r) (TSt X.K m (seqF x y)) := by
  refine (pss_cons h1 h2).weak fun D σ H ⟨W, s, S, h⟩ => ?_
  refine ⟨W, s, S, wp_bind h (fun fl s1 q => ?_) fun _ _ z => z⟩
  cases fl with
  | nx => exact fun σ' W' H' st' S' => ⟨W', s1, S', wp_imp q (fun fl s2 z => PF.later st' fl s2 z) fun _ _ z => z⟩
  | bk => exact wp_pure (PX := PFx) q
  | ct => exact wp_pure (PX := PFx) q
  | rt v => exact wp_pure (PX := PFx) q
theorem st_if {t : M Bool} {x y : List Stmt} {bx b_y : M Fl} (hc : PT X a (TB X.K xF t)) (hx : PSs X x (TSt X.K m bx)) (hy : PSs X y (TSt X.K m b_y)) : PS X (.If a x y pos) (TSt X.K m (M.bind (chk m t) fun c => if c then bx else b_y)) := by
  refine (ps_if hc hx hy).weak fun D σ H ⟨W, s, S, h⟩ => ?_
  refine tr_st (R := RB) S h fun c s1 d W1 H1 st S1 e h1 => ?_
  cases (show c = d from e)
  cases c with
  | true => exact iteT ⟨W1, s1, S1, wp_imp h1 (fun fl s2 z => PF.later st fl s2 z) fun _ _ z => z⟩
  | false => exact iteF ⟨W1, s1, S1, wp_imp h1 (fun fl s2 z => PF.later st fl s2 z) fun _ _ z => z⟩
theorem st_expr (ha : PE X a (T X.K xF ma)) (hc : isComp a = false) : PS X (.Expr a pos) (TSt X.K m (okF (M.bind (chk m ma) fun _ => M.pure ()))) := by
  have hs : swapsWith a none pos.line X.env = pure false := by cases a <;> first | rfl | cases hc
  refine (ps_expr ha hs).weak fun D σ H ⟨W, s, S, h⟩ => ?_
  exact tr_st (R := RR X.K) S (wp_assoc h) fun r s1 v W1 H1 st S1 rr h1 => h1 σ W1 H1 st S1
theorem st_ret (ha : PE X a (T X.K xF ma)) : PS X (.Return (some a) pos) (TSt X.K m (M.bind (chk m ma) (retM m))) := by
  refine (ps_ret ha).weak fun D σ H ⟨W, s, S, h⟩ => ?_
  refine tr_st (R := RR X.K) S h fun r s1 v W1 H1 st S1 rr h1 => ?_
  unfold wpM retM at h1
  cases r with
  | c c =>
    cases c with
    | d x => exact h1 σ v W1 H1 st S1 rr
    | r k =>
      simp only at h1
      by_cases hk : m ≤ k
      · rw [if_pos hk] at h1
        obtain ⟨p, hp, e⟩ := rr
        exact h1 σ v W1 H1 st S1 ⟨p, hp, e, hk⟩
      · rw [if_neg hk] at h1
        exact h1.elim
  | f xs =>
    obtain ⟨p, vs, e, n, b, al, hp, q⟩ := rr
    exact h1 σ v W1 H1 st S1 ⟨p, vs, e, n, b, hp, q⟩
  | g xs => exact h1.elim
theorem st_retN : PS X (.Return none pos) (TSt X.K m (M.pure (.rt (.c (.d .none))))) := ps_retN.weak fun D σ H ⟨W, s, S, h⟩ => (wp_pure h) σ .non W H .rfl' S .non
/-! ### a name's store -/
theorem gc_env {K : PySem.W.Frag} {W : Wd} {env : EnvP} {L : List MO} {σ : L2.St} {H : Hp} (S : Sim K W ⟨env, L⟩ σ H) (hm : m ≤ L.length) : StS m W H ⟨W.B, W.al.take (max m (hi env))⟩ H := by
  refine ⟨⟨.rfl', fun _ _ h _ => h, fun a q => .inl (List.mem_of_mem_take q), fun _ _ h => .inl h, fun _ h => h⟩, ?_⟩
  show (W.al.take _).take m = _
  rw [List.take_take, Nat.min_eq_left (Nat.le_max_left _ _)]
theorem Objs.snoc {K : PySem.W.Frag} {B H : Hp} {p : Addr} {o : MO} : ∀ {as : List Addr} {os : List MO}, Objs K B H as os → MoRep K B H p o → Objs K B H (as ++ [p]) (os ++ [o])
  | _, _, .nil, h => .cons h .nil
  | _, _, .cons a t, h => .cons a (t.snoc h)
theorem get_snoc {α : Type} {l : List α} {x : α} : (l ++ [x])[l.length]? = some x := by simp
theorem Sim.drop {K : PySem.W.Frag} {W : Wd} {s : PSt} {σ : L2.St} {H : Hp} (S : Sim K W s σ H) (i : Nat) (v : V) : Sim K W ⟨s.env.set i none, s.L⟩ (σ.set i (some v)) H := by
  refine ⟨S.sub, S.nod, S.objs, set_len S.env.1 .., fun j c' e => ?_⟩
  by_cases h : i = j
  · subst h
    have hl : i < s.env.length := by
      have := (List.getElem?_eq_some_iff.mp e).1
      rw [List.length_set] at this
      exact this
    rw [List.getElem?_set_self hl] at e
    cases e
  · rw [List.getElem?_set_ne h] at e
    obtain ⟨w, a, b⟩ := S.env.2 j c' e
    exact ⟨w, by rw [List.getElem?_set_ne h]; exact a, b⟩
/-- a new thing of one's own -/
theorem sto_new {K : PySem.W.Frag} {i : Nat} {o : MO} {p : Addr} {W W0 : Wd} {H H0 : Hp} {s : PSt} {σ : L2.St} {D : Ends} (S : Sim K W s σ H) (st : StS m W0 H0 W H) (hm : m ≤ s.L.length) (hn : H0 p = none) (ha : p ∉ W.al) (hmo : MoRep K W.B H p o)
    (h : ∀ σ' W' H', StS m W0 H0 W' H' → Sim K W' ⟨s.env.set i (some (.r (gc m (s.env.set i none) s.L).length)), gc m (s.env.set i none) s.L ++ [o]⟩ σ' H' → D.nx σ' H') : D.nx (σ.set i (some (.ref p))) H := by
  have S1 := (S.drop i (.ref p)).gc m
  have st1 := st.trans (gc_env (S.drop i (.ref p)) hm)
  have hlen : (gc m (s.env.set i none) s.L).length = (W.al.take (max m (hi (s.env.set i none)))).length := S1.objs.len.symm
  have hml : m ≤ (W.al.take (max m (hi (s.env.set i none)))).length := by
    rw [List.length_take, S.objs.len]
    omega
  have hnm : p ∉ W.al.take (max m (hi (s.env.set i none))) := fun q => ha (List.mem_of_mem_take q)
  rw [hlen] at h
  generalize hal : W.al.take (max m (hi (s.env.set i none))) = al at *
  refine h (σ.set i (some (.ref p))) ⟨W.B, al ++ [p]⟩ H ⟨⟨st1.sub, st1.keep, fun a q => ?_, st1.nb, st1.trk⟩, ?_⟩ ⟨S1.sub, List.nodup_append.mpr ⟨S1.nod, by simp, fun x hx y hy e => ?_⟩, S1.objs.snoc hmo, set_len S.env.1 .., fun j c' e => ?_⟩
  · rcases List.mem_append.mp q with q | q
    · exact st1.al a q
    · rw [List.mem_singleton.mp q]; exact .inr hn
  · show (al ++ [p]).take m = _
    rw [List.take_append_of_le_length hml]
    exact st1.al0
  · subst e
    rw [List.mem_singleton.mp hy] at hx
    exact hnm hx
  · by_cases hj : i = j
    · subst hj
      have hl : i < s.env.length := by
        have := (List.getElem?_eq_some_iff.mp e).1
        rw [List.length_set] at this
        exact this
      rw [List.getElem?_set_self hl] at e
      cases e
      exact ⟨.ref p, List.getElem?_set_self (by rw [S.env.1]; exact hl), p, get_snoc, rfl⟩
    · rw [List.getElem?_set_ne hj] at e
      obtain ⟨w, a, b⟩ := S1.env.2 j c' (by rw [List.getElem?_set_ne hj]; exact e)
      refine ⟨w, a, b.mono (W := ⟨W.B, al⟩) (W' := ⟨W.B, al ++ [p]⟩) .rfl' fun k a q => ?_⟩
      have hk := (List.getElem?_eq_some_iff.mp q).1
      show (al ++ [p])[k]? = some a
      rw [List.getElem?_append_left hk]
      exact q
theorem sto_ok {K : PySem.W.Frag} {own : Bool} {i : Nat} {r : RV} {W W0 : Wd} {H H0 : Hp} {s : PSt} {σ : L2.St} {v : V} {D : Ends} (S : Sim K W s σ H) (st : StS m W0 H0 W H) (hm : m ≤ s.L.length) (rr : RR K r v W H H0) (h : wpM (M.bind (stoN m own i r) fun _ => M.pure .nx) s (PF K m W0 H0 D) PFx) : D.nx (σ.set i (some v)) H := by
  unfold wpM M.bind stoN at h
  cases r with
  | c c =>
    have S1 := S.store i rr
    exact h _ _ H (st.trans (gc_env S1 hm)) (S1.gc m)
  | f xs =>
    obtain ⟨p, vs, rfl, hn, hb, ha, hp, hd⟩ := rr
    cases own with
    | true =>
      simp only [if_true] at h
      exact sto_new (o := .lst xs) S st hm hn ha ⟨hb, vs, hp, hd⟩ h
    | false =>
      simp only [if_neg Bool.false_ne_true] at h
      have S1 := (S.drop i (.ref p)).gc m
      have st1 := st.trans (gc_env (S.drop i (.ref p)) hm)
      have ha' : p ∉ W.al.take (max m (hi (s.env.set i none))) := fun q => ha (List.mem_of_mem_take q)
      obtain ⟨S2, q2⟩ := S1.join hb ha' hp hd
      have S3 := S2.store (c := .d (.list xs)) i q2
      have e1 : (s.env.set i none).set i (some (.d (.list xs))) = s.env.set i (some (.d (.list xs))) := List.set_set ..
      have e2 : (σ.set i (some (.ref p))).set i (some (.ref p)) = σ.set i (some (.ref p)) := List.set_set ..
      rw [e1, e2] at S3
      exact h _ _ H ⟨st1.toStepS.put hn hb, st1.al0⟩ S3
  | g xs =>
    obtain ⟨p, vs, rfl, hn, hb, ha, hp, hd⟩ := rr
    exact sto_new (o := .dic xs) S st hm hn ha ⟨hb, vs, hp, hd⟩ h
theorem lok_name {sc : Scope} {y : Str} (lk : Lok X sc) (h : locB sc y = true) : Loc X.env.scope y ∧ (X.fn y = true ∨ X.env.scope.names.lookup y = some .local) := lk y h
theorem st_name {N : List Str} {own : Bool} {i : Nat} {y : Str} {py : Pos} {sc : Scope} (hN : X.N = N) (nd : N.Nodup) (lk : Lok X sc) (hl : locB sc y = true) (hs : slot N y = some i) (ha : PE X a (T X.K xF ma)) (hc : isComp a = false) :
    PS X (.Assign [.Name y py] a pos) (TSt X.K m (okF (M.bind (chk m ma) (stoN m own i)))) := by
  obtain ⟨l1, l2⟩ := lk y hl
  have hsw : swapsWith a (some (.Name y py)) pos.line X.env = pure false := by cases a <;> first | rfl | cases hc
  refine (ps_set (i := i) (by rw [hN]; exact nd) (by rw [hN]; exact slot_get hs) l1 ha hsw l2).weak fun D σ H ⟨W, s, S, h⟩ => ?_
  refine ⟨W, s, S, wp_imp (wp_chk (wp_assoc h)) (fun r s1 ⟨hm, q⟩ v W1 H1 st S1 rr => ?_) fun _ _ z => z.elim⟩
  exact sto_ok S1 (st.sts S1 hm) hm rr q
theorem wp_setL1 {f : List MO → Option (List MO)} {s : PSt} {P : Unit → PSt → Prop} {PX : Xn → PSt → Prop} (h : wpM (setL f) s P PX) : ∃ L, f s.L = some L ∧ P () ⟨s.env, L⟩ := by
  unfold wpM setL at h
  cases e : f s.L with
  | none => rw [e] at h; exact h.elim
  | some L => rw [e] at h; exact ⟨L, rfl, h⟩
/-! ### o[i] = e -/
theorem Sim.mutD {K : PySem.W.Frag} {W : Wd} {env : EnvP} {L : List MO} {σ : L2.St} {H : Hp} {k : Nat} {p : Addr} {xs ys : List (D × D)} {vs : List (Key × V)} (S : Sim K W ⟨env, L⟩ σ H) (hk : L[k]? = some (.dic xs)) (hp : W.al[k]? = some p) (q : KvRep K W.B vs ys) :
    Sim K W ⟨env, L.set k (.dic ys)⟩ σ (upd H p (.dK vs)) ∧ Step W H W (upd H p (.dK vs)) := by
  obtain ⟨a, ha, hr⟩ := S.objs.get hk
  rw [hp] at ha
  cases ha
  obtain ⟨hb, ws, hH, hd⟩ := hr
  refine ⟨⟨S.sub.upd hb, S.nod, Objs.impSet S.nod hp S.objs (fun a ma ne o r => r.mono .rfl' (fun z => z) (upd_ne ne).symm) ⟨hb, vs, upd_same, q⟩, S.env⟩, ⟨⟨.rfl', fun a o h n => ?_, fun _ m => .inl m, fun _ _ h => .inl h, fun a h => ?_⟩, W.al.length, List.take_length.symm⟩⟩
  · rw [upd_ne fun e => ?_]
    · exact h
    · subst e
      exact n (List.mem_of_getElem? hp)
  · by_cases e : a = p
    · subst e
      rw [upd_same] at h
      cases h
    · rw [upd_ne e] at h
      exact h
theorem optrM_c {r : RV} {s : PSt} {P : Nat → PSt → Prop} {PX : Xn → PSt → Prop} (h : wpM (optrM r) s P PX) : ∃ k, r = .c (.r k) ∧ P k s := by
  unfold wpM optrM at h
  cases r with
  | c c =>
    cases c with
    | r k => exact ⟨k, rfl, h⟩
    | d x => exact h.elim
  | f xs => exact h.elim
  | g xs => exact h.elim
theorem set_both : PSet X (fun o i v H Q => rSetL o i v H Q ∨ rSetDic o i v H Q) := by
  intro pins s σ H o i v ov iv u Q I ro ri rv h
  rcases h with h | h
  · exact set_list pins s σ H o i v ov iv u Q I ro ri rv h
  · exact set_dic pins s σ H o i v ov iv u Q I ro ri rv h
theorem st_item {o i : Expr} {mo mi : M RV} {p1 : Pos} (ha : PE X a (T X.K xF ma)) (ho : PE X o (T X.K xF mo)) (hi : PE X i (T X.K xF mi)) (hc : isComp a = false) (hp : plainIx i = true) : PS X (.Assign [.Subscript o i p1] a pos) (TSt X.K m (okF (chk m (stoS m ma mo mi)))) := by
  have hs : swapsWithSole [.Subscript o i p1] a pos.line X.env = pure false := by cases a <;> first | rfl | cases hc
  have hw : swappedStores [.Subscript o i p1] a X.env = pure none := by cases a <;> rfl
  have has : ∀ v, assign (.Subscript o i p1) X.env v = (do
      let ov ← holding [v] (eval o X.env)
      let iv ← holding [v, ov] (eval i X.env)
      standAt p1
      holding [v, ov, iv] (setItem ov iv v)
      release [v, ov, iv] []) := by
    intro v
    cases i <;> first | rfl | cases hp
  refine (ps_asg ha (pg_sub ho hi set_both has) hs hw rfl).weak fun D σ H ⟨W, s, S, h⟩ => ?_
  have h1 := wp_chk h
  refine tr_asD ⟨W, s, S, wp_bind (show wpM (M.bind (asD m ma) fun x => M.bind (M.bind mo optrM) fun k => M.bind (asC mi) fun c => M.bind (rdM c) fun y => setL fun L => stoO L k y x) s _ _ from h1) (fun x s1 h2 v W1 H1 st1 S1 q => ?_) fun _ _ z => z.elim⟩
  refine ⟨W1, s1, S1, wp_bind (wp_assoc h2) (fun rv s2 h3 u W2 H2 st2 S2 rr => ?_) fun _ _ z => z.elim⟩
  have h3' : wpM (optrM rv) s2 (fun k s2 => wpM (M.bind (asC mi) fun c => M.bind (rdM c) fun y => setL fun L => stoO L k y x) s2 _ _) PFx := wp_bind h3 (fun a s1 z => z) (fun _ _ z => z)
  obtain ⟨k, rfl, h4⟩ := optrM_c h3'
  obtain ⟨p, hpk, rfl⟩ := rr
  refine tr_asC ⟨W2, s2, S2, wp_bind h4 (fun c s3 h5 w W3 H3 st3 S3 rr => ?_) fun _ _ z => z.elim⟩
  obtain ⟨y, ey, h5⟩ := wp_bindR h5
  have ry := S3.rd rr ey
  obtain ⟨L, e, h6⟩ := wp_setL1 h5
  unfold stoO at e
  have qx : Dq X.K W3.B v x := Dq.mono (st2.sub.trans st3.sub) _ _ q
  have st := (st1.trans st2).trans st3
  split at e
  · rename_i xs hk
    split at e
    · split at e
      · rename_i n hn
        cases e
        obtain rfl := ry.int
        have hp2 := S3.lstBack st3 hpk hk
        obtain ⟨b, hb', _, ws, hH, hd⟩ := S3.objs.get hk
        rw [hp2] at hb'
        cases hb'
        obtain ⟨S4, st4⟩ := S3.mut (vs := ws.set n v) hk hp2 (dl_set qx n hd)
        refine .inl ⟨p, ws, _, n, rfl, rfl, hH, by rw [dl_len hd]; exact hn, ?_⟩
        exact h6.2 σ W3 _ ((st.trans st4).sts S4 h6.1) S4
      · cases e
    · cases e
  · rename_i kvs hk
    split at e
    · rename_i hb
      cases e
      obtain ⟨hb1, hb2⟩ := Bool.and_eq_true_iff.mp hb
      obtain ⟨key, hkey⟩ := Option.isSome_iff_exists.mp hb1
      obtain rfl := ry.key hkey
      have hp2 := S3.dicBack st3 hpk hk
      obtain ⟨b, hb', _, es, hH, hd⟩ := S3.objs.get hk
      rw [hp2] at hb'
      cases hb'
      obtain ⟨S4, st4⟩ := S3.mutD (vs := putK es key v) hk hp2 (kv_put hd hkey qx)
      refine .inr ⟨p, es, key, rfl, hH, rfl, ?_, ?_⟩
      · rw [kv_len hd, sizeLine_eq]
        have := of_decide_eq_true hb2
        omega
      · exact h6.2 σ W3 _ ((st.trans st4).sts S4 h6.1) S4
    · cases e
  · cases e
end
end Pd

set_option Elab.async false
set_option linter.all false
set_option maxRecDepth 100000
set_option maxHeartbeats 4000000
namespace Pd
open PySem L2
section
variable {X : Cx} {m : Nat} {a e : Expr} {ma : M RV} {pos : Pos}
theorem st_tuple {N : List Str} {sc : Scope} {ts : List Expr} {j : Nat} {p1 : Pos} (hc : X.calm = true) (hN : X.N = N) (nd : N.Nodup) (lk : Lok X sc) (ha : PE X a (T X.K xF ma)) (h1 : isTup a = false) (h2 : isComp a = false) :
    PS X (.Assign [.Tuple ts j p1] a pos) (TSt X.K m (okF (M.bind (chk m (asD m ma)) (tgtM m N sc 3 (.Tuple ts j p1))))) := by
  have hs : swapsWithSole [.Tuple ts j p1] a pos.line X.env = pure false := by cases a <;> first | rfl | cases h2
  have hw : swappedStores [.Tuple ts j p1] a X.env = pure none := by cases a <;> first | rfl | cases h1
  refine (ps_asg ha (sd_tg (k := m) hc hN nd lk 3 (.Tuple ts j p1)) hs hw rfl).weak fun D σ H ⟨W, s, S, h⟩ => ?_
  refine tr_asD ⟨W, s, S, wp_imp (wp_chk (wp_assoc h)) (fun x s1 ⟨hm, q⟩ v W1 H1 st S1 qx => ?_) fun _ _ z => z.elim⟩
  exact ⟨W1, s1, x, S1, .inl qx, wp_bind q (fun _ s2 z σ' _ _ S2 => (wp_pure z) σ' W1 H1 (st.sts S1 hm) S2) fun _ _ z => z⟩
theorem ItD.sts {K : PySem.W.Frag} {bt : Bool} {m : Nat} {W W' : Wd} {H H' : Hp} {J : It} {xs : List D} (h : ItD K bt W.B J xs) (st : StS m W H W' H') : ItD K bt W'.B J xs := h.mono st.sub
theorem st_for {bt : Bool} {tg it : Expr} {mi : M (List D)} {mt : D → M Unit} {vt : List Nat} {body : List Stmt} {mb : M Fl} (hp : PassesOwn (model X.prog X.w) X.A X.env X.xe) (hc : X.calm = true) (hi : PI X tg it (TIt X.K xF bt mi)) (hg : PG X tg (TgD X.K bt vt mt)) (hb : PSs X body (TSt X.K m mb))
    (hs : ∀ x, foldedSetIterable it X.env x = pure x) : PS X (.For tg it body [] pos) (TSt X.K m (M.bind (chk m mi) fun items => forL mt mb items)) := by
  refine (ps_for hp hc hi hg hb hs).weak fun D σ H ⟨W, s, S, h⟩ => ?_
  refine tr_st (R := RI X.K bt) S h fun items s1 J W1 H1 st1 S1 itd h1 => ?_
  refine ⟨fun i n σ' H' => n = items.length - i ∧ i ≤ items.length ∧ ∃ W' s', StS m W H W' H' ∧ Sub W1.B W'.B ∧ Sim X.K W' s' σ' H' ∧ wpM (forL mt mb (items.drop i)) s' (PF X.K m W H D) PFx, ⟨items.length, rfl, Nat.zero_le _, W1, s1, st1, .rfl', S1, h1⟩, ?_⟩
  rintro i n σ' H' ⟨rfl, hi', W', s', st', sb', S', hw⟩
  have subJ : Sub W1.B H' := sb'.trans S'.sub
  by_cases hlt : i < items.length
  · refine .inr ⟨itd.go i H' subJ hlt, _, fun σ'' H'' w => ⟨items.length - (i + 1), by omega, w⟩, fun v H' y => ?_⟩
    obtain ⟨W', st', sb', S', hx⟩ : ∃ W'', StS m W H W'' H' ∧ Sub W1.B W''.B ∧ Sim X.K W'' s' σ' H' ∧ ∀ x, items[i]? = some x → DqI X.K bt W''.B v x := by
      obtain ⟨Wy, sy, ea, Sy, hx⟩ := itd.yld i _ _ _ _ v H' S' sb' y
      exact ⟨Wy, st'.trans ⟨sy.toStepS, by rw [ea]⟩, sb'.trans sy.sub, Sy, hx⟩
    have hx := hx _ (List.getElem?_eq_getElem hlt)
    rw [List.drop_eq_getElem_cons hlt] at hw
    generalize items[i] = x at hw hx
    have w1 : wpM (M.bind (mt x) fun _ => M.bind mb fun fl => match fl with
      | .nx => forL mt mb (items.drop (i + 1))
      | .ct => forL mt mb (items.drop (i + 1))
      | .bk => M.pure .nx
      | .rt v => M.pure (.rt v)) s' (PF X.K m W H D) PFx := hw
    refine ⟨W', s', x, S', hx, wp_bind w1 (fun _ s2 w2 σ2 _ _ S2 => ?_) fun _ _ z => z⟩
    refine ⟨W', s2, S2, wp_bind w2 (fun fl s3 w3 => ?_) fun _ _ z => z⟩
    cases fl with
    | nx => exact fun σ3 W3 H3 st3 S3 => ⟨rfl, hlt, W3, s3, st'.trans st3, sb'.trans st3.sub, S3, w3⟩
    | ct => exact fun σ3 W3 H3 st3 S3 => ⟨rfl, hlt, W3, s3, st'.trans st3, sb'.trans st3.sub, S3, w3⟩
    | bk => exact fun σ3 W3 H3 st3 S3 => (wp_pure (PX := PFx) w3) σ3 W3 H3 (st'.trans st3) S3
    | rt r => exact fun σ3 v3 W3 H3 st3 S3 q => (wp_pure (PX := PFx) w3) σ3 v3 W3 H3 (st'.trans st3) S3 (q.back st'.trk)
  · have ei : i = items.length := by omega
    subst ei
    refine .inl ⟨itd.stop _ H' subJ (Nat.le_refl _), ?_⟩
    rw [List.drop_length] at hw
    exact (wp_pure (PX := PFx) (show wpM (M.pure Fl.nx) s' _ _ from hw)) σ' W' H' st' S'
theorem st_while {t : M Bool} {body : List Stmt} {mb : M Fl} {n : Nat} (hp : PassesOwn (model X.prog X.w) X.A X.env X.xe) (hc : PT X a (TB X.K xF t)) (hb : PSs X body (TSt X.K m mb)) : PS X (.While a body [] pos) (TSt X.K m (whileL (chk m t) mb n)) := by
  refine (ps_while hp hc hb).weak fun D σ H ⟨W, s, S, h⟩ => ?_
  refine ⟨fun n σ' H' => ∃ W' s', StS m W H W' H' ∧ Sim X.K W' s' σ' H' ∧ wpM (whileL (chk m t) mb n) s' (PF X.K m W H D) PFx, ⟨n, W, s, .rfl', S, h⟩, ?_⟩
  rintro n σ' H' ⟨W', s', st', S', hw⟩
  cases n with
  | zero => exact hw.elim
  | succ n =>
    refine tr_st (R := RB) S' (show wpM (M.bind (chk m t) fun b => if b then M.bind mb fun fl => match fl with
      | .nx => whileL (chk m t) mb n
      | .ct => whileL (chk m t) mb n
      | .bk => M.pure .nx
      | .rt v => M.pure (.rt v)
      else M.pure .nx) s' (PF X.K m W H D) PFx from hw) fun b s1 d W1 H1 st1 S1 eb w1 => ?_
    cases (show b = d from eb)
    cases b with
    | true =>
      refine iteT ⟨_, fun σ2 H2 w => ⟨n, Nat.lt_succ_self n, w⟩, W1, s1, S1, wp_bind (show wpM (M.bind mb fun fl => match fl with
      | .nx => whileL (chk m t) mb n
      | .ct => whileL (chk m t) mb n
      | .bk => M.pure Fl.nx
      | .rt v => M.pure (Fl.rt v)) s1 _ _ from w1) (fun fl s3 w3 => ?_) fun _ _ z => z⟩
      cases fl with
      | nx => exact fun σ3 W3 H3 st3 S3 => ⟨W3, s3, (st'.trans st1).trans st3, S3, w3⟩
      | ct => exact fun σ3 W3 H3 st3 S3 => ⟨W3, s3, (st'.trans st1).trans st3, S3, w3⟩
      | bk => exact fun σ3 W3 H3 st3 S3 => (wp_pure (PX := PFx) w3) σ3 W3 H3 ((st'.trans st1).trans st3) S3
      | rt r => exact fun σ3 v3 W3 H3 st3 S3 q => (wp_pure (PX := PFx) w3) σ3 v3 W3 H3 ((st'.trans st1).trans st3) S3 (q.back (st'.trans st1).trk)
    | false => exact iteF ((wp_pure (PX := PFx) (show wpM (M.pure Fl.nx) s1 _ _ from w1)) σ' W1 H1 (st'.trans st1) S1)
end
/-- name = [..] -/
theorem st_comp {X : Cx} {G : Mdl} {N : List Str} {m k n : Nat} {sc : Scope} {own : Bool} {i : Nat} {y : Str} {py pos p : Pos} {elt : Expr} {gens : List Comprehension} {scope : Scope} (o : Ok X G N k sc) (lk : Lok X sc) (hl : locB sc y = true) (hs : slot N y = some i) :
    PS X (.Assign [.Name y py] (.ListComp elt gens scope p) pos) (TSt X.K m (okF (M.bind (chk m (exN G N m n sc (.ListComp elt gens scope p))) (stoN m own i)))) := by
  obtain ⟨l1, l2⟩ := lk y hl
  have hswd : swapsWith (.ListComp elt gens scope p) (some (.Name y py)) pos.line X.env = pure (X.env.blockKind == .function && X.env.kindOf y == some .local && py.line == p.line && !(scope.names.any fun (n, k) => n == y && (k == .local || k == .cell))) := rfl
  cases hsw : (X.env.blockKind == .function && X.env.kindOf y == some .local && py.line == p.line && !(scope.names.any fun (n, k) => n == y && (k == .local || k == .cell))) with
  | false =>
    rw [hsw] at hswd
    refine (ps_set (i := i) (by rw [o.eqN]; exact o.nd) (by rw [o.eqN]; exact slot_get hs) l1 ((sound G N m k n).1 sc _ X xF o) hswd l2).weak fun D σ H ⟨W, s, S, h⟩ => ?_
    exact ⟨W, s, S, wp_imp (wp_chk (wp_assoc h)) (fun r s1 ⟨hm, q⟩ v W1 H1 st S1 rr => sto_ok S1 (st.sts S1 hm) hm rr q) fun _ _ z => z.elim⟩
  | true =>
    rw [hsw] at hswd
    have hloc : X.env.scope.names.lookup y = some .local := by
      have h1 := (Bool.and_eq_true_iff.mp (Bool.and_eq_true_iff.mp hsw).1).1
      exact eq_of_beq (Bool.and_eq_true_iff.mp h1).2
    cases n with
    | zero => exact ⟨fun _ _ _ _ _ _ ⟨_, _, _, h⟩ => h.elim⟩
    | succ n =>
      obtain ⟨ihE, ihT, ihI⟩ := sound G N m k n
      match gens with
      | [⟨tg, it, ifs, 0⟩] =>
        have un : exN G N m (n + 1) sc (.ListComp elt [⟨tg, it, ifs, 0⟩] scope p) = (if blkC N sc scope (ownOf N scope) && decide (ifs.length ≤ 1) && (tgSlots N 3 tg).all (fun i => ((ownOf N scope).map (·.2)).elem i) && notSet it then
          M.bind (itN G N m n sc tg it) fun items => compM m ((ownOf N scope).map (·.2)) (fun x => tgtM m N scope 3 tg x) (allT (ifs.map fun z => exT G N m n (relS scope sc) z)) (exN G N m n (relS scope sc) elt) items
        else M.fail) := rfl
        rw [un]
        cases hb : (blkC N sc scope (ownOf N scope) && decide (ifs.length ≤ 1) && (tgSlots N 3 tg).all (fun i => ((ownOf N scope).map (·.2)).elem i) && notSet it) with
        | false => exact ⟨fun _ _ _ _ _ _ ⟨_, _, _, h⟩ => h.elim⟩
        | true =>
          rw [if_pos rfl]
          obtain ⟨hb1, h4⟩ := Bool.and_eq_true_iff.mp hb
          obtain ⟨hb2, h3⟩ := Bool.and_eq_true_iff.mp hb1
          obtain ⟨h1, h2⟩ := Bool.and_eq_true_iff.mp hb2
          have hok : BlkOk X.N X.env.scope scope (ownOf N scope) := by
            rw [o.eqN, o.eqS]
            exact blkOk_by h1
          have hv : ∀ i ∈ tgSlots N 3 tg, i ∈ (ownOf N scope).map (·.2) := fun i mi => List.elem_iff.mp (List.all_eq_true.mp h3 i mi)
          refine (ps_setLc (i := i) (g := TgD X.K (isTupE tg) (tgSlots N 3 tg) (fun x => tgtM m N scope 3 tg x)) (tt := TB X.K xF (allT (ifs.map fun z => exT G N m n (relS scope sc) z))) (te := T X.K xF (exN G N m n (relS scope sc) elt)) o.calm (by rw [o.eqN]; exact o.nd) (by rw [o.eqN]; exact slot_get hs) hloc hswd (ihI sc it tg X xF o) hok (fun s H C cl fp => ?_) (fun s H C cl fp => ?_) (fun s H C cl fp => ihE _ elt _ xF (o.blk s H scope C cl fp)) (folded_of h4)).weak fun D σ H ⟨W, s, S, h⟩ => ?_
          · have ob := o.blk s H scope C cl fp
            exact sd_tg ob.calm ob.eqN ob.nd Lok.blk 3 tg
          · have ob := o.blk s H scope C cl fp
            match ifs, of_decide_eq_true h2 with
            | [], _ => exact ⟨fun pins s σ H Q I ⟨W, st, S, h⟩ => pts_nil.run pins s σ H Q I ((wp_pure h) true W H .rfl' S rfl)⟩
            | [t], _ => exact ⟨fun pins s σ H Q I h => (pts_one (ihT _ t _ xF ob)).run pins s σ H Q I (tr_unit _ (fun b => by cases b <;> rfl) σ H Q h)⟩
          · exact tr_comp hv σ H _ ⟨W, s, S, wp_imp (wp_chk (wp_assoc h)) (fun r s1 ⟨hm, q⟩ v W1 H1 st S1 rr => sto_ok S1 (st.sts S1 hm) hm rr q) fun _ _ z => z.elim⟩
      | [] => exact ⟨fun _ _ _ _ _ _ ⟨_, _, _, h⟩ => h.elim⟩
      | [⟨_, _, _, .ofNat (_ + 1)⟩] => exact ⟨fun _ _ _ _ _ _ ⟨_, _, _, h⟩ => h.elim⟩
      | [⟨_, _, _, .negSucc _⟩] => exact ⟨fun _ _ _ _ _ _ ⟨_, _, _, h⟩ => h.elim⟩
      | ⟨_, _, _, .ofNat 0⟩ :: _ :: _ => exact ⟨fun _ _ _ _ _ _ ⟨_, _, _, h⟩ => h.elim⟩
      | ⟨_, _, _, .ofNat (_ + 1)⟩ :: _ :: _ => exact ⟨fun _ _ _ _ _ _ ⟨_, _, _, h⟩ => h.elim⟩
      | ⟨_, _, _, .negSucc _⟩ :: _ :: _ => exact ⟨fun _ _ _ _ _ _ ⟨_, _, _, h⟩ => h.elim⟩
end Pd

set_option Elab.async false
set_option linter.all false
set_option maxRecDepth 100000
set_option maxHeartbeats 4000000
/-! Every statement keeps to its reading. -/
namespace Pd
open PySem L2
theorem st_ite {X : Cx} {m : Nat} {st : Stmt} {b : Bool} {e : M Fl} (h : b = true → PS X st (TSt X.K m e)) : PS X st (TSt X.K m (if b then e else M.fail)) := by
  cases b with
  | true => rw [if_pos rfl]; exact h rfl
  | false => exact st_fail
theorem isEmpty_nil {α : Type} {l : List α} (h : l.isEmpty = true) : l = [] := by
  cases l with
  | nil => rfl
  | cons a l => cases h
theorem stmts {X : Cx} {d : Df} {k : Nat} {sc : Scope} (o : Ok X d.G d.N k sc) (lk : Lok X sc) (hp : PassesOwn (model X.prog X.w) X.A X.env X.xe) : ∀ n : Nat, (∀ st : Stmt, PS X st (TSt X.K d.m (exS d sc n st))) ∧ (∀ l : List Stmt, PSs X l (TSt X.K d.m (exB d sc n l)))
  | 0 => ⟨fun _ => st_fail, fun _ => ss_fail⟩
  | n + 1 => by
    obtain ⟨ihS, ihB⟩ := stmts o lk hp n
    obtain ⟨sE, sT, sI⟩ := sound d.G d.N d.m k n
    have nd : X.N.Nodup := by rw [o.eqN]; exact o.nd
    refine ⟨fun st => ?_, fun l => ?_⟩
    · cases st with
      | Pass p => exact ps_pass.weak fun D σ H ⟨W, s, S, h⟩ => (wp_pure (PX := PFx) (show wpM (M.pure Fl.nx) s _ _ from h)) σ W H .rfl' S
      | Break p => exact ps_break.weak fun D σ H ⟨W, s, S, h⟩ => (wp_pure (PX := PFx) (show wpM (M.pure Fl.bk) s _ _ from h)) σ W H .rfl' S
      | Continue p => exact ps_continue.weak fun D σ H ⟨W, s, S, h⟩ => (wp_pure (PX := PFx) (show wpM (M.pure Fl.ct) s _ _ from h)) σ W H .rfl' S
      | Return v p =>
        cases v with
        | none => exact st_retN
        | some e => exact st_ret (sE sc e X xF o)
      | Expr e p =>
        show PS X _ (TSt X.K d.m (if isComp e then M.fail else okF (M.bind (chk d.m (exN d.G d.N d.m n sc e)) fun _ => M.pure ())))
        cases hc : isComp e with
        | true => exact st_fail
        | false => exact st_expr (sE sc e X xF o) hc
      | If t a b p => exact st_if (sT sc t X xF o) (ihB a) (ihB b)
      | Assign ts e p =>
        match ts with
        | [tg] =>
          cases tg with
          | Name y py =>
            show PS X _ (TSt X.K d.m (match slot d.N y with
              | some i => if locB sc y && (!isComp e || lstC e) then okF (M.bind (chk d.m (exN d.G d.N d.m n sc e)) (stoN d.m (d.own.elem i) i)) else M.fail
              | none => M.fail))
            cases hs : slot d.N y with
            | none => exact st_fail
            | some i =>
              refine st_ite fun hb => ?_
              obtain ⟨h1, h2⟩ := Bool.and_eq_true_iff.mp hb
              cases hl : lstC e with
              | true =>
                cases e with
                | ListComp elt gens scope pp => exact st_comp o lk h1 hs
                | _ => cases hl
              | false =>
                rw [hl] at h2
                have hc : isComp e = false := by
                  cases h : isComp e with
                  | false => rfl
                  | true => rw [h] at h2; cases h2
                exact st_name o.eqN o.nd lk h1 hs (sE sc e X xF o) hc
          | Subscript ob i pp =>
            refine st_ite (e := okF (chk d.m (stoS d.m (exN d.G d.N d.m n sc e) (exN d.G d.N d.m n sc ob) (exN d.G d.N d.m n sc i)))) fun hb => ?_
            obtain ⟨h1, h2⟩ := Bool.and_eq_true_iff.mp hb
            have hc : isComp e = false := by
              cases h : isComp e with
              | false => rfl
              | true => rw [h] at h2; cases h2
            exact st_item (sE sc e X xF o) (sE sc ob X xF o) (sE sc i X xF o) hc h1
          | Tuple ts j p1 =>
            show PS X _ (TSt X.K d.m (if isTup e || isComp e then M.fail else okF (M.bind (chk d.m (asD d.m (exN d.G d.N d.m n sc e))) (tgtM d.m d.N sc 3 (.Tuple ts j p1)))))
            cases h1 : isTup e with
            | true => exact st_fail
            | false =>
              cases h2 : isComp e with
              | true => exact st_fail
              | false => exact st_tuple o.calm o.eqN o.nd lk (sE sc e X xF o) h1 h2
          | _ => exact st_fail
        | [] => exact st_fail
        | _ :: _ :: _ => exact st_fail
      | For tg it body orelse p =>
        refine st_ite (e := M.bind (chk d.m (itN d.G d.N d.m n sc tg it)) fun items => forL (tgtM d.m d.N sc 3 tg) (exB d sc n body) items) fun hb => ?_
        obtain ⟨h1, h2⟩ := Bool.and_eq_true_iff.mp hb
        cases isEmpty_nil h1
        exact st_for hp o.calm (sI sc it tg X xF o) (sd_tg (k := d.m) o.calm o.eqN o.nd lk 3 tg) (ihB body) (folded_of h2)
      | While t body orelse p =>
        refine st_ite (e := whileL (chk d.m (exT d.G d.N d.m n sc t)) (exB d sc n body) d.fuel) fun hb => ?_
        cases isEmpty_nil hb
        exact st_while hp (sT sc t X xF o) (ihB body)
      | _ => exact st_fail
    · cases l with
      | nil => exact ss_nil
      | cons s r => exact ss_cons (ihS s) (ihB r)
end Pd

set_option Elab.async false
set_option linter.all false
set_option maxRecDepth 100000
set_option maxHeartbeats 4000000
/-! Defs: what a def's body does is what its call does. -/
namespace Pd
open PySem L2
/-- the text behind its top, for calls k deep -/
structure Top (P : Program) (w : World) (K : PySem.W.Frag) (mg : Str → Option Value) (base : Heap) (G : Mdl) (k : Nat) : Prop where
  cst : ∀ x d, G.cst x = some d → ∃ u v, mg x = some u ∧ RelV v u ∧ Dq K (fun _ => none) v d
  free : ∀ x, G.free x = true → mg x = none
  fn : ∀ x md ft, G.fn x = some (md, ft) → ∃ f fd ps, mg x = some (.ref f) ∧ PySem.W.keepIn K (.ref f) = true ∧ Binds K fd ps [] ∧ FnG P w K mg base k f fd ps (spF K md.length ft) ∧ (∀ l r, ft l = some r → l.length = md.length) ∧ ∀ l y os, ft l ≠ some (.ex y, os)
theorem ArgsR.objs {K : PySem.W.Frag} {B H : Hp} : ∀ {al : List Addr} {vs : List V} {as : List Arg}, ArgsR K B H al vs as → Objs K B H al (objsOf as)
  | _, _, _, .nil => .nil
  | _, _, _, .d _ t => t.objs
  | _, _, _, .m r t => .cons r t.objs
theorem ArgsR.env {K : PySem.W.Frag} {B H : Hp} : ∀ {al : List Addr} {vs : List V} {as : List Arg} {al0 : List Addr}, ArgsR K B H al vs as → ∀ (i : Nat) (c : C), (envOf al0.length as)[i]? = some (some c) → ∃ v, vs[i]? = some v ∧ CRep K ⟨B, al0 ++ al⟩ v c
  | _, _, _, al0, .nil, i, c, h => by cases i <;> cases h
  | _, _, _, al0, .d r t, 0, c, h => by
    cases (Option.some.inj (Option.some.inj h) : C.d _ = c)
    exact ⟨_, rfl, r⟩
  | _, _, _, al0, .d r t, i + 1, c, h => t.env (al0 := al0) i c h
  | _, _, _, al0, .m (a := a) (al := al) r t, 0, c, h => by
    cases (Option.some.inj (Option.some.inj h) : C.r _ = c)
    exact ⟨_, rfl, a, by simp, rfl⟩
  | _, _, _, al0, .m (a := a) (al := al) r t, i + 1, c, h => by
    have e : (al0 ++ [a]).length = al0.length + 1 := by simp
    obtain ⟨v, e1, e2⟩ := t.env (al0 := al0 ++ [a]) i c (by rw [e]; exact h)
    refine ⟨v, e1, ?_⟩
    rw [List.append_assoc] at e2
    exact e2
theorem envOf_len : ∀ (k : Nat) (as : List Arg), (envOf k as).length = as.length
  | _, [] => rfl
  | k, .d _ :: r => congrArg (· + 1) (envOf_len k r)
  | k, .m _ :: r => congrArg (· + 1) (envOf_len (k + 1) r)
theorem lok_of {X : Cx} {sc : Scope} (e : X.env.scope = sc) (h : ∀ x, X.fn x = true) : Lok X sc := fun x hx => by
  refine ⟨?_, .inl (h x)⟩
  rw [e]
  unfold locB at hx
  unfold L2.Loc
  cases e2 : sc.names.lookup x with
  | none => rw [e2] at hx; cases hx
  | some k =>
    rw [e2] at hx
    cases k <;> first | exact .inl rfl | exact .inr rfl | cases hx
section
variable {P : Program} {w : World} {K : PySem.W.Frag} {mg : Str → Option Value} {base : Heap} {G : Mdl}
theorem start_sim {B H : Hp} {al : List Addr} {vs : List V} {args : List Arg} {N : List Str} {np : Nat} (hs : Sub B H) (nd : al.Nodup) (r : ArgsR K B H al vs args) (hn : args.length = np) : Sim K ⟨B, al⟩ ⟨envOf 0 args ++ List.replicate (N.length - np) none, objsOf args⟩ (start N vs) H := by
  refine ⟨hs, nd, r.objs, ?_, fun i c h => ?_⟩
  · show (vs.map some ++ List.replicate (N.length - vs.length) none).length = _
    rw [List.length_append, List.length_append, List.length_map, List.length_replicate, List.length_replicate, envOf_len, r.len, hn]
  · have h : (envOf 0 args ++ List.replicate (N.length - np) none)[i]? = some (some c) := h
    have h2 : (envOf 0 args)[i]? = some (some c) := by
      by_cases q : i < (envOf 0 args).length
      · rw [List.getElem?_append_left q] at h
        exact h
      · rw [List.getElem?_append_right (by omega), List.getElem?_replicate] at h
        split at h <;> cases h
    obtain ⟨v, e1, e2⟩ := r.env (al0 := []) i c h2
    refine ⟨v, ?_, e2⟩
    show (vs.map some ++ _)[i]? = _
    have hi : i < (vs.map some).length := by
      rw [List.length_map]
      exact (List.getElem?_eq_some_iff.mp e1).1
    rw [List.getElem?_append_left hi, List.getElem?_map, e1]
    rfl
theorem out_ok {m : Nat} {B H : Hp} {al : List Addr} {W' : Wd} {H' : Hp} {s' : PSt} {σ' : L2.St} (hl : al.length = m) (st : StS m ⟨B, al⟩ H W' H') (S : Sim K W' s' σ' H') : StepS ⟨B, al⟩ H ⟨W'.B, al⟩ H' ∧ Objs K W'.B H' al (s'.L.take m) := by
  have e : W'.al.take m = al := by
    rw [st.al0]
    show al.take m = al
    rw [← hl, List.take_length]
  refine ⟨⟨st.sub, st.keep, fun a q => .inl q, st.nb, st.trk⟩, ?_⟩
  have := S.objs.take m
  rw [e] at this
  exact this
theorem out_rt {m : Nat} {B H : Hp} {al : List Addr} {W' : Wd} {H' : Hp} {s' : PSt} {σ' : L2.St} {v : V} {r : RV} {fr : FR} (hl : al.length = m) (st : StS m ⟨B, al⟩ H W' H') (S : Sim K W' s' σ' H') (rr : RtRep K W' H' H v m r) (h : rtO m r s'.L = some fr) : FRep K ⟨W'.B, al⟩ H' H v fr := by
  have e : W'.al.take m = al := by
    rw [st.al0]
    show al.take m = al
    rw [← hl, List.take_length]
  cases r with
  | c c =>
    cases c with
    | d x =>
      cases (Option.some.inj h : FR.d x = fr)
      exact rr
    | r k =>
      obtain ⟨p, h1, rfl, h2⟩ := rr
      unfold rtO at h
      cases hk : s'.L[k]? with
      | none => simp only [hk] at h; cases h
      | some o =>
        simp only [hk] at h
        cases o with
        | lst xs =>
          simp only at h
          rw [if_pos h2] at h
          cases (Option.some.inj h : FR.f xs = fr)
          obtain ⟨a, k1, n1, vs, n2, n3⟩ := S.objs.get hk
          rw [h1] at k1
          cases k1
          refine ⟨p, vs, rfl, ?_, n1, n2, n3⟩
          rcases st.al p (List.mem_of_getElem? h1) with q | q
          · exfalso
            have q : p ∈ al := q
            rw [← e] at q
            obtain ⟨j, hj⟩ := List.mem_iff_getElem?.mp q
            have hjm : j < m := by
              have := (List.getElem?_eq_some_iff.mp hj).1
              rw [List.length_take] at this
              omega
            rw [List.getElem?_take_of_lt hjm] at hj
            have := nodup_get S.nod hj h1
            omega
          · exact q
        | _ => cases h
  | f xs =>
    cases (Option.some.inj h : FR.f xs = fr)
    exact rr
  | g xs => cases h
theorem runD_len {d : Df} {sc : Scope} {n : Nat} {body : List Stmt} {np : Nat} {l : List Arg} {r : Rs FR × List MO} (h : runD d sc n body np l = some r) : l.length = np := by
  unfold runD at h
  by_cases c : (l.length = np && (objsOf l).length = d.m && np ≤ d.N.length) = true
  · simp only [Bool.and_eq_true, decide_eq_true_eq] at c
    exact c.1.1
  · rw [if_neg c] at h
    cases h
theorem runD_nox {d : Df} {sc : Scope} {n : Nat} {body : List Stmt} {np : Nat} (l : List Arg) (x : Xn) (os : List MO) : runD d sc n body np l ≠ some (.ex x, os) := fun h => by
  unfold runD at h
  split at h
  · split at h
    · cases h
    · split at h <;> cases h
    · cases h
  · cases h
theorem def_ok {x qual : Str} {st : Stmt} {f : Addr} {fd : FuncData} {ps : List Str} {k n : Nat} {d : Df} (T : Top P w K mg base d.G k) (F : Fun K x qual st f fd) (S : FnScope d.N ps (defScope st)) : FnG P w K mg base (k + 1) f fd ps (spF K ps.length (runD d (defScope st) n (defBody st) ps.length)) := by
  obtain ⟨oc, od, kV, doc, pm, an, cdv, ct, osl, rfl, lk, hcd⟩ := F.ex
  have len : ∀ vs H Q E, spF K ps.length (runD d (defScope st) n (defBody st) ps.length) vs H Q E → vs.length = ps.length := by
    rintro vs H Q E ⟨B, al, args, _, _, r, hl, _⟩
    rw [r.len, hl]
  refine ⟨len, fun A outer s H args us vs Q E hr hg e0 hb r hsp => ?_⟩
  have hl := len _ _ _ _ hsp
  have KX : K.In s.heap := e0.mod.kin.keeps fun b o e => (e0.bs b o e).1
  have lim : s.heap.NoLimit := e0.mod.nolimit.keeps fun b o e => (e0.bs b o e).1
  have hkind : ∀ y ∈ ps.zip us, (defScope st).names.lookup y.1 = some .local ∨ ((defScope st).names.lookup y.1 = some .cell ∧ ((cellsFrom (s.heap.objs.size + 1) (defScope st).names []).lookup y.1).isSome = true) := fun ⟨n, v⟩ hy => by
    rcases S.par n (List.of_mem_zip hy).1 with q | q
    · exact .inl q
    · exact .inr ⟨q, PySem.W.cellsFrom_some _ _ _ (.inl q)⟩
  refine codeAny_call_function hr.depth (KX _ _ lk) rfl S.co S.gen rfl (PySem.W.codeRec_of KX hcd) (hb _ _ _ _ ?_)
  refine wpAny_newFunctionEnv_cells S.kind hkind fun env he s1 x => ?_
  subst he
  refine ⟨lim.keeps x.toInCall.keep, codeAny_func ?_⟩
  let X : Cx := cxOf CX0 P w K mg base d.N qual (defScope st) f cdv A outer s H E
  have ok : Ok X.nox d.G d.N k (defScope st) := ⟨rfl, rfl, S.nd, rfl, T.cst, T.free, ⟨T.fn⟩, hr.deeper _, hg⟩
  have hbody := ((stmts ok (lok_of rfl fun _ => rfl) PassesOwn.never n).2 (defBody st)).nox
  have I : Inv X [] (start d.N vs) H s1 := inv_start S hr.hd e0 hl r x
  have hq : TSt K d.m (exB d (defScope st) n (defBody st)) { nx := fun _ H' => Q .non H', rt := Q } (start d.N vs) H := by
    obtain ⟨B, al, as, hs, nd, ra, hlen, hm⟩ := hsp
    cases hf : runD d (defScope st) n (defBody st) ps.length as with
    | none => rw [hf] at hm; exact hm.elim
    | some q =>
      rw [hf] at hm
      unfold runD at hf
      by_cases c : (as.length = ps.length && (objsOf as).length = d.m && ps.length ≤ d.N.length) = true
      · rw [if_pos c] at hf
        simp only [Bool.and_eq_true, decide_eq_true_eq] at c
        have hal : al.length = d.m := by rw [ra.objs.len]; exact c.1.2
        refine ⟨⟨B, al⟩, ⟨envOf 0 as ++ List.replicate (d.N.length - ps.length) none, objsOf as⟩, start_sim hs nd ra hlen, ?_⟩
        unfold wpM
        cases he : exB d (defScope st) n (defBody st) ⟨envOf 0 as ++ List.replicate (d.N.length - ps.length) none, objsOf as⟩ with
        | none => rw [he] at hf; cases hf
        | some z =>
          obtain ⟨z1, s'⟩ := z
          rw [he] at hf
          cases z1 with
          | ex e => cases hf
          | ok fl =>
            cases fl with
            | nx =>
              cases (Option.some.inj hf : (Rs.ok (FR.d .none), s'.L.take d.m) = q)
              intro σ' W' H' st' S'
              obtain ⟨a, b⟩ := out_ok hal st' S'
              exact hm .non W'.B H' a S'.sub b .non
            | rt rv =>
              simp only at hf
              cases hr : rtO d.m rv s'.L with
              | none => rw [hr] at hf; cases hf
              | some fr =>
                rw [hr] at hf
                cases (Option.some.inj hf : (Rs.ok fr, s'.L.take d.m) = q)
                intro σ' v W' H' st' S' rr
                obtain ⟨a, b⟩ := out_ok hal st' S'
                exact hm v W'.B H' a S'.sub b (out_rt hal st' S' rr hr)
            | bk => cases hf
            | ct => cases hf
      · rw [if_neg c] at hf
        cases hf
  refine wpAny_mono (hbody.run [] s1 (start d.N vs) H _ I hq) (fun fl s' hs => ?_) fun e s' hs => hs
  have fin : ∀ {σ' : L2.St} {H' : Hp} {v : V} {u : Value}, Inv X [] σ' H' s' → RelV v u → Q v H' → CE outer P w H s Q u s' :=
    fun {σ' H' v u} J rv q => ⟨v, H', J.os, J.bare, J.base, J.hok, rv, q⟩
  cases fl with
  | ret u =>
    obtain ⟨v, σ', H', J, rv, q⟩ := hs
    exact fin J rv q
  | next =>
    obtain ⟨σ', H', J, q⟩ := hs
    exact fin (v := V.non) (u := Value.none) J rfl q
  | brk =>
    obtain ⟨_, _, _, q⟩ := hs
    exact False.elim q
  | cont =>
    obtain ⟨_, _, _, q⟩ := hs
    exact False.elim q
/-- one def more -/
def Mdl.add (G : Mdl) (x : Str) (md : List Bool) (ft : FT) : Mdl := { G with fn := fun y => if y == x then some (md, ft) else G.fn y }
theorem Top.add {x qual : Str} {st : Stmt} {f : Addr} {fd : FuncData} {ps : List Str} {k n : Nat} {d : Df} {md : List Bool} (T : Top P w K mg base d.G k) (F : Fun K x qual st f fd) (hm : mg x = some (.ref f)) (S : FnScope d.N ps (defScope st)) (hl : md.length = ps.length)
    (hb : Binds K fd ps []) : Top P w K mg base (d.G.add x md (runD d (defScope st) n (defBody st) ps.length)) (k + 1) := by
  refine ⟨T.cst, T.free, fun y md' ft h => ?_⟩
  have h : (if y == x then some (md, runD d (defScope st) n (defBody st) ps.length) else d.G.fn y) = some (md', ft) := h
  cases e : y == x with
  | true =>
    rw [e, if_pos rfl] at h
    cases h
    cases eq_of_beq e
    exact ⟨f, fd, ps, hm, F.kp, hb, by rw [hl]; exact def_ok T F S, fun l r q => (runD_len q).trans hl.symm, fun l y os => runD_nox l y os⟩
  | false =>
    rw [e, if_neg Bool.false_ne_true] at h
    obtain ⟨f', fd', ps', h1, h2, h3, h4, h5⟩ := T.fn y md' ft h
    exact ⟨f', fd', ps', h1, h2, h3, h4.up (Nat.le_succ k), h5⟩
end
end Pd

set_option Elab.async false
set_option linter.all false
set_option maxRecDepth 100000
set_option maxHeartbeats 4000000
/-! The law's own call. -/
namespace Pd
open PySem PySem.Spec PyProof.Rows L2
/-- nothing is tracked but the script, and it only where it is not the module's own -/
def scrH (K : PySem.W.Frag) (a : Addr) (o : Obj) (xs : List V) : Hp := fun b => if b = a ∧ (K.lookup a).isNone = true then some (.frz o (.lst xs)) else none
theorem scrH_some {K : PySem.W.Frag} {a b : Addr} {o : Obj} {xs : List V} {u : HO} (h : scrH K a o xs b = some u) : b = a ∧ K.lookup a = none ∧ u = .frz o (.lst xs) := by
  unfold scrH at h
  split at h
  · rename_i q
    exact ⟨q.1, Option.isNone_iff_eq_none.mp q.2, (Option.some.inj h).symm⟩
  · cases h
theorem law_end {P : Program} {w : World} {K : PySem.W.Frag} {mg mb : Str → Option Value} {k : Nat} {fa a : Addr} {fd : FuncData} {x : Str} {ft : FT} {t : Shared} {vs : List Value} {ns : List Int}
    (KX : K.In t.heap) (hns : t.heap.Ns mainGlobals mg) (hb : t.heap.Ns builtinsNs mb) (hbb : ∀ x : Str, x ≠ "__name__" → mb x = bootBuiltins x) (hlim : t.heap.NoLimit) (hg : t.gens = #[])
    (ha : t.heap.get? a = some { cls := .type "list", data := .seq vs.toArray }) (hi : IntsAre vs ns) (hl : ns.length ≤ sizeLine) (hr : Room k callerA) (hgd : callerA.guards = some [])
    (F : ∀ base : Heap, K.In base → base.Ns mainGlobals mg → FnG P w K mg base k fa fd [x] (spF K 1 ft)) (hbind : BindsTo t fd ⟨[.ref a], []⟩ [(x, .ref a)])
    (hft : ft [.d (.list (ns.map PyData.int))] = some (.ok (.d (.bool true)), [])) :
    codeAny (model P w) callerA (.call (.ref fa) ⟨[.ref a], []⟩) (fun r s' => r = .ok (.ret (.bool true)) ∧ OldK t.heap s'.heap ∧ s'.os = t.os ∧ AllBare s'.gens) t := by
  have rv := vals_ints hi
  have lenV := hi.length
  generalize ho : ({ cls := .type "list", data := .seq vs.toArray } : Obj) = o at ha
  let H : Hp := scrH K a o (ns.map V.int)
  have base_of : ∀ {b : Addr} {u : Obj}, t.heap.get? b = some u → H b = none → (hidT t.heap H).get? b = some u := fun e n => hidT_get e n
  have hok : HOk P w H t.heap := fun b u e => by
    obtain ⟨rfl, _, rfl⟩ := scrH_some e
    subst ho
    exact ⟨ha, by rw [List.length_map]; exact hl, vs, _, rv, ha⟩
  have hS : SqL K H a (ns.map V.int) := by
    cases hk : K.lookup a with
    | none => exact .inl (.inr ⟨o, if_pos ⟨rfl, by rw [hk]; rfl⟩⟩)
    | some u =>
      have e := KX a u hk
      rw [ha] at e
      cases e
      subst ho
      exact .inr ⟨_, vs.toArray, _, hk, rfl, rfl, rfl, by rw [List.size_toArray, lenV]; exact hl, by simpa using rv⟩
  have free : ∀ {b : Addr} {u : Obj} {es : Array DictEntry} {ep : Nat}, t.heap.get? b = some u → u.data = .dict es ep → H b = none := fun {b u es ep} e d => by
    cases q : H b with
    | none => rfl
    | some z =>
      obtain ⟨rfl, _, _⟩ := scrH_some q
      rw [ha] at e
      cases e
      subst ho
      cases (show Data.seq vs.toArray _ = Data.dict es ep from d)
  have nsK : ∀ {b : Addr} {m : Str → Option Value}, t.heap.Ns b m → (hidT t.heap H).Ns b m := fun {b m} ⟨u, es, ep, e, d, r⟩ => ⟨u, es, ep, base_of e (free e d), d, r⟩
  have hKb : K.In (hidT t.heap H) := fun b u e => base_of (KX b u e) (by
    cases q : H b with
    | none => rfl
    | some z =>
      obtain ⟨rfl, hn, _⟩ := scrH_some q
      rw [hn] at e
      cases e)
  have hM : Mod K mg (hidT t.heap H) := ⟨hKb, nsK hns, ⟨mb, nsK hb, hbb⟩, let ⟨mc, h1, h2⟩ := hlim; ⟨mc, nsK h1, h2⟩⟩
  have e0 : Env0 P w K mg (hidT t.heap H) callerA [] t H := ⟨rfl, hM, fun b u e => of_hidT e, Nat.le_of_eq (hidT_size _ _), trivial, (fun b hb => nomatch hb), hok, .of_eq hg⟩
  have arg : ∀ (ms : List Int), Dqs K H (ms.map V.int) (ms.map PyData.int) := fun ms => by
    induction ms with
    | nil => exact .nil
    | cons m r ih => exact .cons (.int m) ih
  have sp : spF K 1 ft [.ref a] H (fun v _ => v = .bl true) E0 := by
    refine ⟨H, [], [.d (.list (ns.map PyData.int))], .rfl', List.nodup_nil, .d (.lst hS (arg ns)) .nil, rfl, ?_⟩
    rw [hft]
    intro v B' H' _ _ _ fr
    have fr : Dq K B' v (.bool true) := fr
    cases fr
    rfl
  refine codeAny_mono ((F _ hKb (nsK hns)).goes callerA [] t H ⟨[.ref a], []⟩ [.ref a] [.ref a] _ _ hr hgd e0 hbind (.cons rfl .nil) sp) fun r s' h => ?_
  match r, h with
  | .error e, h => exact h.elim
  | .ok .next, h => exact h.elim
  | .ok .brk, h => exact h.elim
  | .ok .cont, h => exact h.elim
  | .ok (.ret u), h =>
    obtain ⟨v, H', os, bare, un, hok', r', q⟩ := h
    cases (show v = .bl true from q)
    obtain rfl : u = Value.bool true := r'
    refine ⟨rfl, OldK.of_keep fun b u e => ?_, os, bare⟩
    cases q : H b with
    | none => exact un.keep b u e q (fun z => nomatch z) (by simp)
    | some z =>
      obtain ⟨rfl, _, rfl⟩ := scrH_some q
      obtain ⟨e2, _⟩ := hok' b _ (un.frzs b o _ q)
      rw [ha] at e
      cases e
      exact e2
/-- the row's walk, by what the law's def does over data -/
theorem walk_data {l : PySem.W.OpenLaw} {n k : Nat} {q : Program} {loose : List Str} {XP : (Str → Option Value) → Heap → Prop} {YP : World → Heap → Prop} {d : DefRec} {K : Params → PySem.W.Frag} {x : Str} {ft : FT}
    (hn : l.most = some n) (hn2 : n ≤ sizeLine) (hdf : d.params.defaults = []) (hr : Room k callerA) (hgd : callerA.guards = some []) (hY : ∀ (w : World) (h : Heap), YP w h → (K w.params).In h)
    (F : ∀ (w : World) (mg : Str → Option Value) (fa : Addr) (h : Heap), (K w.params).In h → h.Ns mainGlobals mg → mg d.name = some (.ref fa) →
      ∃ fd : FuncData, (∀ (s : Shared) (u : Value), BindsTo s fd ⟨[u], []⟩ [(x, u)]) ∧ ∀ base : Heap, (K w.params).In base → base.Ns mainGlobals mg → FnG l.prog w (K w.params) mg base k fa fd [x] (spF (K w.params) 1 ft))
    (hft : ∀ ns : List Int, ns.length ≤ n → ft [.d (.list (ns.map PyData.int))] = some (.ok (.d (.bool true)), [])) : PySem.W.WalkO q loose XP YP l.row.toRowW d [] (fun f vs => PySem.call f vs) := by
  refine Att.attach_call hn hdf fun w s0 s1 mg mb fa o pm cd doc a vs ns G Y ho hd hcd hmg hobj hints hlen hg => ?_
  have KX := hY w _ Y
  obtain ⟨fd, hb, hF⟩ := F w mg fa _ KX G.T.g hmg
  exact law_end KX G.T.g G.T.b G.T.builtins G.T.nolimit hg hobj hints (Nat.le_trans hlen hn2) hr hgd hF (hb s1 (.ref a)) (hft ns hlen)
end Pd

set_option Elab.async false
set_option linter.all false
set_option maxRecDepth 100000
/-! Defs that call themselves: by how deep they do. -/
namespace Pd
open PySem L2
theorem Mdl.add_add (G : Mdl) (x : Str) (md md' : List Bool) (f g : FT) : (G.add x md f).add x md' g = G.add x md' g := by
  unfold Mdl.add
  congr 1
  funext y
  show (if y == x then some (md', g) else if y == x then some (md, f) else G.fn y) = if y == x then some (md', g) else G.fn y
  split <;> rfl
section
variable {P : Program} {w : World} {K : PySem.W.Frag} {mg : Str → Option Value} {base : Heap} {G : Mdl}
/-- nothing may call it yet -/
def none0 : FT := fun _ => none
theorem Top.zero {x qual : Str} {st : Stmt} {f : Addr} {fd : FuncData} {ps : List Str} {k : Nat} {md : List Bool} (T : Top P w K mg base G k) (F : Fun K x qual st f fd) (hm : mg x = some (.ref f)) (hl : md.length = ps.length)
    (hb : Binds K fd ps []) : Top P w K mg base (G.add x md none0) k := by
  refine ⟨T.cst, T.free, fun y md' ft h => ?_⟩
  have h : (if y == x then some (md, none0) else G.fn y) = some (md', ft) := h
  cases e : y == x with
  | true =>
    rw [e, if_pos rfl] at h
    cases h
    cases eq_of_beq e
    refine ⟨f, fd, ps, hm, F.kp, hb, ⟨fun vs H Q E ⟨B, al, args, _, _, _, _, z⟩ => z.elim, fun A outer s H args us vs Q E _ _ _ _ _ ⟨B, al, args, _, _, _, _, z⟩ => z.elim⟩, fun l r q => (nomatch q), fun l y os q => nomatch q⟩
  | false =>
    rw [e, if_neg Bool.false_ne_true] at h
    exact T.fn y md' ft h
/-- one call deeper -/
theorem Top.grow {x qual : Str} {st : Stmt} {f : Addr} {fd : FuncData} {ps : List Str} {k n : Nat} {d : Df} {md : List Bool} {ft : FT} (e : d.G = G.add x md ft) (T : Top P w K mg base d.G k) (F : Fun K x qual st f fd) (hm : mg x = some (.ref f)) (S : FnScope d.N ps (defScope st)) (hl : md.length = ps.length)
    (hb : Binds K fd ps []) : Top P w K mg base (G.add x md (runD d (defScope st) n (defBody st) ps.length)) (k + 1) := by
  have := Top.add (n := n) T F hm S hl hb
  rw [e, Mdl.add_add] at this
  exact this
end
end Pd

set_option Elab.async false
set_option linter.all false
set_option maxRecDepth 100000
/-! Pieces that a body's reading is told in. -/
namespace Pd
open PySem L2
/-- the name in slot i -/
def nm (i : Nat) : M RV := fun s => match s.env[i]? with
  | some (some c) => some (.ok (.c c), s)
  | _ => none
def cst (d : D) : M RV := fun s => some (.ok (.c (.d d)), s)
def tupM (m : Nat) (l : List (M RV)) : M RV := M.bind (seqM (l.map (asD m))) fun ds => if fits ds.length then ret (.tuple ds) else M.fail
def lstM (m : Nat) (l : List (M RV)) : M RV := M.bind (seqM (l.map (asD m))) fun ds => if fits ds.length then M.pure (.f ds) else M.fail
def notM (a : M RV) : M RV := M.bind (M.bind a boolM) fun b => ret (.bool (!b))
def negM (a : M RV) : M RV := M.bind (M.bind a intM) fun i => ret (.int (-i))
def iteM (t : M Bool) (a b : M RV) : M RV := M.bind t fun c => ifRV c a b
def lcM (m : Nat) (vs : List Nat) (tg : D → M Unit) (test : M Bool) (elt : M RV) (it : M (List D)) : M RV := M.bind it fun items => compM m vs tg test elt items
def defM (m : Nat) (md : List Bool) (ft : FT) (as : List (M RV)) : M RV := M.bind (argsM m md as) fun vs => callM ft vs
def lrgM (as : List (M RV)) : M RV := M.bind (rangeM as) fun xs => if fits xs.length then M.pure (.f xs) else M.fail
def notT (t : M Bool) : M Bool := M.bind t fun b => M.pure (!b)
def valT (a : M RV) : M Bool := M.bind a boolM
def zipM (m : Nat) (as : List (M RV)) : M (List D) := M.bind (seqM (as.map (asD m))) fun ds => optM (zipO ds)
def enumM (m : Nat) (as : List (M RV)) : M (List D) := M.bind (seqM (as.map (asD m))) fun ds => optM (enumO ds)
def tgN (i : Nat) (x : D) : M Unit := setEnv fun e => e.set i (some (.d x))
def tgS (ts : List (D → M Unit)) (x : D) : M Unit := match x with
  | .tuple xs => if xs.length == ts.length then eachT ts xs else M.fail
  | .list xs => if xs.length == ts.length then eachT ts xs else M.fail
  | _ => M.fail
def setS (m : Nat) (own : Bool) (i : Nat) (a : M RV) : M Fl := okF (M.bind (chk m a) (stoN m own i))
/-- {} -/
def newD : M RV := M.pure (.g [])
def itemS (m : Nat) (e o i : M RV) : M Fl := okF (chk m (stoS m e o i))
def unpS (m : Nat) (ts : List (D → M Unit)) (a : M RV) : M Fl := okF (M.bind (chk m (asD m a)) (tgS ts))
def exprS (m : Nat) (a : M RV) : M Fl := okF (M.bind (chk m a) fun _ => M.pure ())
def retS (m : Nat) (a : M RV) : M Fl := M.bind (chk m a) (retM m)
def ifS (m : Nat) (t : M Bool) (a b : M Fl) : M Fl := M.bind (chk m t) fun c => if c then a else b
def forS (m : Nat) (tg : D → M Unit) (it : M (List D)) (b : M Fl) : M Fl := M.bind (chk m it) fun items => forL tg b items
def whileS (m : Nat) (t : M Bool) (b : M Fl) (n : Nat) : M Fl := whileL (chk m t) b n
def blkS : List (M Fl) → M Fl
  | [] => M.pure .nx
  | a :: r => seqF a (blkS r)
end Pd

set_option Elab.async false
set_option linter.all false
set_option maxRecDepth 100000
/-! Stepping through a reading. -/
namespace Pd
open PySem L2
theorem bind_ok {α β : Type} {m : M α} {f : α → M β} {s s1 : PSt} {a : α} (h : m s = some (.ok a, s1)) : M.bind m f s = f a s1 := by
  unfold M.bind
  rw [h]
theorem blk_nx {a : M Fl} {r : List (M Fl)} {s s1 : PSt} (h : a s = some (.ok .nx, s1)) : blkS (a :: r) s = blkS r s1 := by
  show seqF a (blkS r) s = _
  unfold seqF
  rw [bind_ok h]
theorem blk_rt {a : M Fl} {r : List (M Fl)} {s s1 : PSt} {v : RV} (h : a s = some (.ok (.rt v), s1)) : blkS (a :: r) s = some (.ok (.rt v), s1) := by
  show seqF a (blkS r) s = _
  unfold seqF
  rw [bind_ok h]
  rfl
theorem chk_ok {α : Type} {m : Nat} {b : M α} {s s1 : PSt} {a : α} (h : b s = some (.ok a, s1)) (hm : m ≤ s1.L.length) : chk m b s = some (.ok a, s1) := by
  unfold chk
  rw [bind_ok h, if_pos hm]
theorem if_of {m : Nat} {t : M Bool} {x y : M Fl} {s s1 : PSt} {b : Bool} (h : t s = some (.ok b, s1)) (hm : m ≤ s1.L.length) : ifS m t x y s = (if b then x else y) s1 := bind_ok (chk_ok h hm)
theorem asC_c {m : M RV} {s s1 : PSt} {c : C} (h : m s = some (.ok (.c c), s1)) : asC m s = some (.ok c, s1) := bind_ok (f := toC) h
theorem asC_f {m : M RV} {s s1 : PSt} {xs : List D} (h : m s = some (.ok (.f xs), s1)) : asC m s = some (.ok (.d (.list xs)), s1) := bind_ok (f := toC) h
theorem rd_ok {c : C} {s : PSt} {x : D} (h : rdD s c = some x) : rdM c s = some (.ok x, s) := by
  unfold rdM
  rw [h]
theorem bin_at {op : Operator} {a b : M RV} {s s1 s2 : PSt} {c1 c2 : C} {x y : D} {o : OpO} (ha : asC a s = some (.ok c1, s1)) (hb : asC b s1 = some (.ok c2, s2)) (hx : rdD s2 c1 = some x) (hy : rdD s2 c2 = some y) (ho : binO op x y = some o) : binM op a b s = some (.ok o.rv, s2) := by
  unfold binM
  rw [bind_ok ha, bind_ok hb, bind_ok (rd_ok hx), bind_ok (rd_ok hy), ho]
  rfl
theorem cmp_at {op : CmpOp} {a b : M RV} {s s1 s2 : PSt} {c1 c2 : C} {x y : D} {o : Bool} (ha : asC a s = some (.ok c1, s1)) (hb : asC b s1 = some (.ok c2, s2)) (hx : rdD s2 c1 = some x) (hy : rdD s2 c2 = some y) (ho : cmpO op x y = some o) : cmpM op a b s = some (.ok (.c (.d (.bool o))), s2) := by
  unfold cmpM
  rw [bind_ok ha, bind_ok hb, bind_ok (rd_ok hx), bind_ok (rd_ok hy), ho]
  rfl
theorem ix_at {a b : M RV} {s s1 s2 : PSt} {c1 c2 : C} {x y z : D} (ha : asC a s = some (.ok c1, s1)) (hb : asC b s1 = some (.ok c2, s2)) (hx : rdD s2 c1 = some x) (hy : rdD s2 c2 = some y) (ho : ixO x y = some z) : ixM a b s = some (.ok (.c (.d z)), s2) := by
  unfold ixM
  rw [bind_ok ha, bind_ok hb, bind_ok (rd_ok hx), bind_ok (rd_ok hy), ho]
  rfl
theorem val_at {a : M RV} {s s1 : PSt} {b : Bool} (h : a s = some (.ok (.c (.d (.bool b))), s1)) : valT a s = some (.ok b, s1) := bind_ok (f := boolM) h
theorem not_at {t : M Bool} {s s1 : PSt} {b : Bool} (h : t s = some (.ok b, s1)) : notT t s = some (.ok (!b), s1) := bind_ok (f := fun b => M.pure (!b)) h
theorem set_c {m i : Nat} {own : Bool} {a : M RV} {s s1 : PSt} {c : C} (h : a s = some (.ok (.c c), s1)) (hm : m ≤ s1.L.length) : setS m own i a s = some (.ok .nx, ⟨s1.env.set i (some c), gc m (s1.env.set i (some c)) s1.L⟩) := by
  unfold setS okF
  have e : M.bind (chk m a) (stoN m own i) s = some (.ok (), ⟨s1.env.set i (some c), gc m (s1.env.set i (some c)) s1.L⟩) := bind_ok (f := stoN m own i) (chk_ok h hm)
  rw [bind_ok e]
  rfl
theorem ret_c {m : Nat} {a : M RV} {s s1 : PSt} {d : D} (h : a s = some (.ok (.c (.d d)), s1)) (hm : m ≤ s1.L.length) : retS m a s = some (.ok (.rt (.c (.d d))), s1) := bind_ok (f := retM m) (chk_ok h hm)
theorem allT_cons {t : M Bool} {r : List (M Bool)} {s s1 : PSt} {b : Bool} (h : t s = some (.ok b, s1)) : allT (t :: r) s = (if b then allT r else M.pure false) s1 := by
  show M.bind t _ s = _
  rw [bind_ok h]
theorem anyT_cons {t : M Bool} {r : List (M Bool)} {s s1 : PSt} {b : Bool} (h : t s = some (.ok b, s1)) : anyT (t :: r) s = (if b then M.pure true else anyT r) s1 := by
  show M.bind t _ s = _
  rw [bind_ok h]
theorem fzR_d {m : Nat} {a : M RV} {s s1 : PSt} {d : D} (h : a s = some (.ok (.c (.d d)), s1)) : asD m a s = some (.ok d, s1) := bind_ok (f := fzR m) h
theorem intM_at {a : M RV} {s s1 : PSt} {i : Int} (h : a s = some (.ok (.c (.d (.int i))), s1)) : M.bind a intM s = some (.ok i, s1) := bind_ok (f := intM) h
/-- a list's item is written -/
theorem item_at {m k : Nat} {e o i : M RV} {s s1 s2 s3 : PSt} {x : D} {j : Int} {L : List MO} (he : asD m e s = some (.ok x, s1)) (ho : M.bind o optrM s1 = some (.ok k, s2)) (hi : asC i s2 = some (.ok (.d (.int j)), s3)) (h : stoO s3.L k (.int j) x = some L) (hm : m ≤ L.length) :
    itemS m e o i s = some (.ok .nx, ⟨s3.env, L⟩) := by
  have e1 : stoS m e o i s = some (.ok (), ⟨s3.env, L⟩) := by
    unfold stoS
    rw [bind_ok he, bind_ok ho, bind_ok hi]
    rw [bind_ok (show rdM (.d (.int j)) s3 = some (.ok (.int j), s3) from rfl)]
    unfold setL
    simp only [h]
  unfold itemS okF
  rw [bind_ok (chk_ok e1 hm)]
  rfl
theorem mod_ok {i j : Int} (h : 0 < j) : binO .Mod (.int i) (.int j) = some (.d (.int (i % j))) := by
  unfold binO
  simp only [decide_eq_true h, if_true]
theorem div_ok {i j : Int} (h : 0 < j) (h2 : j < 1073741824) : binO .FloorDiv (.int i) (.int j) = some (.d (.int (i / j))) := by
  unfold binO
  simp only [decide_eq_true (show 0 < j ∧ j.natAbs < 1073741824 from ⟨h, by omega⟩), if_true]
theorem mul_ok {i j : Int} (h : big i = true ∨ big j = true) : binO .Mult (.int i) (.int j) = some (.d (.int (i * j))) := by
  unfold binO
  have : (big i || big j) = true := Bool.or_eq_true_iff.mpr h
  simp only [this, if_true]
end Pd

set_option Elab.async false
set_option linter.all false
set_option maxRecDepth 100000
/-! The draws of a law. -/
namespace Pd
open PySem L2
def drawB : M Fl := blkS [itemS 1 (binM .Add (ixM (nm 0) (ret (.int 3))) (ret (.int 1))) (nm 0) (ret (.int 3)),
  ifS 1 (valT (cmpM .Gt (ixM (nm 0) (ret (.int 2))) (ret (.int 0)))) (blkS [setS 1 false 4 (binM .Mod (ixM (nm 0) (ret (.int 2))) (nm 1)),
    itemS 1 (binM .FloorDiv (ixM (nm 0) (ret (.int 2))) (nm 1)) (nm 0) (ret (.int 2)),
    retS 1 (nm 4)]) (blkS []),
  setS 1 false 2 (ret (.int 5)),
  ifS 1 (valT (cmpM .NotEq (ixM (nm 0) (ret (.int 0))) (lstM 1 []))) (blkS [setS 1 false 2 (ixM (ixM (nm 0) (ret (.int 0))) (binM .Mod (ixM (nm 0) (ret (.int 1))) (bltM .len [ixM (nm 0) (ret (.int 0))])))]) (blkS []),
  itemS 1 (binM .Add (ixM (nm 0) (ret (.int 1))) (ret (.int 1))) (nm 0) (ret (.int 1)),
  ifS 1 (allT [valT (cmpM .GtE (nm 2) (binM .Pow (ret (.int 10)) (ret (.int 18)))), valT (cmpM .LtE (ixM (nm 0) (ret (.int 1))) (bltM .len [ixM (nm 0) (ret (.int 0))]))]) (blkS [itemS 1 (binM .FloorDiv (nm 2) (nm 1)) (nm 0) (ret (.int 2)),
    retS 1 (binM .Mod (nm 2) (nm 1))]) (blkS []),
  setS 1 false 3 (binM .Mod (binM .Mult (binM .Add (binM .Mod (nm 2) (ret (.int 998244353))) (binM .Mult (ret (.int 5003)) (ixM (nm 0) (ret (.int 3))))) (ret (.int 69621))) (ret (.int 2147483629))),
  setS 1 false 3 (binM .Mod (binM .Mult (binM .Add (binM .FloorDiv (nm 3) (ret (.int 13))) (binM .Mult (binM .Mult (ret (.int 7919)) (ixM (nm 0) (ret (.int 3)))) (ixM (nm 0) (ret (.int 3))))) (ret (.int 48271))) (ret (.int 2147483587))),
  retS 1 (binM .Mod (binM .FloorDiv (nm 3) (ret (.int 64))) (nm 1))]
theorem canLay_ints : ∀ ns : List Int, PyData.canLayAll0 (ns.map PyData.int) = true
  | [] => rfl
  | _ :: r => canLay_ints r
theorem depth_ints : ∀ ns : List Int, PyData.depthAll (ns.map PyData.int) = 0
  | [] => rfl
  | _ :: r => by
    show max 0 (PyData.depthAll (r.map PyData.int)) = 0
    rw [depth_ints r]
    rfl
theorem shaped_ints (ns : List Int) : SeqAt.shaped (.list (ns.map PyData.int)) = true := by
  unfold SeqAt.shaped
  refine Bool.and_eq_true_iff.mpr ⟨canLay_ints ns, decide_eq_true ?_⟩
  show PyData.depthAll (ns.map PyData.int) + 1 ≤ 64
  rw [depth_ints]
  decide
theorem neq_nil (n : Int) (r : List Int) : cmpO .NotEq (.list ((n :: r).map PyData.int)) (.list []) = some true := by
  show (eqO _ _).map (!·) = _
  unfold eqO
  rw [shaped_ints]
  rfl
/-- the feed's state while a draw goes on -/
abbrev drS (ns : List Int) (a l c m : Int) (x y z : Option C) : PSt := ⟨[some (.r 0), some (.d (.int m)), x, y, z], [.lst [.list (ns.map PyData.int), .int a, .int l, .int c]]⟩
theorem at_int {ns : List Int} {i : Int} (h : 0 ≤ i) (h2 : i < ns.length) : ∃ n, ixO (.list (ns.map PyData.int)) (.int i) = some (.int n) := by
  show ∃ n, atI (ns.map PyData.int) i = some (.int n)
  unfold atI ixN
  rw [if_pos h, if_pos (by rw [List.length_map]; exact h2)]
  have hl : i.toNat < ns.length := by omega
  refine ⟨ns[i.toNat], ?_⟩
  show (ns.map PyData.int)[i.toNat]? = _
  rw [List.getElem?_map, List.getElem?_eq_getElem hl]
  rfl
theorem draw_ok (ns : List Int) (a l c m : Int) (ha : 0 ≤ a) (hl : 0 ≤ l) (hm : 0 < m) (hm2 : m < 1073741824) (hc : 0 ≤ c) (hc2 : c < 2 ^ 60) :
    ∃ r a' l' env, drawB (drS ns a l c m none none none) = some (.ok (.rt (.c (.d (.int r)))), ⟨env, [.lst [.list (ns.map PyData.int), .int a', .int l', .int (c + 1)]]⟩) ∧ 0 ≤ r ∧ r < m ∧ 0 ≤ a' ∧ 0 ≤ l' := by
  unfold drawB
  rw [blk_nx (s1 := drS ns a l (c + 1) m none none none) (by kernel_rfl)]
  by_cases h : 0 < l
  · refine ⟨l % m, a, l / m, [some (.r 0), some (.d (.int m)), none, none, some (.d (.int (l % m)))], ?_, Int.emod_nonneg _ (by omega), Int.emod_lt_of_pos _ hm, ha, Int.ediv_nonneg hl (by omega)⟩
    refine blk_rt ((if_of (b := decide (0 < l)) (s1 := drS ns a l (c + 1) m none none none) (by kernel_rfl) (Nat.le_refl _)).trans ?_)
    rw [decide_eq_true h, if_pos rfl]
    rw [blk_nx (s1 := drS ns a l (c + 1) m none none (some (.d (.int (l % m))))) ?_]
    · rw [blk_nx (s1 := drS ns a (l / m) (c + 1) m none none (some (.d (.int (l % m))))) ?_]
      · exact blk_rt (by kernel_rfl)
      · exact item_at (k := 0) (x := .int (l / m)) (j := 2) (s1 := drS ns a l (c + 1) m none none (some (.d (.int (l % m))))) (s2 := drS ns a l (c + 1) m none none (some (.d (.int (l % m))))) (s3 := drS ns a l (c + 1) m none none (some (.d (.int (l % m))))) (fzR_d (bin_at (o := .d (.int (l / m))) (c1 := .d (.int l)) (c2 := .d (.int m)) (x := .int l) (y := .int m) (s1 := drS ns a l (c + 1) m none none (some (.d (.int (l % m))))) (by kernel_rfl) (by kernel_rfl) rfl rfl (div_ok hm hm2))) (by kernel_rfl) (by kernel_rfl) (by kernel_rfl) (Nat.le_refl _)
    · exact (set_c (s1 := drS ns a l (c + 1) m none none none) (c := .d (.int (l % m))) (bin_at (o := .d (.int (l % m))) (c1 := .d (.int l)) (c2 := .d (.int m)) (x := .int l) (y := .int m) (s1 := drS ns a l (c + 1) m none none none) (by kernel_rfl) (by kernel_rfl) rfl rfl (mod_ok hm)) (Nat.le_refl _)).trans (by kernel_rfl)
  · have no : ∀ x : M Fl, ifS 1 (valT (cmpM .Gt (ixM (nm 0) (ret (.int 2))) (ret (.int 0)))) x (blkS []) (drS ns a l (c + 1) m none none none) = some (.ok .nx, drS ns a l (c + 1) m none none none) := fun x => by
      refine (if_of (b := decide (0 < l)) (s1 := drS ns a l (c + 1) m none none none) (by kernel_rfl) (Nat.le_refl _)).trans ?_
      rw [decide_eq_false h, if_neg Bool.false_ne_true]
      rfl
    rw [blk_nx (no _)]
    rw [blk_nx (s1 := drS ns a l (c + 1) m (some (.d (.int 5))) none none) (by kernel_rfl)]
    -- the cell
    obtain ⟨n, hn⟩ : ∃ n : Int, ∀ r, blkS (ifS 1 (valT (cmpM .NotEq (ixM (nm 0) (ret (.int 0))) (lstM 1 []))) (blkS [setS 1 false 2 (ixM (ixM (nm 0) (ret (.int 0))) (binM .Mod (ixM (nm 0) (ret (.int 1))) (bltM .len [ixM (nm 0) (ret (.int 0))])))]) (blkS []) :: r) (drS ns a l (c + 1) m (some (.d (.int 5))) none none) = blkS r (drS ns a l (c + 1) m (some (.d (.int n))) none none) := by
      cases ns with
      | nil => exact ⟨5, fun r => blk_nx (by kernel_rfl)⟩
      | cons k ks =>
        have hlen : (0 : Int) < ((k :: ks).map PyData.int).length := by simp
        obtain ⟨n, hn⟩ := at_int (ns := k :: ks) (i := a % (((k :: ks).map PyData.int).length : Nat)) (Int.emod_nonneg _ (by omega)) (by
          have := Int.emod_lt_of_pos a hlen
          rw [List.length_map] at this ⊢
          exact this)
        refine ⟨n, fun r => blk_nx ?_⟩
        refine (if_of (b := true) (s1 := drS (k :: ks) a l (c + 1) m (some (.d (.int 5))) none none) (val_at (cmp_at (s1 := drS (k :: ks) a l (c + 1) m (some (.d (.int 5))) none none) (c1 := .d (.list ((k :: ks).map PyData.int))) (c2 := .d (.list [])) (x := .list ((k :: ks).map PyData.int)) (y := .list []) (by kernel_rfl) (by kernel_rfl) rfl rfl (neq_nil k ks))) (Nat.le_refl _)).trans ?_
        rw [if_pos rfl]
        refine (blk_nx (s1 := drS (k :: ks) a l (c + 1) m (some (.d (.int n))) none none) ?_).trans rfl
        refine (set_c (s1 := drS (k :: ks) a l (c + 1) m (some (.d (.int 5))) none none) (c := .d (.int n)) (ix_at (c1 := .d (.list ((k :: ks).map PyData.int))) (c2 := .d (.int (a % (((k :: ks).map PyData.int).length : Nat)))) (s1 := drS (k :: ks) a l (c + 1) m (some (.d (.int 5))) none none) (s2 := drS (k :: ks) a l (c + 1) m (some (.d (.int 5))) none none) (by kernel_rfl) (asC_c ?_) rfl rfl hn) (Nat.le_refl _)).trans (by kernel_rfl)
        exact bin_at (o := .d (.int (a % (((k :: ks).map PyData.int).length : Nat)))) (c1 := .d (.int a)) (c2 := .d (.int (((k :: ks).map PyData.int).length : Nat))) (s1 := drS (k :: ks) a l (c + 1) m (some (.d (.int 5))) none none) (by kernel_rfl) (by kernel_rfl) rfl rfl (mod_ok hlen)
    rw [hn]
    rw [blk_nx (s1 := drS ns (a + 1) l (c + 1) m (some (.d (.int n))) none none) (by kernel_rfl)]
    -- a great one
    have test : allT [valT (cmpM .GtE (nm 2) (binM .Pow (ret (.int 10)) (ret (.int 18)))), valT (cmpM .LtE (ixM (nm 0) (ret (.int 1))) (bltM .len [ixM (nm 0) (ret (.int 0))]))] (drS ns (a + 1) l (c + 1) m (some (.d (.int n))) none none) = some (.ok (decide (1000000000000000000 ≤ n) && decide (a + 1 ≤ ((ns.map PyData.int).length : Nat))), drS ns (a + 1) l (c + 1) m (some (.d (.int n))) none none) := by
      rw [allT_cons (s1 := drS ns (a + 1) l (c + 1) m (some (.d (.int n))) none none) (b := decide (1000000000000000000 ≤ n)) (by kernel_rfl)]
      cases decide (1000000000000000000 ≤ n) with
      | false => rfl
      | true =>
        rw [if_pos rfl, allT_cons (s1 := drS ns (a + 1) l (c + 1) m (some (.d (.int n))) none none) (b := decide (a + 1 ≤ ((ns.map PyData.int).length : Nat))) (by kernel_rfl)]
        cases decide (a + 1 ≤ ((ns.map PyData.int).length : Nat)) <;> rfl
    cases hb : decide (1000000000000000000 ≤ n) && decide (a + 1 ≤ ((ns.map PyData.int).length : Nat)) with
    | true =>
      rw [hb] at test
      have hn0 : 1000000000000000000 ≤ n := of_decide_eq_true (Bool.and_eq_true_iff.mp hb).1
      refine ⟨n % m, a + 1, n / m, [some (.r 0), some (.d (.int m)), some (.d (.int n)), none, none], blk_rt ((if_of test (Nat.le_refl _)).trans ?_), Int.emod_nonneg _ (by omega), Int.emod_lt_of_pos _ hm, by omega, Int.ediv_nonneg (by omega) (by omega)⟩
      · rw [if_pos rfl]
        rw [blk_nx (s1 := drS ns (a + 1) (n / m) (c + 1) m (some (.d (.int n))) none none) ?_]
        · exact blk_rt (ret_c (bin_at (o := .d (.int (n % m))) (c1 := .d (.int n)) (c2 := .d (.int m)) (x := .int n) (y := .int m) (s1 := drS ns (a + 1) (n / m) (c + 1) m (some (.d (.int n))) none none) (by kernel_rfl) (by kernel_rfl) rfl rfl (mod_ok hm)) (Nat.le_refl _))
        · exact item_at (k := 0) (x := .int (n / m)) (j := 2) (s1 := drS ns (a + 1) l (c + 1) m (some (.d (.int n))) none none) (s2 := drS ns (a + 1) l (c + 1) m (some (.d (.int n))) none none) (s3 := drS ns (a + 1) l (c + 1) m (some (.d (.int n))) none none) (fzR_d (bin_at (o := .d (.int (n / m))) (c1 := .d (.int n)) (c2 := .d (.int m)) (x := .int n) (y := .int m) (s1 := drS ns (a + 1) l (c + 1) m (some (.d (.int n))) none none) (by kernel_rfl) (by kernel_rfl) rfl rfl (div_ok hm hm2))) (by kernel_rfl) (by kernel_rfl) (by kernel_rfl) (Nat.le_refl _)
    | false =>
      rw [hb] at test
      have hbig : big (c + 1) = true := decide_eq_true (by omega)
      have no2 : ∀ x : M Fl, ifS 1 (allT [valT (cmpM .GtE (nm 2) (binM .Pow (ret (.int 10)) (ret (.int 18)))), valT (cmpM .LtE (ixM (nm 0) (ret (.int 1))) (bltM .len [ixM (nm 0) (ret (.int 0))]))]) x (blkS []) (drS ns (a + 1) l (c + 1) m (some (.d (.int n))) none none) = some (.ok .nx, drS ns (a + 1) l (c + 1) m (some (.d (.int n))) none none) := fun x => by
        refine (if_of test (Nat.le_refl _)).trans ?_
        rw [if_neg Bool.false_ne_true]
        rfl
      rw [blk_nx (no2 _)]
      rw [blk_nx (s1 := drS ns (a + 1) l (c + 1) m (some (.d (.int n))) (some (.d (.int (((n % 998244353 + 5003 * (c + 1)) * 69621) % 2147483629)))) none) ((set_c (m := 1) (i := 3) (own := false) (s1 := drS ns (a + 1) l (c + 1) m (some (.d (.int n))) none none) (bin_at (o := .d (.int (((n % 998244353 + 5003 * (c + 1)) * 69621) % 2147483629))) (c1 := .d (.int ((n % 998244353 + 5003 * (c + 1)) * 69621))) (c2 := .d (.int (2147483629))) (x := .int ((n % 998244353 + 5003 * (c + 1)) * 69621)) (y := .int (2147483629)) (s1 := drS ns (a + 1) l (c + 1) m (some (.d (.int n))) none none) (asC_c (bin_at (o := .d (.int ((n % 998244353 + 5003 * (c + 1)) * 69621))) (c1 := .d (.int (n % 998244353 + 5003 * (c + 1)))) (c2 := .d (.int (69621))) (x := .int (n % 998244353 + 5003 * (c + 1))) (y := .int (69621)) (s1 := drS ns (a + 1) l (c + 1) m (some (.d (.int n))) none none) (by kernel_rfl) (by kernel_rfl) rfl rfl (mul_ok (.inr (by decide))))) (by kernel_rfl) rfl rfl (mod_ok (by decide))) (Nat.le_refl _)).trans (by kernel_rfl))]
      rw [blk_nx (s1 := drS ns (a + 1) l (c + 1) m (some (.d (.int n))) (some (.d (.int ((((((n % 998244353 + 5003 * (c + 1)) * 69621) % 2147483629) / 13 + 7919 * (c + 1) * (c + 1)) * 48271) % 2147483587)))) none) ((set_c (m := 1) (i := 3) (own := false) (s1 := drS ns (a + 1) l (c + 1) m (some (.d (.int n))) (some (.d (.int (((n % 998244353 + 5003 * (c + 1)) * 69621) % 2147483629)))) none) (bin_at (o := .d (.int ((((((n % 998244353 + 5003 * (c + 1)) * 69621) % 2147483629) / 13 + 7919 * (c + 1) * (c + 1)) * 48271) % 2147483587))) (c1 := .d (.int (((((n % 998244353 + 5003 * (c + 1)) * 69621) % 2147483629) / 13 + 7919 * (c + 1) * (c + 1)) * 48271))) (c2 := .d (.int (2147483587))) (x := .int (((((n % 998244353 + 5003 * (c + 1)) * 69621) % 2147483629) / 13 + 7919 * (c + 1) * (c + 1)) * 48271)) (y := .int (2147483587)) (s1 := drS ns (a + 1) l (c + 1) m (some (.d (.int n))) (some (.d (.int (((n % 998244353 + 5003 * (c + 1)) * 69621) % 2147483629)))) none) (asC_c (bin_at (o := .d (.int (((((n % 998244353 + 5003 * (c + 1)) * 69621) % 2147483629) / 13 + 7919 * (c + 1) * (c + 1)) * 48271))) (c1 := .d (.int ((((n % 998244353 + 5003 * (c + 1)) * 69621) % 2147483629) / 13 + 7919 * (c + 1) * (c + 1)))) (c2 := .d (.int (48271))) (x := .int ((((n % 998244353 + 5003 * (c + 1)) * 69621) % 2147483629) / 13 + 7919 * (c + 1) * (c + 1))) (y := .int (48271)) (s1 := drS ns (a + 1) l (c + 1) m (some (.d (.int n))) (some (.d (.int (((n % 998244353 + 5003 * (c + 1)) * 69621) % 2147483629)))) none) (asC_c (bin_at (o := .d (.int ((((n % 998244353 + 5003 * (c + 1)) * 69621) % 2147483629) / 13 + 7919 * (c + 1) * (c + 1)))) (c1 := .d (.int ((((n % 998244353 + 5003 * (c + 1)) * 69621) % 2147483629) / 13))) (c2 := .d (.int (7919 * (c + 1) * (c + 1)))) (x := .int ((((n % 998244353 + 5003 * (c + 1)) * 69621) % 2147483629) / 13)) (y := .int (7919 * (c + 1) * (c + 1))) (s1 := drS ns (a + 1) l (c + 1) m (some (.d (.int n))) (some (.d (.int (((n % 998244353 + 5003 * (c + 1)) * 69621) % 2147483629)))) none) (by kernel_rfl) (asC_c (bin_at (o := .d (.int (7919 * (c + 1) * (c + 1)))) (c1 := .d (.int (7919 * (c + 1)))) (c2 := .d (.int (c + 1))) (x := .int (7919 * (c + 1))) (y := .int (c + 1)) (s1 := drS ns (a + 1) l (c + 1) m (some (.d (.int n))) (some (.d (.int (((n % 998244353 + 5003 * (c + 1)) * 69621) % 2147483629)))) none) (by kernel_rfl) (by kernel_rfl) rfl rfl (mul_ok (.inr hbig)))) rfl rfl rfl)) (by kernel_rfl) rfl rfl (mul_ok (.inr (by decide))))) (by kernel_rfl) rfl rfl (mod_ok (by decide))) (Nat.le_refl _)).trans (by kernel_rfl))]
      exact ⟨_, a + 1, l, _, blk_rt (ret_c (m := 1) (s1 := drS ns (a + 1) l (c + 1) m (some (.d (.int n))) (some (.d (.int ((((((n % 998244353 + 5003 * (c + 1)) * 69621) % 2147483629) / 13 + 7919 * (c + 1) * (c + 1)) * 48271) % 2147483587)))) none) (bin_at (o := .d (.int (((((((n % 998244353 + 5003 * (c + 1)) * 69621) % 2147483629) / 13 + 7919 * (c + 1) * (c + 1)) * 48271) % 2147483587) / 64 % m))) (c1 := .d (.int (((((((n % 998244353 + 5003 * (c + 1)) * 69621) % 2147483629) / 13 + 7919 * (c + 1) * (c + 1)) * 48271) % 2147483587) / 64))) (c2 := .d (.int (m))) (x := .int (((((((n % 998244353 + 5003 * (c + 1)) * 69621) % 2147483629) / 13 + 7919 * (c + 1) * (c + 1)) * 48271) % 2147483587) / 64)) (y := .int (m)) (s1 := drS ns (a + 1) l (c + 1) m (some (.d (.int n))) (some (.d (.int ((((((n % 998244353 + 5003 * (c + 1)) * 69621) % 2147483629) / 13 + 7919 * (c + 1) * (c + 1)) * 48271) % 2147483587)))) none) (by kernel_rfl) (by kernel_rfl) rfl rfl (mod_ok hm)) (Nat.le_refl _)), Int.emod_nonneg _ (by omega), Int.emod_lt_of_pos _ hm, by omega, hl⟩
end Pd

set_option Elab.async false
set_option linter.all false
set_option maxRecDepth 100000
/-! Calls while a reading is stepped through; the feed. -/
namespace Pd
open PySem L2
theorem run_rt {d : Df} {sc : Scope} {n : Nat} {body : List Stmt} {np : Nat} {args : List Arg} {b : M Fl} {s s' : PSt} {r : RV} {v : FR} {os : List MO} (e : exB d sc n body = b) (h1 : args.length = np) (h2 : (objsOf args).length = d.m) (h3 : np ≤ d.N.length)
    (hs : (⟨envOf 0 args ++ List.replicate (d.N.length - np) none, objsOf args⟩ : PSt) = s) (h : b s = some (.ok (.rt r), s')) (hv : rtO d.m r s'.L = some v) (ho : s'.L.take d.m = os) : runD d sc n body np args = some (.ok v, os) := by
  subst hs
  subst ho
  subst e
  unfold runD
  rw [if_pos (by simp [h1, h2, h3]), h]
  simp only [hv]
theorem run_nx {d : Df} {sc : Scope} {n : Nat} {body : List Stmt} {np : Nat} {args : List Arg} {b : M Fl} {s s' : PSt} {os : List MO} (e : exB d sc n body = b) (h1 : args.length = np) (h2 : (objsOf args).length = d.m) (h3 : np ≤ d.N.length)
    (hs : (⟨envOf 0 args ++ List.replicate (d.N.length - np) none, objsOf args⟩ : PSt) = s) (h : b s = some (.ok .nx, s')) (ho : s'.L.take d.m = os) : runD d sc n body np args = some (.ok (.d .none), os) := by
  subst hs
  subst ho
  subst e
  unfold runD
  rw [if_pos (by simp [h1, h2, h3]), h]
theorem app_at {m k : Nat} {o a : M RV} {s s1 s2 : PSt} {x : D} {L : List MO} (ho : M.bind o ptrM s = some (.ok k, s1)) (ha : asD m a s1 = some (.ok x, s2)) (h : appO s2.L k x = some L) : appendM m o a s = some (.ok (.c (.d .none)), ⟨s2.env, L⟩) := by
  unfold appendM
  rw [bind_ok ho, bind_ok ha]
  have e : setL (fun L => appO L k x) s2 = some (.ok (), ⟨s2.env, L⟩) := by
    unfold setL
    simp only [h]
  rw [bind_ok e]
  rfl
theorem pop_at {k j : Nat} {o a : M RV} {s s1 s2 : PSt} {i : Int} {xs : List D} {x : D} (ho : M.bind o ptrM s = some (.ok k, s1)) (ha : M.bind a intM s1 = some (.ok i, s2)) (hk : s2.L[k]? = some (.lst xs)) (hj : ixN xs.length i = some j) (hx : xs[j]? = some x) (hs : smallI i = true) :
    popM o a s = some (.ok (.c (.d x)), ⟨s2.env, s2.L.set k (.lst (xs.eraseIdx j))⟩) := by
  unfold popM
  rw [bind_ok ho, bind_ok ha]
  simp only [hk, hj, hx, hs, if_true]
theorem expr_at {m : Nat} {a : M RV} {s s1 : PSt} {r : RV} (h : a s = some (.ok r, s1)) (hm : m ≤ s1.L.length) : exprS m a s = some (.ok .nx, s1) := by
  unfold exprS okF
  have e : M.bind (chk m a) (fun _ => M.pure ()) s = some (.ok (), s1) := by
    rw [bind_ok (chk_ok h hm)]
    rfl
  rw [bind_ok e]
  rfl
theorem forS_at {m : Nat} {tg : D → M Unit} {it : M (List D)} {b : M Fl} {s s1 : PSt} {items : List D} (h : it s = some (.ok items, s1)) (hm : m ≤ s1.L.length) : forS m tg it b s = forL tg b items s1 := bind_ok (chk_ok h hm)
theorem forL_nx {tg : D → M Unit} {b : M Fl} {x : D} {r : List D} {s s1 s2 : PSt} (h : tg x s = some (.ok (), s1)) (hb : b s1 = some (.ok .nx, s2)) : forL tg b (x :: r) s = forL tg b r s2 := by
  show M.bind (tg x) _ s = _
  rw [bind_ok h, bind_ok hb]
theorem range1_at {a : M RV} {s s1 : PSt} {j : Int} (h : M.bind a intM s = some (.ok j, s1)) (hs : smallI j = true) : rangeM [a] s = some (.ok (rangeL 0 j), s1) := by
  show (M.bind (M.bind a intM) fun j => if smallI j then M.pure (rangeL 0 j) else M.fail) s = _
  rw [bind_ok h, if_pos hs]
  rfl
theorem sl_at {a : M RV} {lo hi : Option (M RV)} {l h : Option Int} {s s1 s2 s3 : PSt} {c : C} {x : D} {o : OpO} (ha : asC a s = some (.ok c, s1)) (hl : partM lo s1 = some (.ok l, s2)) (hh : partM hi s2 = some (.ok h, s3)) (hx : rdD s3 c = some x) (ho : slO x l h = some o) : slM a lo hi s = some (.ok o.rv, s3) := by
  unfold slM
  rw [bind_ok ha, bind_ok hl, bind_ok hh, bind_ok (rd_ok hx), ho]
  rfl
theorem part_at {a : M RV} {s s1 : PSt} {i : Int} (h : a s = some (.ok (.c (.d (.int i))), s1)) : partM (some a) s = some (.ok (some i), s1) := by
  show M.bind (M.bind a intM) _ s = _
  rw [bind_ok (intM_at h)]
  rfl
theorem ret_f {m : Nat} {a : M RV} {s s1 : PSt} {xs : List D} (h : a s = some (.ok (.f xs), s1)) (hm : m ≤ s1.L.length) : retS m a s = some (.ok (.rt (.f xs)), s1) := bind_ok (f := retM m) (chk_ok h hm)
theorem cut_lo (xs : List D) (t : Nat) : cutD xs (some (t : Int)) none = xs.drop t := by
  unfold cutD
  rw [HT.sIx_nat, HT.sIx_none]
  by_cases h : t ≤ xs.length
  · rw [Nat.min_eq_left h, ← List.length_drop, List.take_length]
  · rw [Nat.min_eq_right (by omega), List.drop_eq_nil_of_le (Nat.le_refl _), List.drop_eq_nil_of_le (by omega)]
    simp
theorem cut_hi (xs : List D) (t : Nat) : cutD xs none (some (t : Int)) = xs.take t := by
  unfold cutD
  rw [HT.sIx_nat, HT.sIx_none, List.drop_zero, Nat.sub_zero]
  by_cases h : t ≤ xs.length
  · rw [Nat.min_eq_left h]
  · rw [Nat.min_eq_right (by omega), List.take_length, List.take_of_length_le (by omega)]
theorem set_f {m i : Nat} {a : M RV} {s s1 : PSt} {xs : List D} (h : a s = some (.ok (.f xs), s1)) (hm : m ≤ s1.L.length) : setS m false i a s = some (.ok .nx, ⟨s1.env.set i (some (.d (.list xs))), gc m (s1.env.set i none) s1.L⟩) := by
  unfold setS okF
  have e : M.bind (chk m a) (stoN m false i) s = some (.ok (), ⟨s1.env.set i (some (.d (.list xs))), gc m (s1.env.set i none) s1.L⟩) := by
    rw [bind_ok (chk_ok h hm)]
    rfl
  rw [bind_ok e]
  rfl
theorem ix_list_at {xs : List D} {i : Nat} {x : D} (h : xs[i]? = some x) : ixO (.list xs) (.int (i : Nat)) = some x := by
  have hl := (List.getElem?_eq_some_iff.mp h).1
  show atI xs (i : Nat) = _
  unfold atI ixN
  rw [if_pos (by omega), if_pos (by omega)]
  exact h
theorem ix_tup_at {xs : List D} {i : Nat} {x : D} (h : xs[i]? = some x) : ixO (.tuple xs) (.int (i : Nat)) = some x := by
  have hl := (List.getElem?_eq_some_iff.mp h).1
  show atI xs (i : Nat) = _
  unfold atI ixN
  rw [if_pos (by omega), if_pos (by omega)]
  exact h
/-- a display: each item as data -/
inductive Ev (m : Nat) : List (M RV) → PSt → List D → PSt → Prop
  | nil {s : PSt} : Ev m [] s [] s
  | cons {a : M RV} {r : List (M RV)} {s s1 s2 : PSt} {x : D} {xs : List D} : asD m a s = some (.ok x, s1) → Ev m r s1 xs s2 → Ev m (a :: r) s (x :: xs) s2
theorem Ev.seq {m : Nat} : ∀ {l : List (M RV)} {s s' : PSt} {xs : List D}, Ev m l s xs s' → seqM (l.map (asD m)) s = some (.ok xs, s')
  | _, _, _, _, .nil => rfl
  | _, _, _, _, .cons (xs := xs) h t => by
    show M.bind _ _ _ = _
    rw [bind_ok h, bind_ok t.seq]
    rfl
theorem tup_at {m : Nat} {l : List (M RV)} {s s' : PSt} {xs : List D} (h : Ev m l s xs s') (hf : fits xs.length = true) : tupM m l s = some (.ok (.c (.d (.tuple xs))), s') := by
  unfold tupM
  rw [bind_ok h.seq, if_pos hf]
  rfl
theorem lst_at {m : Nat} {l : List (M RV)} {s s' : PSt} {xs : List D} (h : Ev m l s xs s') (hf : fits xs.length = true) : lstM m l s = some (.ok (.f xs), s') := by
  unfold lstM
  rw [bind_ok h.seq, if_pos hf]
  rfl
theorem asD_f {m : Nat} {a : M RV} {s s1 : PSt} {xs : List D} (h : a s = some (.ok (.f xs), s1)) : asD m a s = some (.ok (.list xs), s1) := bind_ok (f := fzR m) h
theorem ite_at {t : M Bool} {a b : M RV} {s s1 : PSt} {c : Bool} (h : t s = some (.ok c, s1)) : iteM t a b s = (if c then a else b) s1 := by
  unfold iteM
  rw [bind_ok h]
  unfold ifRV
  rfl
/-- one turn of a comprehension -/
def turnC (m : Nat) (vs : List Nat) (tg : D → M Unit) (test : M Bool) (elt : M RV) (x : D) : M (Option D) := M.bind (setEnv fun e => wipeE e vs) fun _ => M.bind (tg x) fun _ => M.bind test fun b => if b then M.bind (asD m elt) fun y => M.pure (some y) else M.pure none
theorem comp_at {m : Nat} {vs : List Nat} {tg : D → M Unit} {test : M Bool} {elt : M RV} {items ys : List D} {s s' : PSt} (ho : ownFree vs s.env = true) (h : compL (turnC m vs tg test elt) items s = some (.ok ys, s')) (hf : fits ys.length = true) :
    compM m vs tg test elt items s = some (.ok (.f ys), ⟨restore vs s.env s'.env, s'.L⟩) := by
  unfold compM
  have e : withOwn vs (compL (turnC m vs tg test elt) items) s = some (.ok ys, ⟨restore vs s.env s'.env, s'.L⟩) := by
    unfold withOwn
    rw [if_pos ho, h]
  show M.bind (withOwn vs (compL (turnC m vs tg test elt) items)) _ s = _
  rw [bind_ok e, if_pos hf]
  rfl
theorem compL_some {body : D → M (Option D)} {x y : D} {r : List D} {ys : List D} {s s1 s2 : PSt} (h : body x s = some (.ok (some y), s1)) (ht : compL body r s1 = some (.ok ys, s2)) : compL body (x :: r) s = some (.ok (y :: ys), s2) := by
  show M.bind (body x) _ s = _
  rw [bind_ok h, bind_ok ht]
  rfl
theorem compL_none {body : D → M (Option D)} {x : D} {r : List D} {ys : List D} {s s1 s2 : PSt} (h : body x s = some (.ok none, s1)) (ht : compL body r s1 = some (.ok ys, s2)) : compL body (x :: r) s = some (.ok ys, s2) := by
  show M.bind (body x) _ s = _
  rw [bind_ok h, bind_ok ht]
  rfl
theorem lc_at {m : Nat} {vs : List Nat} {tg : D → M Unit} {test : M Bool} {elt : M RV} {it : M (List D)} {items ys : List D} {s s1 s' : PSt} (hi : it s = some (.ok items, s1)) (ho : ownFree vs s1.env = true) (h : compL (turnC m vs tg test elt) items s1 = some (.ok ys, s')) (hf : fits ys.length = true) :
    lcM m vs tg test elt it s = some (.ok (.f ys), ⟨restore vs s1.env s'.env, s'.L⟩) := by
  unfold lcM
  rw [bind_ok hi]
  exact comp_at ho h hf
theorem turn_yes {m : Nat} {vs : List Nat} {tg : D → M Unit} {test : M Bool} {elt : M RV} {x y : D} {s s1 s2 s3 : PSt} (h1 : tg x ⟨wipeE s.env vs, s.L⟩ = some (.ok (), s1)) (h2 : test s1 = some (.ok true, s2)) (h3 : asD m elt s2 = some (.ok y, s3)) : turnC m vs tg test elt x s = some (.ok (some y), s3) := by
  show M.bind (tg x) _ ⟨wipeE s.env vs, s.L⟩ = _
  rw [bind_ok h1, bind_ok h2, if_pos rfl, bind_ok h3]
  rfl
theorem turn_no {m : Nat} {vs : List Nat} {tg : D → M Unit} {test : M Bool} {elt : M RV} {x : D} {s s1 s2 : PSt} (h1 : tg x ⟨wipeE s.env vs, s.L⟩ = some (.ok (), s1)) (h2 : test s1 = some (.ok false, s2)) : turnC m vs tg test elt x s = some (.ok none, s2) := by
  show M.bind (tg x) _ ⟨wipeE s.env vs, s.L⟩ = _
  rw [bind_ok h1, bind_ok h2, if_neg Bool.false_ne_true]
  rfl
/-- the feed, with room for k draws -/
def feed (ns : List Int) (a l c : Int) : MO := .lst [.list (ns.map PyData.int), .int a, .int l, .int c]
def Fd (ns : List Int) (k : Nat) (o : MO) : Prop := ∃ a l c, o = feed ns a l c ∧ 0 ≤ a ∧ 0 ≤ l ∧ 0 ≤ c ∧ c + k ≤ 2 ^ 59
theorem Fd.less {ns : List Int} {j k : Nat} {o : MO} (h : Fd ns k o) (hj : j ≤ k) : Fd ns j o := by
  obtain ⟨a, l, c, e, h1, h2, h3, h4⟩ := h
  exact ⟨a, l, c, e, h1, h2, h3, by omega⟩
/-- what a draw is, for any law whose draw has this body -/
def Draws (f : FT) : Prop := ∀ (ns : List Int) (k : Nat) (o : MO) (m : Int), Fd ns (k + 1) o → 0 < m → m < 1073741824 → ∃ r o', f [.m o, .d (.int m)] = some (.ok (.d (.int r)), [o']) ∧ 0 ≤ r ∧ r < m ∧ Fd ns k o'
theorem draws_of {d : Df} {sc : Scope} {n : Nat} {body : List Stmt} (e : exB d sc n body = drawB) (h2 : d.m = 1) (h3 : d.N.length = 5) : Draws (runD d sc n body 2) := by
  intro ns k o m ⟨a, l, c, eo, h4, h5, h6, h7⟩ hm hm2
  subst eo
  obtain ⟨r, a', l', env, q, q1, q2, q3, q4⟩ := draw_ok ns a l c m h4 h5 hm hm2 h6 (by omega)
  refine ⟨r, feed ns a' l' (c + 1), run_rt e rfl h2.symm (by rw [h3]; decide) ?_ q rfl (by rw [h2]; rfl), q1, q2, a', l', c + 1, rfl, q3, q4, by omega, by omega⟩
  rw [h3]
  rfl
/-- a call by which the k-th own thing, and data, are handed on -/
theorem call_1d {ft : FT} {s : PSt} {k : Nat} {o o' : MO} {x : D} {r : FR} (hk : s.L[k]? = some o) (hd : o ≠ .dead) (h : ft [.m o, .d x] = some (.ok r, [o'])) : callM ft [.k k, .d x] s = some (.ok r.rv, ⟨s.env, s.L.set k o'⟩) := by
  unfold callM
  have e : AV.args s.L [.k k, .d x] = some [.m o, .d x] := by
    unfold AV.args
    rw [hk]
    cases o <;> first | rfl | exact absurd rfl hd
  rw [if_pos (by rfl), e]
  simp only [h]
  rfl
theorem def_1d {m : Nat} {ft : FT} {o a : M RV} {s s1 s2 : PSt} {k : Nat} {mo mo' : MO} {x : D} {r : FR} (ho : o s = some (.ok (.c (.r k)), s1)) (ha : asD m a s1 = some (.ok x, s2)) (hk : s2.L[k]? = some mo) (hd : mo ≠ .dead) (h : ft [.m mo, .d x] = some (.ok r, [mo'])) :
    defM m [true, false] ft [o, a] s = some (.ok r.rv, ⟨s2.env, s2.L.set k mo'⟩) := by
  unfold defM
  have e1 : avM m true o s = some (.ok (.k k), s1) := by
    unfold avM
    rw [if_pos rfl, bind_ok ho]
    rfl
  have e2 : avM m false a s1 = some (.ok (.d x), s2) := by
    unfold avM
    rw [if_neg Bool.false_ne_true, bind_ok ha]
    rfl
  have e3 : argsM m [true, false] [o, a] s = some (.ok [.k k, .d x], s2) := by
    unfold argsM
    rw [bind_ok e1]
    unfold argsM
    rw [bind_ok (m := M.bind (avM m false a) _) (a := [.d x]) (s1 := s2) ?_]
    · rfl
    · rw [bind_ok e2]
      rfl
  rw [bind_ok e3]
  exact call_1d hk hd h
end Pd

set_option Elab.async false
set_option linter.all false
set_option maxRecDepth 100000
/-! A reading, reckoned by rewriting. -/
namespace Pd
open PySem L2
section
variable {α β : Type}
theorem z_bind (m : M α) (f : α → M β) (s : PSt) : M.bind m f s = match m s with
  | some (.ok a, s') => f a s'
  | some (.ex x, s') => some (.ex x, s')
  | none => none := by rfl
theorem z_pure (a : α) (s : PSt) : M.pure a s = some (.ok a, s) := by rfl
theorem z_fail (s : PSt) : (M.fail : M α) s = none := by rfl
theorem z_ret (d : D) (s : PSt) : ret d s = some (.ok (.c (.d d)), s) := by rfl
theorem z_cst (d : D) (s : PSt) : cst d s = some (.ok (.c (.d d)), s) := by rfl
theorem z_nm (i : Nat) (env : EnvP) (L : List MO) : nm i ⟨env, L⟩ = match env[i]? with
  | some (some c) => some (.ok (.c c), ⟨env, L⟩)
  | _ => none := by rfl
theorem z_toC_c (c : C) (s : PSt) : toC (.c c) s = some (.ok c, s) := by rfl
theorem z_toC_f (xs : List D) (s : PSt) : toC (.f xs) s = some (.ok (.d (.list xs)), s) := by rfl
theorem z_asC (a : M RV) (s : PSt) : asC a s = M.bind a toC s := by rfl
theorem z_asD (k : Nat) (a : M RV) (s : PSt) : asD k a s = M.bind a (fzR k) s := by rfl
theorem z_fzR_d (k : Nat) (d : D) (s : PSt) : fzR k (.c (.d d)) s = some (.ok d, s) := by rfl
theorem z_fzR_f (k : Nat) (xs : List D) (s : PSt) : fzR k (.f xs) s = some (.ok (.list xs), s) := by rfl
theorem z_fzR_r (m k : Nat) (env : EnvP) (L : List MO) : fzR m (.c (.r k)) ⟨env, L⟩ = match L[k]? with
    | some (.lst xs) => if m ≤ k then some (.ok (.list xs), fzAt m k (.list xs) ⟨env, L⟩) else none
    | _ => none := rfl
theorem z_rdM_d (d : D) (s : PSt) : rdM (.d d) s = some (.ok d, s) := by rfl
theorem z_rdM_r (k : Nat) (env : EnvP) (L : List MO) : rdM (.r k) ⟨env, L⟩ = match L[k]? with
    | some (.lst xs) => some (.ok (.list xs), ⟨env, L⟩)
    | some (.dic kvs) => some (.ok (.dict kvs), ⟨env, L⟩)
    | _ => none := by
  unfold rdM
  unfold rdD
  show (match (match L[k]? with
    | some (.lst xs) => some (PyData.list xs)
    | some (.dic kvs) => some (PyData.dict kvs)
    | _ => none) with
    | some x => some (Rs.ok x, (⟨env, L⟩ : PSt))
    | none => none) = _
  cases h : L[k]? with
  | none => rfl
  | some o => cases o <;> rfl
theorem z_optM_some (a : α) (s : PSt) : optM (some a) s = some (.ok a, s) := by rfl
theorem z_optM_none (s : PSt) : (optM none : M α) s = none := by rfl
theorem z_opM (o : Option OpO) (s : PSt) : opM o s = match o with
  | some z => some (.ok z.rv, s)
  | none => none := by
  cases o <;> rfl
theorem z_blM (o : Option Bool) (s : PSt) : blM o s = match o with
  | some z => some (.ok (.c (.d (.bool z))), s)
  | none => none := by
  cases o <;> rfl
theorem z_rv_d (x : D) : (OpO.d x).rv = .c (.d x) := by rfl
theorem z_rv_f (x : List D) : (OpO.f x).rv = .f x := by rfl
theorem z_bin (op : Operator) (a b : M RV) (s : PSt) : binM op a b s = M.bind (asC a) (fun c1 => M.bind (asC b) fun c2 => M.bind (rdM c1) fun x => M.bind (rdM c2) fun y => opM (binO op x y)) s := by rfl
theorem z_cmp (op : CmpOp) (a b : M RV) (s : PSt) : cmpM op a b s = M.bind (asC a) (fun c1 => M.bind (asC b) fun c2 => M.bind (rdM c1) fun x => M.bind (rdM c2) fun y => blM (cmpO op x y)) s := by rfl
theorem z_chain (op op' : CmpOp) (a b c : M RV) (s : PSt) : chainM op op' a b c s = M.bind (asC a) (fun c1 => M.bind (asC b) fun c2 => M.bind (rdM c1) fun x => M.bind (rdM c2) fun y =>
  M.bind (optM (cmpO op x y)) fun r => if r then M.bind (asC c) fun c3 => M.bind (rdM c2) fun y => M.bind (rdM c3) fun z => blM (cmpO op' y z) else ret (.bool false)) s := rfl
theorem z_ix (a i : M RV) (s : PSt) : ixM a i s = M.bind (asC a) (fun c1 => M.bind (asC i) fun c2 => M.bind (rdM c1) fun x => M.bind (rdM c2) fun y => opM ((ixO x y).map .d)) s := by rfl
theorem z_part_n (s : PSt) : partM none s = some (.ok none, s) := by rfl
theorem z_part_s (m : M RV) (s : PSt) : partM (some m) s = M.bind (M.bind m intM) (fun i => M.pure (some i)) s := by rfl
theorem z_sl (a : M RV) (lo hi : Option (M RV)) (s : PSt) : slM a lo hi s = M.bind (asC a) (fun c1 => M.bind (partM lo) fun l => M.bind (partM hi) fun h => M.bind (rdM c1) fun x => opM (slO x l h)) s := by rfl
theorem z_intM (i : Int) (s : PSt) : intM (.c (.d (.int i))) s = some (.ok i, s) := by rfl
theorem z_boolM (b : Bool) (s : PSt) : boolM (.c (.d (.bool b))) s = some (.ok b, s) := by rfl
theorem z_and1 (a : M RV) (s : PSt) : andM [a] s = a s := by rfl
theorem z_and2 (a b : M RV) (r : List (M RV)) (s : PSt) : andM (a :: b :: r) s = M.bind (M.bind a boolM) (fun c => if c then andM (b :: r) else ret (.bool false)) s := by rfl
theorem z_or1 (a : M RV) (s : PSt) : orM [a] s = a s := by rfl
theorem z_or2 (a b : M RV) (r : List (M RV)) (s : PSt) : orM (a :: b :: r) s = M.bind (M.bind a boolM) (fun c => if c then ret (.bool true) else orM (b :: r)) s := by rfl
theorem z_allT0 (s : PSt) : allT [] s = some (.ok true, s) := by rfl
theorem z_allT1 (a : M Bool) (s : PSt) : allT [a] s = a s := by
  show M.bind a (fun b => if b then allT [] else M.pure false) s = _
  unfold M.bind
  cases a s with
  | none => rfl
  | some q =>
    obtain ⟨r, s'⟩ := q
    cases r with
    | ex x => rfl
    | ok b => cases b <;> rfl
theorem z_allT (a c : M Bool) (r : List (M Bool)) (s : PSt) : allT (a :: c :: r) s = M.bind a (fun b => if b then allT (c :: r) else M.pure false) s := by rfl
theorem z_anyT0 (s : PSt) : anyT [] s = some (.ok false, s) := by rfl
theorem z_anyT1 (a : M Bool) (s : PSt) : anyT [a] s = a s := by
  show M.bind a (fun b => if b then M.pure true else anyT []) s = _
  unfold M.bind
  cases a s with
  | none => rfl
  | some q =>
    obtain ⟨r, s'⟩ := q
    cases r with
    | ex x => rfl
    | ok b => cases b <;> rfl
theorem z_anyT (a c : M Bool) (r : List (M Bool)) (s : PSt) : anyT (a :: c :: r) s = M.bind a (fun b => if b then M.pure true else anyT (c :: r)) s := by rfl
theorem z_notT (t : M Bool) (s : PSt) : notT t s = M.bind t (fun b => M.pure (!b)) s := by rfl
theorem z_valT (a : M RV) (s : PSt) : valT a s = M.bind a boolM s := by rfl
theorem z_notM (a : M RV) (s : PSt) : notM a s = M.bind (M.bind a boolM) (fun b => ret (.bool (!b))) s := by rfl
theorem z_negM (a : M RV) (s : PSt) : negM a s = M.bind (M.bind a intM) (fun i => ret (.int (-i))) s := by rfl
theorem z_iteM (t : M Bool) (a b : M RV) (s : PSt) : iteM t a b s = M.bind t (fun c => ifRV c a b) s := by rfl
theorem z_ifRV (c : Bool) (a b : M RV) (s : PSt) : ifRV c a b s = if c then a s else b s := by cases c <;> rfl
theorem z_ifM (c : Prop) [Decidable c] (a b : M α) (s : PSt) : (if c then a else b) s = if c then a s else b s := by split <;> rfl
theorem z_seq0 (s : PSt) : seqM ([] : List (M α)) s = some (.ok [], s) := by rfl
theorem z_seq (a : M α) (r : List (M α)) (s : PSt) : seqM (a :: r) s = M.bind a (fun x => M.bind (seqM r) fun xs => M.pure (x :: xs)) s := by rfl
theorem z_tup (m : Nat) (l : List (M RV)) (s : PSt) : tupM m l s = M.bind (seqM (l.map (asD m))) (fun ds => if fits ds.length then ret (.tuple ds) else M.fail) s := by rfl
theorem z_lst (m : Nat) (l : List (M RV)) (s : PSt) : lstM m l s = M.bind (seqM (l.map (asD m))) (fun ds => if fits ds.length then M.pure (.f ds) else M.fail) s := by rfl
theorem z_rdAll0 (s : PSt) : rdAll [] s = some (.ok [], s) := by rfl
theorem z_rdAll (c : C) (r : List C) (s : PSt) : rdAll (c :: r) s = M.bind (rdM c) (fun x => M.bind (rdAll r) fun xs => M.pure (x :: xs)) s := by rfl
theorem z_blt (f : Blt) (as : List (M RV)) (s : PSt) : bltM f as s = M.bind (seqM (as.map asC)) (fun cs => M.bind (rdAll cs) fun xs => opM (bltO f xs)) s := by rfl
theorem z_lc (m : Nat) (vs : List Nat) (tg : D → M Unit) (test : M Bool) (elt : M RV) (it : M (List D)) (s : PSt) : lcM m vs tg test elt it s = M.bind it (fun items => compM m vs tg test elt items) s := by rfl
theorem z_def (m : Nat) (md : List Bool) (ft : FT) (as : List (M RV)) (s : PSt) : defM m md ft as s = M.bind (argsM m md as) (fun vs => callM ft vs) s := by rfl
theorem z_lrg (as : List (M RV)) (s : PSt) : lrgM as s = M.bind (rangeM as) (fun xs => if fits xs.length then M.pure (.f xs) else M.fail) s := by rfl
theorem z_range1 (a : M RV) (s : PSt) : rangeM [a] s = M.bind (M.bind a intM) (fun j => if smallI j then M.pure (rangeL 0 j) else M.fail) s := by rfl
theorem z_range2 (a b : M RV) (s : PSt) : rangeM [a, b] s = M.bind (M.bind a intM) (fun i => M.bind (M.bind b intM) fun j => if smallI i && smallI j then M.pure (rangeL i j) else M.fail) s := by rfl
theorem z_iter (m : Nat) (a : M RV) (s : PSt) : iterM m a s = M.bind (asD m a) (fun x => optM (seqOf x)) s := by rfl
theorem z_zip (m : Nat) (as : List (M RV)) (s : PSt) : zipM m as s = M.bind (seqM (as.map (asD m))) (fun ds => optM (zipO ds)) s := by rfl
theorem z_enum (m : Nat) (as : List (M RV)) (s : PSt) : enumM m as s = M.bind (seqM (as.map (asD m))) (fun ds => optM (enumO ds)) s := by rfl
theorem z_args0 (m : Nat) (s : PSt) : argsM m [] [] s = some (.ok [], s) := by rfl
theorem z_args (m : Nat) (b : Bool) (bs : List Bool) (a : M RV) (as : List (M RV)) (s : PSt) : argsM m (b :: bs) (a :: as) s = M.bind (avM m b a) (fun x => M.bind (argsM m bs as) fun xs => M.pure (x :: xs)) s := by rfl
theorem z_av_f (m : Nat) (a : M RV) (s : PSt) : avM m false a s = M.bind (asD m a) (fun x => M.pure (.d x)) s := by rfl
def kOf (r : RV) : M AV := match r with
    | .c (.r k) => M.pure (.k k)
    | _ => M.fail
theorem z_av_t (m : Nat) (a : M RV) (s : PSt) : avM m true a s = M.bind a kOf s := by rfl
theorem z_kOf (k : Nat) (s : PSt) : kOf (.c (.r k)) s = some (.ok (.k k), s) := by rfl
/-! own things handed on: one at most, at whatever place -/
theorem ks_d : ∀ xs : List D, AV.ks (xs.map AV.d) = []
  | [] => rfl
  | _ :: r => ks_d r
theorem avargs_d (L : List MO) : ∀ xs : List D, AV.args L (xs.map AV.d) = some (xs.map Arg.d)
  | [] => rfl
  | x :: r => by
    show (AV.args L (r.map AV.d)).map _ = _
    rw [avargs_d L r]
    rfl
theorem z_call_d (ft : FT) (xs : List D) (s : PSt) : callM ft (xs.map AV.d) s = match ft (xs.map Arg.d) with
  | some (.ok r, []) => some (.ok r.rv, s)
  | some (.ex x, []) => some (.ex x, s)
  | _ => none := by
  unfold callM
  rw [ks_d, if_pos (by rfl), avargs_d]
  cases h : ft (xs.map Arg.d) with
  | none => simp only [h]
  | some q =>
    obtain ⟨r, os⟩ := q
    cases r <;> cases os <;> simp only [h] <;> rfl
theorem z_call_0 (ft : FT) (s : PSt) : callM ft [] s = match ft [] with
  | some (.ok r, []) => some (.ok r.rv, s)
  | some (.ex x, []) => some (.ex x, s)
  | _ => none := z_call_d ft [] s
theorem z_call_1 (ft : FT) (x : D) (s : PSt) : callM ft [.d x] s = match ft [.d x] with
  | some (.ok r, []) => some (.ok r.rv, s)
  | some (.ex x, []) => some (.ex x, s)
  | _ => none := z_call_d ft [x] s
theorem z_call_2 (ft : FT) (x y : D) (s : PSt) : callM ft [.d x, .d y] s = match ft [.d x, .d y] with
  | some (.ok r, []) => some (.ok r.rv, s)
  | some (.ex x, []) => some (.ex x, s)
  | _ => none := z_call_d ft [x, y] s
theorem z_call_3 (ft : FT) (x y z : D) (s : PSt) : callM ft [.d x, .d y, .d z] s = match ft [.d x, .d y, .d z] with
  | some (.ok r, []) => some (.ok r.rv, s)
  | some (.ex x, []) => some (.ex x, s)
  | _ => none := z_call_d ft [x, y, z] s
theorem z_call_4 (ft : FT) (x y z u : D) (s : PSt) : callM ft [.d x, .d y, .d z, .d u] s = match ft [.d x, .d y, .d z, .d u] with
  | some (.ok r, []) => some (.ok r.rv, s)
  | some (.ex x, []) => some (.ex x, s)
  | _ => none := z_call_d ft [x, y, z, u] s
theorem z_call_5 (ft : FT) (x y z u v : D) (s : PSt) : callM ft [.d x, .d y, .d z, .d u, .d v] s = match ft [.d x, .d y, .d z, .d u, .d v] with
  | some (.ok r, []) => some (.ok r.rv, s)
  | some (.ex x, []) => some (.ex x, s)
  | _ => none := z_call_d ft [x, y, z, u, v] s
theorem args_one (k : Nat) (o : MO) (L : List MO) (xs : List D) (h : L[k]? = some o) (hd : o ≠ .dead) : AV.args L (.k k :: xs.map AV.d) = some (.m o :: xs.map Arg.d) := by
  unfold AV.args
  rw [h, avargs_d]
  cases o <;> first | rfl | exact absurd rfl hd
/-- the first argument is handed on to be changed -/
def out1 (k : Nat) (s : PSt) : Option (Rs FR × List MO) → Option (Rs RV × PSt)
  | some (.ok r, [o]) => some (.ok r.rv, ⟨s.env, s.L.set k o⟩)
  | some (.ex x, [o]) => some (.ex x, ⟨s.env, s.L.set k o⟩)
  | _ => none
theorem z_out1 (k : Nat) (env : EnvP) (L : List MO) (r : FR) (o : MO) : out1 k ⟨env, L⟩ (some (.ok r, [o])) = some (.ok r.rv, ⟨env, L.set k o⟩) := by rfl
theorem z_out1x (k : Nat) (env : EnvP) (L : List MO) (r : Xn) (o : MO) : out1 k ⟨env, L⟩ (some (.ex r, [o])) = some (.ex r, ⟨env, L.set k o⟩) := by rfl
theorem z_callk (ft : FT) (k : Nat) (xs : List D) (env : EnvP) (L : List MO) : callM ft (.k k :: xs.map AV.d) ⟨env, L⟩ = match L[k]? with
  | some .dead => none
  | some o => out1 k ⟨env, L⟩ (ft (.m o :: xs.map Arg.d))
  | none => none := by
  unfold callM
  have hk : AV.ks (.k k :: xs.map AV.d) = [k] := by
    show k :: AV.ks (xs.map AV.d) = _
    rw [ks_d]
  rw [hk, if_pos (by rfl)]
  show (match AV.args L (.k k :: xs.map AV.d) with
    | none => none
    | some l => match ft l with
      | some (.ok r, os) => if os.length = 1 then some (Rs.ok r.rv, (⟨env, setAll ([k].zip os) L⟩ : PSt)) else none
      | some (.ex x, os) => if os.length = 1 then some (Rs.ex x, (⟨env, setAll ([k].zip os) L⟩ : PSt)) else none
      | none => none) = _
  cases h : L[k]? with
  | none =>
    have : AV.args L (.k k :: xs.map AV.d) = none := by
      unfold AV.args
      rw [h]
    rw [this]
  | some o =>
    by_cases hd : o = .dead
    · subst hd
      have : AV.args L (.k k :: xs.map AV.d) = none := by
        unfold AV.args
        rw [h]
      rw [this]
    · rw [args_one k o L xs h hd]
      have e : (match (some o : Option MO) with
        | some .dead => none
        | some o => out1 k ⟨env, L⟩ (ft (.m o :: xs.map Arg.d))
        | none => none) = out1 k ⟨env, L⟩ (ft (.m o :: xs.map Arg.d)) := by
        cases o <;> first | rfl | exact absurd rfl hd
      rw [e]
      cases hf : ft (.m o :: xs.map Arg.d) with
      | none => simp only [hf]; rfl
      | some q =>
        obtain ⟨r, os⟩ := q
        cases r <;> (match os with
          | [] => simp only [hf]; rfl
          | [_] => simp only [hf]; rfl
          | _ :: _ :: _ => simp only [hf]; rfl)
theorem z_callk0 (ft : FT) (k : Nat) (env : EnvP) (L : List MO) : callM ft [.k k] ⟨env, L⟩ = match L[k]? with
  | some .dead => none
  | some o => out1 k ⟨env, L⟩ (ft [.m o])
  | none => none := z_callk ft k [] env L
theorem z_callk1 (ft : FT) (k : Nat) (x : D) (env : EnvP) (L : List MO) : callM ft [.k k, .d x] ⟨env, L⟩ = match L[k]? with
  | some .dead => none
  | some o => out1 k ⟨env, L⟩ (ft [.m o, .d x])
  | none => none := z_callk ft k [x] env L
theorem z_callk2 (ft : FT) (k : Nat) (x y : D) (env : EnvP) (L : List MO) : callM ft [.k k, .d x, .d y] ⟨env, L⟩ = match L[k]? with
  | some .dead => none
  | some o => out1 k ⟨env, L⟩ (ft [.m o, .d x, .d y])
  | none => none := z_callk ft k [x, y] env L
theorem z_callk3 (ft : FT) (k : Nat) (x y z : D) (env : EnvP) (L : List MO) : callM ft [.k k, .d x, .d y, .d z] ⟨env, L⟩ = match L[k]? with
  | some .dead => none
  | some o => out1 k ⟨env, L⟩ (ft [.m o, .d x, .d y, .d z])
  | none => none := z_callk ft k [x, y, z] env L
theorem z_callk4 (ft : FT) (k : Nat) (x y z u : D) (env : EnvP) (L : List MO) : callM ft [.k k, .d x, .d y, .d z, .d u] ⟨env, L⟩ = match L[k]? with
  | some .dead => none
  | some o => out1 k ⟨env, L⟩ (ft [.m o, .d x, .d y, .d z, .d u])
  | none => none := z_callk ft k [x, y, z, u] env L
theorem z_frv_d (x : D) : (FR.d x).rv = .c (.d x) := by rfl
theorem z_frv_f (x : List D) : (FR.f x).rv = .f x := by rfl
theorem z_frv_g (x : List (D × D)) : (FR.g x).rv = .g x := by rfl
/-! own lists -/
def ptrO (k : Nat) (s : PSt) : Option MO → Option (Rs Nat × PSt)
  | some (.lst _) => some (.ok k, s)
  | _ => none
theorem z_ptrM (k : Nat) (env : EnvP) (L : List MO) : ptrM (.c (.r k)) ⟨env, L⟩ = ptrO k ⟨env, L⟩ L[k]? := by
  show (match L[k]? with
    | some (.lst _) => some (Rs.ok k, (⟨env, L⟩ : PSt))
    | _ => none) = _
  cases h : L[k]? with
  | none => rfl
  | some o => cases o <;> rfl
theorem z_ptrO (k : Nat) (s : PSt) (xs : List D) : ptrO k s (some (.lst xs)) = some (.ok k, s) := by rfl
theorem z_app (m : Nat) (o a : M RV) (s : PSt) : appendM m o a s = M.bind (M.bind o ptrM) (fun k => M.bind (asD m a) fun x => M.bind (setL fun L => appO L k x) fun _ => ret .none) s := by rfl
theorem z_ext (o a : M RV) (s : PSt) : extendM o a s = M.bind (M.bind o ptrM) (fun k => M.bind (asC a) fun c => M.bind (rdM c) fun x => M.bind (optM (seqOf x)) fun zs => M.bind (setL fun L => extO L k zs) fun _ => ret .none) s := by rfl
theorem z_setL (f : List MO → Option (List MO)) (env : EnvP) (L : List MO) : setL f ⟨env, L⟩ = match f L with
  | some L => some (.ok (), ⟨env, L⟩)
  | none => none := by rfl
def appR (L : List MO) (k : Nat) (x : D) : Option MO → Option (List MO)
  | some (.lst xs) => if fits xs.length then some (L.set k (.lst (xs ++ [x]))) else none
  | _ => none
theorem z_appO (L : List MO) (k : Nat) (x : D) : appO L k x = appR L k x L[k]? := by
  unfold appO appR
  rfl
theorem z_appR (L : List MO) (k : Nat) (x : D) (xs : List D) : appR L k x (some (.lst xs)) = if fits xs.length then some (L.set k (.lst (xs ++ [x]))) else none := by rfl
def extR (L : List MO) (k : Nat) (zs : List D) : Option MO → Option (List MO)
  | some (.lst xs) => if fits (xs.length + zs.length) then some (L.set k (.lst (xs ++ zs))) else none
  | _ => none
theorem z_extO (L : List MO) (k : Nat) (zs : List D) : extO L k zs = extR L k zs L[k]? := by
  unfold extO extR
  rfl
theorem z_extR (L : List MO) (k : Nat) (zs xs : List D) : extR L k zs (some (.lst xs)) = if fits (xs.length + zs.length) then some (L.set k (.lst (xs ++ zs))) else none := by rfl
def popR (k : Nat) (i : Int) (env : EnvP) (L : List MO) : Option MO → Option (Rs RV × PSt)
  | some (.lst xs) => match ixN xs.length i with
    | some j => match xs[j]? with
      | some x => if smallI i then some (.ok (.c (.d x)), ⟨env, L.set k (.lst (xs.eraseIdx j))⟩) else none
      | none => none
    | none => none
  | _ => none
def popS (k : Nat) (i : Int) : M RV := fun s => popR k i s.env s.L s.L[k]?
theorem z_pop (o a : M RV) (s : PSt) : popM o a s = M.bind (M.bind o ptrM) (fun k => M.bind (M.bind a intM) fun i => popS k i) s := by
  unfold popM popS popR
  rfl
theorem z_popS (k : Nat) (i : Int) (env : EnvP) (L : List MO) : popS k i ⟨env, L⟩ = popR k i env L L[k]? := by rfl
theorem z_popR (k : Nat) (i : Int) (env : EnvP) (L : List MO) (xs : List D) : popR k i env L (some (.lst xs)) = match ixN xs.length i with
    | some j => match xs[j]? with
      | some x => if smallI i then some (.ok (.c (.d x)), ⟨env, L.set k (.lst (xs.eraseIdx j))⟩) else none
      | none => none
    | none => none := rfl
/-! statements -/
theorem z_blk0 (s : PSt) : blkS [] s = some (.ok .nx, s) := by rfl
def seqK (b : M Fl) : Fl → M Fl
  | .nx => b
  | fl => M.pure fl
theorem z_blk (a : M Fl) (r : List (M Fl)) (s : PSt) : blkS (a :: r) s = M.bind a (seqK (blkS r)) s := by
  show seqF a (blkS r) s = _
  unfold seqF seqK
  rfl
theorem z_seqK_n (b : M Fl) (s : PSt) : seqK b .nx s = b s := by rfl
theorem z_seqK_r (b : M Fl) (v : RV) (s : PSt) : seqK b (.rt v) s = some (.ok (.rt v), s) := by rfl
theorem z_seqK_b (b : M Fl) (s : PSt) : seqK b .bk s = some (.ok .bk, s) := by rfl
theorem z_seqK_c (b : M Fl) (s : PSt) : seqK b .ct s = some (.ok .ct, s) := by rfl
theorem z_okF (m : M Unit) (s : PSt) : okF m s = M.bind m (fun _ => M.pure .nx) s := by rfl
def chkK (m : Nat) (r : α) (s : PSt) : Option (Rs α × PSt) := if m ≤ s.L.length then some (.ok r, s) else none
theorem z_chk (m : Nat) (b : M α) (s : PSt) : chk m b s = M.bind b (chkK m) s := by rfl
theorem z_chkK (m : Nat) (r : α) (env : EnvP) (L : List MO) : chkK m r ⟨env, L⟩ = if m ≤ L.length then some (.ok r, ⟨env, L⟩) else none := by rfl
theorem z_set (m : Nat) (own : Bool) (i : Nat) (a : M RV) (s : PSt) : setS m own i a s = M.bind (M.bind (chk m a) (stoN m own i)) (fun _ => M.pure .nx) s := by rfl
theorem z_sto_c (m i : Nat) (own : Bool) (c : C) (env : EnvP) (L : List MO) : stoN m own i (.c c) ⟨env, L⟩ = some (.ok (), ⟨env.set i (some c), gc m (env.set i (some c)) L⟩) := by rfl
theorem z_sto_f (m i : Nat) (xs : List D) (env : EnvP) (L : List MO) : stoN m false i (.f xs) ⟨env, L⟩ = some (.ok (), ⟨env.set i (some (.d (.list xs))), gc m (env.set i none) L⟩) := by rfl
theorem z_sto_o (m i : Nat) (xs : List D) (env : EnvP) (L : List MO) : stoN m true i (.f xs) ⟨env, L⟩ = some (.ok (), ⟨env.set i (some (.r (gc m (env.set i none) L).length)), gc m (env.set i none) L ++ [.lst xs]⟩) := by rfl
theorem z_sto_g (m i : Nat) (own : Bool) (kvs : List (D × D)) (env : EnvP) (L : List MO) : stoN m own i (.g kvs) ⟨env, L⟩ = some (.ok (), ⟨env.set i (some (.r (gc m (env.set i none) L).length)), gc m (env.set i none) L ++ [.dic kvs]⟩) := by rfl
theorem z_item (m : Nat) (e o i : M RV) (s : PSt) : itemS m e o i s = M.bind (chk m (M.bind (asD m e) fun x => M.bind (M.bind o optrM) fun k => M.bind (asC i) fun c => M.bind (rdM c) fun y => setL fun L => stoO L k y x)) (fun _ => M.pure .nx) s := by rfl
theorem z_optrM (k : Nat) (s : PSt) : optrM (.c (.r k)) s = some (.ok k, s) := by rfl
def stoR (L : List MO) (k : Nat) (y x : D) : Option MO → Option (List MO)
  | some (.lst xs) => (match y with
    | .int i => (match ixN xs.length i with
      | some j => some (L.set k (.lst (xs.set j x)))
      | none => none)
    | _ => none)
  | some (.dic kvs) => if (keyD y).isSome && decide (kvs.length ≤ 100000) then some (L.set k (.dic (putD kvs y x))) else none
  | _ => none
theorem z_setO (L : List MO) (k : Nat) (y x : D) : stoO L k y x = stoR L k y x L[k]? := by
  unfold stoO stoR
  rfl
theorem z_setR (L : List MO) (k : Nat) (i : Int) (x : D) (xs : List D) : stoR L k (.int i) x (some (.lst xs)) = match ixN xs.length i with
    | some j => some (L.set k (.lst (xs.set j x)))
    | none => none := rfl
theorem z_setRd (L : List MO) (k : Nat) (y x : D) (kvs : List (D × D)) : stoR L k y x (some (.dic kvs)) = if (keyD y).isSome && decide (kvs.length ≤ 100000) then some (L.set k (.dic (putD kvs y x))) else none := by rfl
theorem z_key_s (x : Str) : (keyD (.str x)).isSome = true := by rfl
theorem z_key_i (x : Int) : (keyD (.int x)).isSome = true := by rfl
theorem z_isi (t : Ty) (a : M RV) (s : PSt) : isiM t a s = M.bind (asC a) (fun c => M.bind (rdM c) fun x => ret (.bool (isT t x))) s := by rfl
theorem z_srtSet (a : M RV) (s : PSt) : srtSetM a s = M.bind (asC a) (fun c => M.bind (rdM c) fun x => opM (srtSetO x)) s := by rfl
theorem z_lenSet (a : M RV) (s : PSt) : lenSetM a s = M.bind (asC a) (fun c => M.bind (rdM c) fun x => opM (lenSetO x)) s := by rfl
theorem z_dct (a : M RV) (s : PSt) : dctM a s = M.bind (asC a) (fun c => M.bind (rdM c) fun x => M.bind (optM (dctO x)) fun kvs => M.pure (.g kvs)) s := by rfl
theorem z_revM (a : M RV) (s : PSt) : revM a s = M.bind (asC a) (fun c => M.bind (rdM c) fun x => opM (revO x)) s := by rfl
theorem z_rev_l (xs : List D) : revO (.list xs) = some (.f xs.reverse) := by rfl
theorem z_rev_t (xs : List D) : revO (.tuple xs) = some (.d (.tuple xs.reverse)) := by rfl
theorem z_add_bi (a : Bool) (j : Int) : binO .Add (.bool a) (.int j) = some (.d (.int ((if a = true then (1 : Int) else 0) + j))) := by rfl
theorem z_add_ib (i : Int) (b : Bool) : binO .Add (.int i) (.bool b) = some (.d (.int (i + if b = true then (1 : Int) else 0))) := by rfl
theorem z_sub_bi (a : Bool) (j : Int) : binO .Sub (.bool a) (.int j) = some (.d (.int ((if a = true then (1 : Int) else 0) - j))) := by rfl
theorem z_sub_ib (i : Int) (b : Bool) : binO .Sub (.int i) (.bool b) = some (.d (.int (i - if b = true then (1 : Int) else 0))) := by rfl
theorem z_lt_s (i j : Str) : cmpO .Lt (.str i) (.str j) = some (decide (i.cps.toList < j.cps.toList)) := by rfl
theorem z_sl_s (z : Str) (lo hi : Option Int) : slO (.str z) lo hi = if fits z.length then some (.d (.str (cutS z lo hi))) else none := by rfl
theorem z_ix_s (z : Str) (i : Int) : ixO (.str z) (.int i) = if fits z.length then (atI z.cps.toList i).map fun c => PyData.str ⟨#[c]⟩ else none := by rfl
theorem z_newd (s : PSt) : newD s = some (.ok (.g []), s) := by rfl
theorem z_isT_si (x : Str) : isT .str (.str x) = true := by rfl
theorem z_isT_st (x : List D) : isT .str (.tuple x) = false := by rfl
theorem z_isT_sl (x : List D) : isT .str (.list x) = false := by rfl
theorem z_isT_sn (x : Int) : isT .str (.int x) = false := by rfl
theorem z_isT_sb (x : Bool) : isT .str (.bool x) = false := by rfl
theorem z_isT_s0 : isT .str .none = false := by rfl
theorem z_isT_ts (x : Str) : isT .tuple (.str x) = false := by rfl
theorem z_isT_tt (x : List D) : isT .tuple (.tuple x) = true := by rfl
theorem z_isT_tl (x : List D) : isT .tuple (.list x) = false := by rfl
theorem z_isT_tn (x : Int) : isT .tuple (.int x) = false := by rfl
theorem z_isT_tb (x : Bool) : isT .tuple (.bool x) = false := by rfl
theorem z_isT_t0 : isT .tuple .none = false := by rfl
theorem z_isT_is (x : Str) : isT .int (.str x) = false := by rfl
theorem z_isT_it (x : List D) : isT .int (.tuple x) = false := by rfl
theorem z_isT_il (x : List D) : isT .int (.list x) = false := by rfl
theorem z_isT_in (x : Int) : isT .int (.int x) = true := by rfl
theorem z_isT_ib (x : Bool) : isT .int (.bool x) = true := by rfl
theorem z_isT_i0 : isT .int .none = false := by rfl
theorem z_isT_bs (x : Str) : isT .bool (.str x) = false := by rfl
theorem z_isT_bt (x : List D) : isT .bool (.tuple x) = false := by rfl
theorem z_isT_bl (x : List D) : isT .bool (.list x) = false := by rfl
theorem z_isT_bn (x : Int) : isT .bool (.int x) = false := by rfl
theorem z_isT_bb (x : Bool) : isT .bool (.bool x) = true := by rfl
theorem z_isT_b0 : isT .bool .none = false := by rfl
theorem z_isT_ls (x : Str) : isT .list (.str x) = false := by rfl
theorem z_isT_lt (x : List D) : isT .list (.tuple x) = false := by rfl
theorem z_isT_ll (x : List D) : isT .list (.list x) = true := by rfl
theorem z_isT_ln (x : Int) : isT .list (.int x) = false := by rfl
theorem z_isT_lb (x : Bool) : isT .list (.bool x) = false := by rfl
theorem z_isT_l0 : isT .list .none = false := by rfl
theorem z_srt_d (kvs : List (D × D)) : bltO .srt [.dict kvs] = if sortOk (kvs.map (·.1)) then some (.f (sortD (kvs.map (·.1)))) else none := by rfl
theorem z_len_d (kvs : List (D × D)) : bltO .len [.dict kvs] = some (.d (.int kvs.length)) := by rfl
theorem z_lst_d (kvs : List (D × D)) : bltO .lst [.dict kvs] = some (.f (kvs.map (·.1))) := by rfl
theorem z_in_d (x : D) (kvs : List (D × D)) : inO x (.dict kvs) = if (keyD x).isSome then some (findD kvs x).isSome else none := by rfl
theorem z_ix_d (x : D) (kvs : List (D × D)) : ixO (.dict kvs) x = if (keyD x).isSome then findD kvs x else none := by cases x <;> rfl
theorem z_unp (m : Nat) (ts : List (D → M Unit)) (a : M RV) (s : PSt) : unpS m ts a s = M.bind (M.bind (chk m (asD m a)) (tgS ts)) (fun _ => M.pure .nx) s := by rfl
theorem z_tgN (i : Nat) (x : D) (env : EnvP) (L : List MO) : tgN i x ⟨env, L⟩ = some (.ok (), ⟨env.set i (some (.d x)), L⟩) := by rfl
theorem z_tgS_t (ts : List (D → M Unit)) (xs : List D) (s : PSt) : tgS ts (.tuple xs) s = if xs.length == ts.length then eachT ts xs s else none := by
  unfold tgS
  show (if xs.length == ts.length then eachT ts xs else M.fail) s = _
  split <;> rfl
theorem z_tgS_l (ts : List (D → M Unit)) (xs : List D) (s : PSt) : tgS ts (.list xs) s = if xs.length == ts.length then eachT ts xs s else none := by
  unfold tgS
  show (if xs.length == ts.length then eachT ts xs else M.fail) s = _
  split <;> rfl
theorem z_each0 (s : PSt) : eachT [] [] s = some (.ok (), s) := by rfl
theorem z_each (t : D → M Unit) (ts : List (D → M Unit)) (x : D) (xs : List D) (s : PSt) : eachT (t :: ts) (x :: xs) s = M.bind (t x) (fun _ => eachT ts xs) s := by rfl
theorem z_expr (m : Nat) (a : M RV) (s : PSt) : exprS m a s = M.bind (M.bind (chk m a) (fun _ => M.pure ())) (fun _ => M.pure .nx) s := by rfl
theorem z_retS (m : Nat) (a : M RV) (s : PSt) : retS m a s = M.bind (chk m a) (retM m) s := by rfl
theorem z_retM_d (m : Nat) (x : D) (s : PSt) : retM m (.c (.d x)) s = some (.ok (.rt (.c (.d x))), s) := by rfl
theorem z_retM_r (m k : Nat) (s : PSt) : retM m (.c (.r k)) s = if m ≤ k then some (.ok (.rt (.c (.r k))), s) else none := by rfl
theorem z_retM_f (m : Nat) (xs : List D) (s : PSt) : retM m (.f xs) s = some (.ok (.rt (.f xs)), s) := by rfl
theorem z_if (m : Nat) (t : M Bool) (a b : M Fl) (s : PSt) : ifS m t a b s = M.bind (chk m t) (fun c => if c then a else b) s := by rfl
theorem z_for (m : Nat) (tg : D → M Unit) (it : M (List D)) (b : M Fl) (s : PSt) : forS m tg it b s = M.bind (chk m it) (fun items => forL tg b items) s := by rfl
theorem z_for0 (tg : D → M Unit) (b : M Fl) (s : PSt) : forL tg b [] s = some (.ok .nx, s) := by rfl
/-! own things that nobody reaches -/
theorem z_gc (m : Nat) (env : EnvP) (L : List MO) : gc m env L = L.take (max m (env.foldl hiC 0)) := by rfl
theorem z_hi_d (n : Nat) (x : D) : hiC n (some (.d x)) = n := by rfl
theorem z_hi_n (n : Nat) : hiC n none = n := by rfl
theorem z_hi_m (n : Nat) (z : Option D) : hiC n (z.map C.d) = n := by cases z <;> rfl
theorem z_hi_r (n k : Nat) : hiC n (some (.r k)) = if n ≤ k + 1 then k + 1 else n := by
  show max n (k + 1) = _
  rw [Nat.max_def]
theorem z_max (a b : Nat) : max a b = if a ≤ b then b else a := Nat.max_def
/-! operators of data -/
theorem z_add_i (i j : Int) : binO .Add (.int i) (.int j) = some (.d (.int (i + j))) := by rfl
theorem z_sub_i (i j : Int) : binO .Sub (.int i) (.int j) = some (.d (.int (i - j))) := by rfl
theorem z_add_t (a b : List D) : binO .Add (.tuple a) (.tuple b) = if fits (a.length + b.length) then some (.d (.tuple (a ++ b))) else none := by rfl
theorem z_add_l (a b : List D) : binO .Add (.list a) (.list b) = if fits (a.length + b.length) then some (.f (a ++ b)) else none := by rfl
theorem z_add_s (a b : Str) : binO .Add (.str a) (.str b) = if fits (a.length + b.length) then some (.d (.str (a ++ b))) else none := by rfl
theorem z_mul_i (i j : Int) : binO .Mult (.int i) (.int j) = if big i || big j then some (.d (.int (i * j))) else none := by rfl
theorem z_mul_t (a : List D) (k : Int) : binO .Mult (.tuple a) (.int k) = if mulOk a.length k then some (.d (.tuple (List.replicate k.toNat a).flatten)) else none := by rfl
theorem z_mul_l (a : List D) (k : Int) : binO .Mult (.list a) (.int k) = if mulOk a.length k then some (.f (List.replicate k.toNat a).flatten) else none := by rfl
theorem z_cmp_eq (x y : D) : cmpO .Eq x y = eqO x y := by cases x <;> cases y <;> rfl
theorem z_cmp_ne (x y : D) : cmpO .NotEq x y = (eqO x y).map (!·) := by cases x <;> cases y <;> rfl
theorem z_cmp_in (x y : D) : cmpO .In x y = inO x y := by cases x <;> cases y <;> rfl
theorem z_cmp_ni (x y : D) : cmpO .NotIn x y = (inO x y).map (!·) := by cases x <;> cases y <;> rfl
theorem z_is (x : D) : cmpO .Is x .none = some (isNone x) := by cases x <;> rfl
theorem z_isnt (x : D) : cmpO .IsNot x .none = some (!isNone x) := by cases x <;> rfl
theorem z_lt (i j : Int) : cmpO .Lt (.int i) (.int j) = some (decide (i < j)) := by rfl
theorem z_le (i j : Int) : cmpO .LtE (.int i) (.int j) = some (decide (i ≤ j)) := by rfl
theorem z_gt (i j : Int) : cmpO .Gt (.int i) (.int j) = some (decide (j < i)) := by rfl
theorem z_ge (i j : Int) : cmpO .GtE (.int i) (.int j) = some (decide (j ≤ i)) := by rfl
theorem z_isn_n : isNone .none = true := by rfl
theorem z_isn_i (i : Int) : isNone (.int i) = false := by rfl
theorem z_isn_s (i : Str) : isNone (.str i) = false := by rfl
theorem z_isn_t (i : List D) : isNone (.tuple i) = false := by rfl
theorem z_isn_l (i : List D) : isNone (.list i) = false := by rfl
theorem z_isn_b (i : Bool) : isNone (.bool i) = false := by rfl
theorem z_ix_l0 (x : D) (r : List D) : ixO (.list (x :: r)) (.int 0) = some x := ix_list_at (i := 0) rfl
theorem z_ix_l1 (x y : D) (r : List D) : ixO (.list (x :: y :: r)) (.int 1) = some y := ix_list_at (i := 1) rfl
theorem z_ix_l2 (x y z : D) (r : List D) : ixO (.list (x :: y :: z :: r)) (.int 2) = some z := ix_list_at (i := 2) rfl
theorem z_ix_l3 (x y z u : D) (r : List D) : ixO (.list (x :: y :: z :: u :: r)) (.int 3) = some u := ix_list_at (i := 3) rfl
theorem z_ix_t0 (x : D) (r : List D) : ixO (.tuple (x :: r)) (.int 0) = some x := ix_tup_at (i := 0) rfl
theorem z_ix_t1 (x y : D) (r : List D) : ixO (.tuple (x :: y :: r)) (.int 1) = some y := ix_tup_at (i := 1) rfl
theorem z_ix_t2 (x y z : D) (r : List D) : ixO (.tuple (x :: y :: z :: r)) (.int 2) = some z := ix_tup_at (i := 2) rfl
theorem z_ix_t3 (x y z u : D) (r : List D) : ixO (.tuple (x :: y :: z :: u :: r)) (.int 3) = some u := ix_tup_at (i := 3) rfl
theorem z_ix_t4 (x y z u v : D) (r : List D) : ixO (.tuple (x :: y :: z :: u :: v :: r)) (.int 4) = some v := ix_tup_at (i := 4) rfl
theorem z_sl_l (xs : List D) (a b : Option Int) : slO (.list xs) a b = some (.f (cutD xs a b)) := by rfl
theorem z_sl_t (xs : List D) (a b : Option Int) : slO (.tuple xs) a b = some (.d (.tuple (cutD xs a b))) := by rfl
theorem z_map_s {γ δ : Type} (f : γ → δ) (a : γ) : (some a).map f = some (f a) := by rfl
theorem z_map_n {γ δ : Type} (f : γ → δ) : (none : Option γ).map f = none := by rfl
theorem z_len_l (l : List D) : bltO .len [.list l] = some (.d (.int l.length)) := by rfl
theorem z_len_t (l : List D) : bltO .len [.tuple l] = some (.d (.int l.length)) := by rfl
theorem z_tup_l (l : List D) : bltO .tup [.list l] = some (.d (.tuple l)) := by rfl
theorem z_tup_t (l : List D) : bltO .tup [.tuple l] = some (.d (.tuple l)) := by rfl
theorem z_lst_l (l : List D) : bltO .lst [.list l] = some (.f l) := by rfl
theorem z_lst_t (l : List D) : bltO .lst [.tuple l] = some (.f l) := by rfl
theorem z_min2 (i j : Int) : bltO .min [.int i, .int j] = some (.d (.int (if j < i then j else i))) := by rfl
theorem z_max2 (i j : Int) : bltO .max [.int i, .int j] = some (.d (.int (if j > i then j else i))) := by rfl
theorem z_int_b (b : Bool) : bltO .int [.bool b] = some (.d (.int (if b then 1 else 0))) := by rfl
theorem z_int_i (i : Int) : bltO .int [.int i] = some (.d (.int i)) := by rfl
theorem z_srt (l : List D) : bltO .srt [.list l] = if sortOk l then some (.f (sortD l)) else none := by rfl
theorem z_rep (x : D) : bltO .rep [x] = if noD x && x.showable && SeqAt.shaped x && fits x.shown.length then some (.d (.str x.shown)) else none := by rfl
theorem z_seq_l (l : List D) : seqOf (.list l) = some l := by rfl
theorem z_seq_t (l : List D) : seqOf (.tuple l) = some l := by rfl
theorem fits_ok {n : Nat} (h : n ≤ 1000000) : fits n = true := decide_eq_true h
theorem small_ok {i : Int} (h : -(2 ^ 60) < i) (h2 : i < 2 ^ 60) : smallI i = true := decide_eq_true (by omega)
end
end Pd

set_option exponentiation.threshold 3000
set_option Elab.async false
set_option linter.all false
set_option maxRecDepth 100000
/-! Sizes of data: what is small enough to be told, compared. -/
namespace Pd
open PySem L2
def okStr (z : Str) : Prop := PyData.strOk z = true ∧ ∀ c ∈ z.cps.toList, c < 16 ^ 8
mutual
def tidy : D → Prop
  | .none => True
  | .bool _ => True
  | .int i => i.natAbs < 10 ^ 40
  | .str z => okStr z
  | .list xs => tidyAll xs
  | .tuple xs => tidyAll xs
  | .dict _ => False
def tidyAll : List D → Prop
  | [] => True
  | x :: xs => tidy x ∧ tidyAll xs
end
mutual
def wt : D → Nat
  | .none => 5
  | .bool _ => 5
  | .int _ => 41
  | .str z => 10 * z.length + 2
  | .list xs => 3 + wtAll xs
  | .tuple xs => 3 + wtAll xs
  | .dict _ => 0
def wtAll : List D → Nat
  | [] => 0
  | x :: xs => wt x + 2 + wtAll xs
end
theorem log2_small {n : Nat} (h : n < 10 ^ 40) : n.log2 < 1920 := by
  by_cases h0 : n = 0
  · subst h0; decide
  · exact (Nat.log2_lt h0).mpr (Nat.lt_trans h (by decide))
mutual
theorem tidy_show : ∀ d : D, tidy d → d.showable = true ∧ d.canLay0 = true
  | .none, _ => ⟨rfl, rfl⟩
  | .bool _, _ => ⟨rfl, rfl⟩
  | .int i, h => ⟨decide_eq_true (log2_small h), rfl⟩
  | .str z, h => ⟨rfl, h.1⟩
  | .list xs, h => by
    obtain ⟨a, b⟩ := tidyAll_show xs h
    exact ⟨a, b⟩
  | .tuple xs, h => by
    obtain ⟨a, b⟩ := tidyAll_show xs h
    exact ⟨a, b⟩
  | .dict _, h => h.elim
theorem tidyAll_show : ∀ xs : List D, tidyAll xs → PyData.showableAll xs = true ∧ PyData.canLayAll0 xs = true
  | [], _ => ⟨rfl, rfl⟩
  | x :: xs, h => by
    obtain ⟨a, b⟩ := tidy_show x h.1
    obtain ⟨c, d⟩ := tidyAll_show xs h.2
    refine ⟨?_, ?_⟩
    · show (x.showable && PyData.showableAll xs) = true
      rw [a, c]; rfl
    · show (x.canLay0 && PyData.canLayAll0 xs) = true
      rw [b, d]; rfl
end
theorem textFrom_eq : ∀ (ts : List Str) (k : Nat) (acc : Str), (textFrom k acc ts).length ≤ acc.length + piled ts
  | [], k, acc => Nat.le_add_right _ _
  | t :: r, k, acc => by
    have ih := textFrom_eq r (k + 1) (acc ++ (if k > 0 then ", " else "" : String) ++ t)
    have e : (acc ++ (if k > 0 then ", " else "" : String) ++ t).length = acc.length + (if k > 0 then 2 else 0) + t.length := by
      rw [strLen_append, strLen_append]
      split <;> rfl
    have e2 : (if k > 0 then 2 else 0 : Nat) ≤ 2 := by split <;> omega
    show (textFrom (k + 1) _ r).length ≤ _
    rw [piled_cons]
    omega
mutual
theorem shown_wt : ∀ d : D, tidy d → d.shown.length ≤ wt d
  | .none, _ => by decide
  | .bool true, _ => by decide
  | .bool false, _ => by decide
  | .int i, h => by
    show (Str.ofString (toString i)).length ≤ 41
    rw [ofString_length]
    exact int_text_length_le10 (k := 40) (by decide) h
  | .str z, h => StrLaws.reprText_len z h.2
  | .list xs, h => by
    have := shownAll_wt xs h
    show (listText (PyData.shownAll xs)).length ≤ 3 + wtAll xs
    unfold listText
    rw [strLen_append]
    have e := textFrom_eq (PyData.shownAll xs) 0 "["
    have e1 : ((("[" : String) : Str)).length = 1 := rfl
    have e2 : ((("]" : String) : Str)).length = 1 := rfl
    omega
  | .tuple xs, h => by
    have := shownAll_wt xs h
    show (tupleText (PyData.shownAll xs)).length ≤ 3 + wtAll xs
    unfold tupleText
    rw [strLen_append, strLen_append]
    have e1 : ((("(" : String) : Str)).length = 1 := rfl
    have e3 : (((if (PyData.shownAll xs).length == 1 then ",)" else ")" : String) : Str)).length ≤ 2 := by split <;> decide
    by_cases hz : PyData.shownAll xs = []
    · rw [hz] at e3 ⊢
      have e4 : (Str.join ", " []).length = 0 := rfl
      omega
    · have := join_length_add _ hz
      omega
  | .dict _, h => h.elim
theorem shownAll_wt : ∀ xs : List D, tidyAll xs → piled (PyData.shownAll xs) ≤ wtAll xs
  | [], _ => Nat.le_refl _
  | x :: xs, h => by
    have a := shown_wt x h.1
    have b := shownAll_wt xs h.2
    show piled (x.shown :: PyData.shownAll xs) ≤ wt x + 2 + wtAll xs
    rw [piled_cons]
    omega
end
/-- small: of at most k levels, w signs as text -/
def Sm (k w : Nat) (d : D) : Prop := tidy d ∧ d.depth ≤ k ∧ wt d ≤ w
def SmAll (k w : Nat) (xs : List D) : Prop := tidyAll xs ∧ PyData.depthAll xs ≤ k ∧ wtAll xs ≤ w
theorem Sm.mono {k w k' w' : Nat} {d : D} (h : Sm k w d) (hk : k ≤ k') (hw : w ≤ w') : Sm k' w' d := ⟨h.1, Nat.le_trans h.2.1 hk, Nat.le_trans h.2.2 hw⟩
theorem SmAll.mono {k w k' w' : Nat} {d : List D} (h : SmAll k w d) (hk : k ≤ k') (hw : w ≤ w') : SmAll k' w' d := ⟨h.1, Nat.le_trans h.2.1 hk, Nat.le_trans h.2.2 hw⟩
theorem Sm.none : Sm 0 5 .none := ⟨trivial, Nat.le_refl _, Nat.le_refl _⟩
theorem Sm.bool (b : Bool) : Sm 0 5 (.bool b) := ⟨trivial, Nat.le_refl _, Nat.le_refl _⟩
theorem Sm.int {i : Int} (h : i.natAbs < 10 ^ 40) : Sm 0 41 (.int i) := ⟨h, Nat.le_refl _, Nat.le_refl _⟩
theorem Sm.str {z : Str} {n : Nat} (h : okStr z) (hn : z.length ≤ n) : Sm 0 (10 * n + 2) (.str z) := ⟨h, Nat.le_refl _, by show 10 * z.length + 2 ≤ _; omega⟩
theorem SmAll.nil : SmAll 0 0 [] := ⟨trivial, Nat.le_refl _, Nat.le_refl _⟩
theorem SmAll.cons {k k' w w' : Nat} {x : D} {xs : List D} (h : Sm k w x) (t : SmAll k' w' xs) : SmAll (max k k') (w + 2 + w') (x :: xs) := ⟨⟨h.1, t.1⟩, by
  show max x.depth (PyData.depthAll xs) ≤ _
  have := h.2.1
  have := t.2.1
  omega, by
  show wt x + 2 + wtAll xs ≤ _
  have := h.2.2
  have := t.2.2
  omega⟩
theorem Sm.list {k w : Nat} {xs : List D} (h : SmAll k w xs) : Sm (k + 1) (w + 3) (.list xs) := ⟨h.1, by
  show PyData.depthAll xs + 1 ≤ _
  have := h.2.1
  omega, by
  show 3 + wtAll xs ≤ _
  have := h.2.2
  omega⟩
theorem Sm.tup {k w : Nat} {xs : List D} (h : SmAll k w xs) : Sm (k + 1) (w + 3) (.tuple xs) := ⟨h.1, by
  show PyData.depthAll xs + 1 ≤ _
  have := h.2.1
  omega, by
  show 3 + wtAll xs ≤ _
  have := h.2.2
  omega⟩
theorem SmAll.app {k k' w w' : Nat} {xs ys : List D} (h : SmAll k w xs) (t : SmAll k' w' ys) : SmAll (max k k') (w + w') (xs ++ ys) := by
  induction xs generalizing w with
  | nil => exact t.mono (by omega) (by omega)
  | cons x xs ih =>
    have h1 : Sm k (wt x) x := ⟨h.1.1, by
      have : max x.depth (PyData.depthAll xs) ≤ k := h.2.1
      omega, Nat.le_refl _⟩
    have h2 : SmAll k (wtAll xs) xs := ⟨h.1.2, by
      have : max x.depth (PyData.depthAll xs) ≤ k := h.2.1
      omega, Nat.le_refl _⟩
    have hw : wt x + 2 + wtAll xs ≤ w := h.2.2
    exact (SmAll.cons h1 (ih h2)).mono (by omega) (by omega)
theorem SmAll.map {α : Type} {k w : Nat} {enc : α → D} {l : List α} (h : ∀ x ∈ l, Sm k w (enc x)) : SmAll k (l.length * (w + 2)) (l.map enc) := by
  induction l with
  | nil => exact SmAll.nil.mono (by omega) (by omega)
  | cons x l ih =>
    refine (SmAll.cons (h x (.head _)) (ih fun y m => h y (.tail _ m))).mono (by omega) ?_
    rw [List.length_cons, Nat.add_mul]
    omega
theorem SmAll.mem {k w : Nat} {xs : List D} (h : ∀ x ∈ xs, Sm k w x) : SmAll k (xs.length * (w + 2)) xs := by
  have := SmAll.map (enc := id) (l := xs) h
  rwa [List.map_id] at this
theorem Sm.shaped {w : Nat} {d : D} (h : Sm 64 w d) : SeqAt.shaped d = true := by
  unfold SeqAt.shaped
  rw [(tidy_show d h.1).2, decide_eq_true h.2.1]
  rfl
theorem Sm.noD {k w : Nat} {d : D} (h : Sm k w d) : noD d = true := by
  cases d with
  | dict q => exact absurd h.1 (fun z => z)
  | _ => rfl
theorem rep_ok {d : D} (h : Sm 64 1000000 d) : bltO .rep [d] = some (.d (.str d.shown)) := by
  have hs := shown_wt d h.1
  have : fits d.shown.length = true := decide_eq_true (Nat.le_trans hs h.2.2)
  rw [z_rep, (tidy_show d h.1).1, h.shaped, this, h.noD]
  rfl
theorem eq_ok {w w' : Nat} {x y : D} (h : Sm 64 w x) (h' : Sm 64 w' y) : eqO x y = some (PyData.eqv x y) := by
  unfold eqO
  rw [h.shaped, h'.shaped, h.noD, h'.noD, Bool.and_self, Bool.and_self, Bool.and_self, Bool.or_true]
  rfl
theorem eqO_str (a b : Str) : eqO (.str a) (.str b) = some (decide (a = b)) := by
  show some (PyData.eqv (.str a) (.str b)) = _
  simp only [PyData.eqv]
  congr 1
theorem in_ok_l {w w' : Nat} {x : D} {ys : List D} (h : Sm 64 w x) (h' : Sm 64 w' (.list ys)) : inO x (.list ys) = some (ys.any fun z => PyData.eqv z x) := by
  show (if noD x && SeqAt.shaped x && SeqAt.shaped (.list ys) then some (ys.any fun z => PyData.eqv z x) else none) = _
  rw [h.shaped, h'.shaped, h.noD]
  rfl
theorem in_ok_t {w w' : Nat} {x : D} {ys : List D} (h : Sm 64 w x) (h' : Sm 64 w' (.tuple ys)) : inO x (.tuple ys) = some (ys.any fun z => PyData.eqv z x) := by
  show (if noD x && SeqAt.shaped x && SeqAt.shaped (.tuple ys) then some (ys.any fun z => PyData.eqv z x) else none) = _
  rw [h.shaped, h'.shaped, h.noD]
  rfl
theorem eqv_i (i j : Int) : PyData.eqv (.int i) (.int j) = (i == j) := by simp only [PyData.eqv]
theorem eqv_s (i j : Str) : PyData.eqv (.str i) (.str j) = (i == j) := by simp only [PyData.eqv]
theorem eqv_b (i j : Bool) : PyData.eqv (.bool i) (.bool j) = (i == j) := by simp only [PyData.eqv]
theorem eqv_n : PyData.eqv .none .none = true := by simp only [PyData.eqv]
theorem eqv_ni (i : Int) : PyData.eqv .none (.int i) = false := by simp only [PyData.eqv]
theorem eqv_in (i : Int) : PyData.eqv (.int i) .none = false := by simp only [PyData.eqv]
theorem eqv_t (xs ys : List D) : PyData.eqv (.tuple xs) (.tuple ys) = PyData.eqvAll xs ys := by simp only [PyData.eqv]
theorem eqv_l (xs ys : List D) : PyData.eqv (.list xs) (.list ys) = PyData.eqvAll xs ys := by simp only [PyData.eqv]
theorem eqvAll_c (x y : D) (xs ys : List D) : PyData.eqvAll (x :: xs) (y :: ys) = (PyData.eqv x y && PyData.eqvAll xs ys) := by simp only [PyData.eqvAll]
theorem eqvAll_n : PyData.eqvAll [] [] = true := by simp only [PyData.eqvAll]
theorem eqvAll_nc (y : D) (ys : List D) : PyData.eqvAll [] (y :: ys) = false := by simp only [PyData.eqvAll]
theorem eqvAll_cn (y : D) (ys : List D) : PyData.eqvAll (y :: ys) [] = false := by simp only [PyData.eqvAll]
/-- where eqv of what stands for things is that they are the same -/
def Faith {α : Type} (enc : α → D) : Prop := ∀ a b : α, PyData.eqv (enc a) (enc b) = true ↔ a = b
theorem Faith.all {α : Type} {enc : α → D} (h : Faith enc) : ∀ xs ys : List α, PyData.eqvAll (xs.map enc) (ys.map enc) = true ↔ xs = ys
  | [], [] => by simp only [List.map_nil, eqvAll_n]
  | [], y :: ys => by simp only [List.map_nil, List.map_cons, eqvAll_nc]; simp
  | x :: xs, [] => by simp only [List.map_nil, List.map_cons, eqvAll_cn]; simp
  | x :: xs, y :: ys => by
    simp only [List.map_cons, eqvAll_c, Bool.and_eq_true, h x y, h.all xs ys]
    simp
theorem Faith.tup {α : Type} {enc : α → D} (h : Faith enc) : Faith fun xs : List α => .tuple (xs.map enc) := fun xs ys => by
  rw [eqv_t]
  exact h.all xs ys
theorem Faith.lst {α : Type} {enc : α → D} (h : Faith enc) : Faith fun xs : List α => .list (xs.map enc) := fun xs ys => by
  rw [eqv_l]
  exact h.all xs ys
theorem faith_int : Faith PyData.int := fun a b => by
  rw [eqv_i]
  simp
theorem faith_str : Faith PyData.str := fun a b => by
  rw [eqv_s]
  simp
/-- in, of faithful things -/
theorem Faith.any {α : Type} [DecidableEq α] {enc : α → D} (h : Faith enc) (xs : List α) (x : α) : ((xs.map enc).any fun z => PyData.eqv z (enc x)) = decide (x ∈ xs) := by
  rw [Bool.eq_iff_iff, List.any_eq_true, decide_eq_true_eq]
  constructor
  · rintro ⟨z, m, e⟩
    obtain ⟨y, my, rfl⟩ := List.mem_map.mp m
    rw [← (h y x).mp e]
    exact my
  · intro m
    exact ⟨enc x, List.mem_map.mpr ⟨x, m, rfl⟩, (h x x).mpr rfl⟩
end Pd

set_option Elab.async false
set_option linter.all false
set_option maxRecDepth 100000
/-! Loops and comprehensions, by what holds between two turns. -/
namespace Pd
open PySem L2
theorem forL_cons (tg : D → M Unit) (b : M Fl) (x : D) (r : List D) (s : PSt) : forL tg b (x :: r) s = match M.bind (tg x) (fun _ => b) s with
  | some (.ok .nx, s2) => forL tg b r s2
  | some (.ok .ct, s2) => forL tg b r s2
  | some (.ok .bk, s2) => some (.ok .nx, s2)
  | some (.ok (.rt v), s2) => some (.ok (.rt v), s2)
  | some (.ex x, s2) => some (.ex x, s2)
  | none => none := by
  show M.bind (tg x) (fun _ => M.bind b _) s = _
  unfold M.bind
  cases tg x s with
  | none => rfl
  | some q =>
    obtain ⟨q, s1⟩ := q
    cases q with
    | ex y => rfl
    | ok u =>
      simp only
      cases b s1 with
      | none => rfl
      | some q =>
        obtain ⟨q, s2⟩ := q
        cases q with
        | ex y => rfl
        | ok fl => cases fl <;> rfl
theorem forL_inv {tg : D → M Unit} {b : M Fl} (I : List D → PSt → Prop) (h : ∀ x r s, I (x :: r) s → ∃ s2, M.bind (tg x) (fun _ => b) s = some (.ok .nx, s2) ∧ I r s2) :
    ∀ items s, I items s → ∃ s', forL tg b items s = some (.ok .nx, s') ∧ I [] s'
  | [], s, i => ⟨s, rfl, i⟩
  | x :: r, s, i => by
    obtain ⟨s2, e, i2⟩ := h x r s i
    obtain ⟨s', e', i'⟩ := forL_inv I h r s2 i2
    refine ⟨s', ?_, i'⟩
    rw [forL_cons, e]
    exact e'
/-- .. that may leave early -/
theorem forL_invR {tg : D → M Unit} {b : M Fl} (I : List D → PSt → Prop) (R : RV → PSt → Prop) (h : ∀ x r s, I (x :: r) s → (∃ s2, M.bind (tg x) (fun _ => b) s = some (.ok .nx, s2) ∧ I r s2) ∨ (∃ s2, M.bind (tg x) (fun _ => b) s = some (.ok .ct, s2) ∧ I r s2) ∨ ∃ v s2, M.bind (tg x) (fun _ => b) s = some (.ok (.rt v), s2) ∧ R v s2) :
    ∀ items s, I items s → (∃ s', forL tg b items s = some (.ok .nx, s') ∧ I [] s') ∨ ∃ v s', forL tg b items s = some (.ok (.rt v), s') ∧ R v s'
  | [], s, i => .inl ⟨s, rfl, i⟩
  | x :: r, s, i => by
    rw [forL_cons]
    rcases h x r s i with ⟨s2, e, i2⟩ | ⟨s2, e, i2⟩ | ⟨v, s2, e, q⟩
    · rw [e]
      exact forL_invR I R h r s2 i2
    · rw [e]
      exact forL_invR I R h r s2 i2
    · rw [e]
      exact .inr ⟨v, s2, rfl, q⟩
/-! comprehensions: the own names alone change -/
theorem qwipe_len (vs : List Nat) : ∀ env : EnvP, (wipeE env vs).length = env.length := by
  induction vs with
  | nil => exact fun _ => rfl
  | cons v vs ih => exact fun env => (ih (env.set v none)).trans List.length_set
theorem qwipe_get (vs : List Nat) : ∀ (env : EnvP) (i : Nat), i ∉ vs → (wipeE env vs)[i]? = env[i]? := by
  induction vs with
  | nil => exact fun _ _ _ => rfl
  | cons v vs ih =>
    intro env i h
    refine (ih (env.set v none) i fun m => h (.tail _ m)).trans ?_
    rw [List.getElem?_set_ne]
    intro e
    exact h (e ▸ .head _)
theorem qrestore_len (e0 : EnvP) (vs : List Nat) : ∀ e : EnvP, (restore vs e0 e).length = e.length := by
  induction vs with
  | nil => exact fun _ => rfl
  | cons v vs ih => exact fun e => (ih (e.set v (e0.getD v none))).trans List.length_set
theorem qrestore_get (e0 : EnvP) (vs : List Nat) : ∀ (e : EnvP) (i : Nat), i ∉ vs → (restore vs e0 e)[i]? = e[i]? := by
  induction vs with
  | nil => exact fun _ _ _ => rfl
  | cons v vs ih =>
    intro e i h
    refine (ih (e.set v (e0.getD v none)) i fun m => h (.tail _ m)).trans ?_
    rw [List.getElem?_set_ne]
    intro q
    exact h (q ▸ .head _)
theorem qrestore_in (e0 : EnvP) (vs : List Nat) : ∀ (e : EnvP) (i : Nat), i ∈ vs → i < e.length → (restore vs e0 e)[i]? = some (e0.getD i none) := by
  induction vs with
  | nil => exact fun _ _ h => nomatch h
  | cons v vs ih =>
    intro e i h hl
    show (restore vs e0 (e.set v (e0.getD v none)))[i]? = _
    by_cases m : i ∈ vs
    · exact ih _ i m (by rw [List.length_set]; exact hl)
    · rw [qrestore_get e0 vs _ i m]
      rcases List.mem_cons.mp h with rfl | h
      · rw [List.getElem?_set_self hl]
      · exact absurd h m
theorem qrestore_wipe {vs : List Nat} {e0 e : EnvP} (h : wipeE e vs = wipeE e0 vs) : restore vs e0 e = e0 := by
  have hl : e.length = e0.length := by
    have := congrArg List.length h
    rwa [qwipe_len, qwipe_len] at this
  refine List.ext_getElem? fun i => ?_
  by_cases m : i ∈ vs
  · by_cases q : i < e.length
    · rw [qrestore_in e0 vs e i m q]
      rw [List.getD_eq_getElem?_getD, List.getElem?_eq_getElem (hl ▸ q)]
      rfl
    · rw [List.getElem?_eq_none (by rw [qrestore_len]; omega), List.getElem?_eq_none (by omega)]
  · rw [qrestore_get e0 vs e i m, ← qwipe_get vs e i m, ← qwipe_get vs e0 i m, h]
/-- by an invariant: what is left, what was told so far, the own things -/
theorem lc_inv {m : Nat} {vs : List Nat} {tg : D → M Unit} {test : M Bool} {elt : M RV} {env : EnvP} (I : List D → List D → List MO → Prop)
    (h : ∀ x r ys L, I (x :: r) ys L → ∃ o env2 L2, M.bind (tg x) (fun _ => M.bind test fun b => if b then M.bind (asD m elt) fun y => M.pure (some y) else M.pure none) ⟨wipeE env vs, L⟩ = some (.ok o, ⟨env2, L2⟩) ∧ wipeE env2 vs = wipeE env vs ∧ I r (ys ++ o.toList) L2) :
    ∀ (items ys : List D) (L : List MO) (e : EnvP), wipeE e vs = wipeE env vs → I items ys L → ∃ zs e' L', compL (turnC m vs tg test elt) items ⟨e, L⟩ = some (.ok zs, ⟨e', L'⟩) ∧ wipeE e' vs = wipeE env vs ∧ I [] (ys ++ zs) L'
  | [], ys, L, e, he, i => ⟨[], e, L, rfl, he, by rw [List.append_nil]; exact i⟩
  | x :: r, ys, L, e, he, i => by
    obtain ⟨o, env2, L2, e2, w2, i2⟩ := h x r ys L i
    obtain ⟨zs, e', L', e3, w3, i3⟩ := lc_inv I h r _ L2 env2 w2 i2
    have t : turnC m vs tg test elt x ⟨e, L⟩ = some (.ok o, ⟨env2, L2⟩) := by
      show (M.bind (tg x) fun _ => M.bind test fun b => if b then M.bind (asD m elt) fun y => M.pure (some y) else M.pure none) ⟨wipeE e vs, L⟩ = _
      rw [he]
      exact e2
    cases o with
    | none => exact ⟨zs, e', L', compL_none t e3, w3, by simpa using i3⟩
    | some y => exact ⟨y :: zs, e', L', compL_some t e3, w3, by simpa using i3⟩
theorem lc_ex {m : Nat} {vs : List Nat} {tg : D → M Unit} {test : M Bool} {elt : M RV} {it : M (List D)} {items : List D} {s : PSt} {env : EnvP} {L : List MO} (I : List D → List D → List MO → Prop)
    (hi : it s = some (.ok items, ⟨env, L⟩)) (ho : ownFree vs env = true)
    (h : ∀ x r ys L, I (x :: r) ys L → ∃ o env2 L2, M.bind (tg x) (fun _ => M.bind test fun b => if b then M.bind (asD m elt) fun y => M.pure (some y) else M.pure none) ⟨wipeE env vs, L⟩ = some (.ok o, ⟨env2, L2⟩) ∧ wipeE env2 vs = wipeE env vs ∧ I r (ys ++ o.toList) L2)
    (i : I items [] L) (hf : ∀ ys L, I [] ys L → fits ys.length = true) :
    ∃ ys L', lcM m vs tg test elt it s = some (.ok (.f ys), ⟨env, L'⟩) ∧ I [] ys L' := by
  obtain ⟨zs, e', L', e, w, q⟩ := lc_inv I h items [] L env rfl i
  refine ⟨zs, L', ?_, by simpa using q⟩
  have := lc_at hi ho e (hf _ _ (by simpa using q))
  rw [this]
  show some (Rs.ok (RV.f zs), (⟨restore vs env e', L'⟩ : PSt)) = _
  rw [qrestore_wipe w]
/-- tests and elements that change nothing -/
theorem lc_map {α : Type} {enc : α → D} (p : α → Bool) (g : α → D) {m : Nat} {vs : List Nat} {tg : D → M Unit} {test : M Bool} {elt : M RV} {it : M (List D)} {xs : List α} {s : PSt} {env : EnvP} {L : List MO}
    (hi : it s = some (.ok (xs.map enc), ⟨env, L⟩)) (ho : ownFree vs env = true)
    (h : ∀ x ∈ xs, ∃ env2, tg (enc x) ⟨wipeE env vs, L⟩ = some (.ok (), ⟨env2, L⟩) ∧ wipeE env2 vs = wipeE env vs ∧ test ⟨env2, L⟩ = some (.ok (p x), ⟨env2, L⟩) ∧ (p x = true → asD m elt ⟨env2, L⟩ = some (.ok (g x), ⟨env2, L⟩)))
    (hf : xs.length ≤ 1000000) :
    lcM m vs tg test elt it s = some (.ok (.f ((xs.filter p).map g)), ⟨env, L⟩) := by
  have go : ∀ (ys : List α) (e : EnvP), (∀ y ∈ ys, y ∈ xs) → wipeE e vs = wipeE env vs → ∃ e', compL (turnC m vs tg test elt) (ys.map enc) ⟨e, L⟩ = some (.ok ((ys.filter p).map g), ⟨e', L⟩) ∧ wipeE e' vs = wipeE env vs := by
    intro ys
    induction ys with
    | nil => exact fun e _ w => ⟨e, rfl, w⟩
    | cons y ys ih =>
      intro e hm w
      obtain ⟨e2, h1, h2, h3, h4⟩ := h y (hm y (.head _))
      obtain ⟨e', q1, q2⟩ := ih e2 (fun z mz => hm z (.tail _ mz)) h2
      rw [← w] at h1
      cases hp : p y with
      | true =>
        rw [hp] at h3
        refine ⟨e', ?_, q2⟩
        rw [List.filter_cons_of_pos hp]
        exact compL_some (turn_yes h1 h3 (h4 hp)) q1
      | false =>
        rw [hp] at h3
        refine ⟨e', ?_, q2⟩
        rw [List.filter_cons_of_neg (by rw [hp]; exact Bool.false_ne_true)]
        exact compL_none (turn_no h1 h3) q1
  obtain ⟨e', q1, q2⟩ := go xs env (fun _ m => m) rfl
  have := lc_at hi ho q1 (decide_eq_true (by
    rw [List.length_map]
    exact Nat.le_trans (List.length_filter_le _ _) hf))
  rw [this]
  show some (Rs.ok (RV.f _), (⟨restore vs env e', L⟩ : PSt)) = _
  rw [qrestore_wipe q2]
/-- .. without a test -/
theorem lc_map1 {α : Type} {enc : α → D} (g : α → D) {m : Nat} {vs : List Nat} {tg : D → M Unit} {elt : M RV} {it : M (List D)} {xs : List α} {s : PSt} {env : EnvP} {L : List MO}
    (hi : it s = some (.ok (xs.map enc), ⟨env, L⟩)) (ho : ownFree vs env = true)
    (h : ∀ x ∈ xs, ∃ env2, tg (enc x) ⟨wipeE env vs, L⟩ = some (.ok (), ⟨env2, L⟩) ∧ wipeE env2 vs = wipeE env vs ∧ asD m elt ⟨env2, L⟩ = some (.ok (g x), ⟨env2, L⟩))
    (hf : xs.length ≤ 1000000) :
    lcM m vs tg (allT []) elt it s = some (.ok (.f (xs.map g)), ⟨env, L⟩) := by
  have := lc_map (fun _ => true) g hi ho (m := m) (vs := vs) (tg := tg) (test := allT []) (elt := elt) (fun x mx => by
    obtain ⟨e, h1, h2, h3⟩ := h x mx
    exact ⟨e, h1, h2, rfl, fun _ => h3⟩) hf
  rw [this, List.filter_eq_self.mpr fun _ _ => rfl]
end Pd

set_option Elab.async false
set_option linter.all false
set_option maxRecDepth 100000
/-! Written words compared. -/
namespace Pd
open PySem L2
def litOk (a : String) : Bool := PyData.strOk (Str.ofString a)
theorem ofS_inj {a b : String} : Str.ofString a = Str.ofString b ↔ a = b := by
  constructor
  · intro h
    have h2 : (Str.ofString a).cps.toList = (Str.ofString b).cps.toList := by rw [h]
    rw [Str.ofString_eq_toList, Str.ofString_eq_toList] at h2
    have h3 : a.toList.map Char.toNat = b.toList.map Char.toNat := by simpa using h2
    have inj : ∀ x y : Char, x.toNat = y.toNat → x = y := fun x y e => Char.toNat_inj.mp e
    exact String.toList_inj.mp (List.map_inj_right inj |>.mp h3)
  · rintro rfl
    rfl
theorem sm_lit {a : String} (h : litOk a = true) : SeqAt.shaped (.str (Str.ofString a)) = true := by
  unfold SeqAt.shaped
  have : (PyData.str (Str.ofString a)).canLay0 = true := h
  rw [this]
  rfl
theorem eqv_lit (a b : String) : PyData.eqv (.str (Str.ofString a)) (.str (Str.ofString b)) = decide (a = b) := by
  rw [eqv_s, Bool.eq_iff_iff, beq_iff_eq, decide_eq_true_eq]
  exact ofS_inj
theorem eqO_lit (a b : String) : eqO (.str (Str.ofString a)) (.str (Str.ofString b)) = some (decide (a = b)) := by
  show some (PyData.eqv _ _) = _
  rw [eqv_lit]
theorem eqO_sn {z : Str} (hz : PyData.strOk z = true) : eqO (.str z) .none = some false := by
  unfold eqO
  have e : SeqAt.shaped (.str z) = true := by
    unfold SeqAt.shaped
    have : (PyData.str z).canLay0 = true := hz
    rw [this]
    rfl
  rw [e]
  have e2 : SeqAt.shaped .none = true := by kernel_rfl
  rw [e2]
  rfl
theorem canLay_lit {a : String} (ha : litOk a = true) : (PyData.str (Str.ofString a)).canLay0 = true := ha
theorem sh_tup {xs : List D} (h : xs.all (fun x => x.canLay0) = true) (hd : xs.all (fun x => decide (x.depth ≤ 62)) = true) : SeqAt.shaped (.tuple xs) = true := by
  unfold SeqAt.shaped
  have a : ∀ ys : List D, ys.all (fun x => x.canLay0) = true → PyData.canLayAll0 ys = true := by
    intro ys
    induction ys with
    | nil => exact fun _ => rfl
    | cons y ys ih =>
      intro h
      rw [List.all_cons, Bool.and_eq_true] at h
      show (y.canLay0 && PyData.canLayAll0 ys) = true
      rw [h.1, ih h.2]
      rfl
  have b : ∀ ys : List D, ys.all (fun x => decide (x.depth ≤ 62)) = true → PyData.depthAll ys ≤ 62 := by
    intro ys
    induction ys with
    | nil => exact fun _ => Nat.zero_le _
    | cons y ys ih =>
      intro h
      rw [List.all_cons, Bool.and_eq_true, decide_eq_true_eq] at h
      show max y.depth (PyData.depthAll ys) ≤ 62
      have := ih h.2
      have := h.1
      omega
  refine Bool.and_eq_true_iff.mpr ⟨a xs h, decide_eq_true ?_⟩
  show PyData.depthAll xs + 1 ≤ 64
  have := b xs hd
  omega
theorem inO_lit {a : String} {bs : List String} (ha : litOk a = true) (hb : bs.all litOk = true) : inO (.str (Str.ofString a)) (.tuple (bs.map fun b => .str (Str.ofString b))) = some (bs.any fun b => decide (a = b)) := by
  have h2 : SeqAt.shaped (.tuple (bs.map fun b => .str (Str.ofString b))) = true := sh_tup (by
    rw [List.all_map]
    exact hb) (by
    rw [List.all_map]
    exact List.all_eq_true.mpr fun _ _ => rfl)
  show (if SeqAt.shaped _ && SeqAt.shaped (.tuple _) then some _ else none) = _
  rw [sm_lit ha, h2, List.any_map]
  simp only [Bool.and_self, if_true]
  refine congrArg some ?_
  rw [Bool.eq_iff_iff, List.any_eq_true, List.any_eq_true]
  refine exists_congr fun b => and_congr_right fun _ => ?_
  show PyData.eqv (.str (Str.ofString b)) (.str (Str.ofString a)) = true ↔ _
  rw [eqv_lit, decide_eq_true_eq, decide_eq_true_eq]
  exact eq_comm
theorem inO_lit2 {a b c : String} (ha : litOk a = true) (hb : litOk b = true) (hc : litOk c = true) : inO (.str (Str.ofString a)) (.tuple [.str (Str.ofString b), .str (Str.ofString c)]) = some (decide (a = b) || decide (a = c)) := by
  have := inO_lit (a := a) (bs := [b, c]) ha (by rw [List.all_cons, List.all_cons, hb, hc]; rfl)
  simpa using this
theorem inO_lit4 {a b c d e : String} (ha : litOk a = true) (hb : litOk b = true) (hc : litOk c = true) (hd : litOk d = true) (he : litOk e = true) : inO (.str (Str.ofString a)) (.tuple [.str (Str.ofString b), .str (Str.ofString c), .str (Str.ofString d), .str (Str.ofString e)]) = some (decide (a = b) || (decide (a = c) || (decide (a = d) || decide (a = e)))) := by
  have := inO_lit (a := a) (bs := [b, c, d, e]) ha (by rw [List.all_cons, List.all_cons, List.all_cons, List.all_cons, hb, hc, hd, he]; rfl)
  simpa using this
theorem inO_litU2 (a b c : String) : inO (.str (Str.ofString a)) (.tuple [.str (Str.ofString b), .str (Str.ofString c)]) = if litOk a && litOk b && litOk c then some (decide (a = b) || decide (a = c)) else inO (.str (Str.ofString a)) (.tuple [.str (Str.ofString b), .str (Str.ofString c)]) := by
  split
  · rename_i h
    simp only [Bool.and_eq_true] at h
    exact inO_lit2 h.1.1 h.1.2 h.2
  · rfl
theorem inO_litU4 (a b c d e : String) : inO (.str (Str.ofString a)) (.tuple [.str (Str.ofString b), .str (Str.ofString c), .str (Str.ofString d), .str (Str.ofString e)]) = if litOk a && litOk b && litOk c && litOk d && litOk e then some (decide (a = b) || (decide (a = c) || (decide (a = d) || decide (a = e)))) else inO (.str (Str.ofString a)) (.tuple [.str (Str.ofString b), .str (Str.ofString c), .str (Str.ofString d), .str (Str.ofString e)]) := by
  split
  · rename_i h
    simp only [Bool.and_eq_true] at h
    exact inO_lit4 h.1.1.1.1 h.1.1.1.2 h.1.1.2 h.1.2 h.2
  · rfl
theorem lk_net : litOk "net" = true := by kernel_rfl
theorem lk_copy : litOk "copy" = true := by kernel_rfl
theorem lk_merge : litOk "merge" = true := by kernel_rfl
theorem lk_both : litOk "both" = true := by kernel_rfl
theorem lk_loose : litOk "loose" = true := by kernel_rfl
theorem lk_drain : litOk "drain" = true := by kernel_rfl
theorem lk_either : litOk "either" = true := by kernel_rfl
theorem lk_only : litOk "only" = true := by kernel_rfl
theorem lk_place : litOk "place" = true := by kernel_rfl
theorem lk_last : litOk "last" = true := by kernel_rfl
end Pd

set_option Elab.async false
set_option linter.all false
set_option maxRecDepth 100000
/-! A def's result, by rewriting. -/
namespace Pd
open PySem L2
def fin (m : Nat) : Option (Rs Fl × PSt) → Option (Rs FR × List MO)
  | some (.ok .nx, s) => some (.ok (.d .none), s.L.take m)
  | some (.ok (.rt r), s) => match rtO m r s.L with
    | some v => some (.ok v, s.L.take m)
    | none => none
  | _ => none
theorem run_eq {d : Df} {sc : Scope} {n : Nat} {body : List Stmt} {np : Nat} {args : List Arg} {b : M Fl} (e : exB d sc n body = b) (h1 : args.length = np) (h2 : (objsOf args).length = d.m) (h3 : np ≤ d.N.length) :
    runD d sc n body np args = fin d.m (b ⟨envOf 0 args ++ List.replicate (d.N.length - np) none, objsOf args⟩) := by
  subst e
  unfold runD
  rw [if_pos (by simp [h1, h2, h3])]
  unfold fin
  cases h : exB d sc n body ⟨envOf 0 args ++ List.replicate (d.N.length - np) none, objsOf args⟩ with
  | none => rfl
  | some q =>
    obtain ⟨r, s⟩ := q
    cases r with
    | ex x => rfl
    | ok fl => cases fl <;> rfl
theorem z_fin_n (m : Nat) (env : EnvP) (L : List MO) : fin m (some (.ok .nx, ⟨env, L⟩)) = some (.ok (.d .none), L.take m) := by rfl
theorem z_fin_d (m : Nat) (env : EnvP) (L : List MO) (x : D) : fin m (some (.ok (.rt (.c (.d x))), ⟨env, L⟩)) = some (.ok (.d x), L.take m) := by rfl
theorem z_fin_f (m : Nat) (env : EnvP) (L : List MO) (x : List D) : fin m (some (.ok (.rt (.f x)), ⟨env, L⟩)) = some (.ok (.f x), L.take m) := by rfl
theorem z_fin_r (m k : Nat) (env : EnvP) (L : List MO) : fin m (some (.ok (.rt (.c (.r k))), ⟨env, L⟩)) = match rtO m (.c (.r k)) L with
    | some v => some (.ok v, L.take m)
    | none => none := rfl
def rtK (m k : Nat) : Option MO → Option FR
  | some (.lst xs) => if m ≤ k then some (.f xs) else none
  | _ => none
theorem z_rtO (m k : Nat) (L : List MO) : rtO m (.c (.r k)) L = rtK m k L[k]? := by rfl
theorem z_rtK (m k : Nat) (xs : List D) : rtK m k (some (.lst xs)) = if m ≤ k then some (.f xs) else none := by rfl
theorem z_repf {α : Type} (a : α) (n : Nat) : (List.replicate n [a]).flatten = List.replicate n a := by
  induction n with
  | zero => rfl
  | succ n ih => rw [List.replicate_succ, List.flatten_cons, ih]; rfl
theorem z_fits (n : Nat) : fits n = decide (n ≤ 1000000) := by rfl
theorem z_m10 : mulOk 1 0 = true := by kernel_rfl
theorem z_m11 : mulOk 1 1 = true := by kernel_rfl
theorem z_m12 : mulOk 1 2 = true := by kernel_rfl
theorem z_small0 : smallI 0 = true := by kernel_rfl
theorem lc_m {α : Type} {enc : α → D} (p : α → Bool) (g : α → D) {m : Nat} {vs : List Nat} {tg : D → M Unit} {test : M Bool} {elt : M RV} {it : M (List D)} {env : EnvP} {L : List MO} (xs : List α)
    (hi : it ⟨env, L⟩ = some (.ok (xs.map enc), ⟨env, L⟩)) (ho : ownFree vs env = true)
    (h : ∀ x ∈ xs, ∃ env2, tg (enc x) ⟨wipeE env vs, L⟩ = some (.ok (), ⟨env2, L⟩) ∧ wipeE env2 vs = wipeE env vs ∧ test ⟨env2, L⟩ = some (.ok (p x), ⟨env2, L⟩) ∧ (p x = true → asD m elt ⟨env2, L⟩ = some (.ok (g x), ⟨env2, L⟩)))
    (hf : xs.length ≤ 1000000) :
    lcM m vs tg test elt it ⟨env, L⟩ = some (.ok (.f ((xs.filter p).map g)), ⟨env, L⟩) := lc_map p g hi ho h hf
theorem lc_m1 {α : Type} {enc : α → D} (g : α → D) {m : Nat} {vs : List Nat} {tg : D → M Unit} {elt : M RV} {it : M (List D)} {env : EnvP} {L : List MO} (xs : List α)
    (hi : it ⟨env, L⟩ = some (.ok (xs.map enc), ⟨env, L⟩)) (ho : ownFree vs env = true)
    (h : ∀ x ∈ xs, ∃ env2, tg (enc x) ⟨wipeE env vs, L⟩ = some (.ok (), ⟨env2, L⟩) ∧ wipeE env2 vs = wipeE env vs ∧ asD m elt ⟨env2, L⟩ = some (.ok (g x), ⟨env2, L⟩))
    (hf : xs.length ≤ 1000000) :
    lcM m vs tg (allT []) elt it ⟨env, L⟩ = some (.ok (.f (xs.map g)), ⟨env, L⟩) := lc_map1 g hi ho h hf
theorem rangeL0 (n : Nat) : rangeL 0 (n : Int) = (List.range n).map fun k : Nat => PyData.int (k : Int) := by
  unfold rangeL
  rw [Int.sub_zero, Int.toNat_natCast]
  exact List.map_congr_left fun k _ => by rw [Int.zero_add]
theorem fits_c {n : Nat} (h : n ≤ 1000000) : fits n = true := decide_eq_true h
theorem small_c {i : Int} (h : -1152921504606846976 < i ∧ i < 1152921504606846976) : smallI i = true := decide_eq_true (by omega)
theorem mulOk_c {n : Nat} {k : Int} (h : n ≤ 1000 ∧ -1000 ≤ k ∧ k ≤ 1000) : mulOk n k = true := decide_eq_true ⟨h.1, by omega⟩
theorem ixN_c {n : Nat} {i : Int} (h : 0 ≤ i ∧ i < n) : ixN n i = some i.toNat := by
  unfold ixN
  rw [if_pos h.1, if_pos h.2]
end Pd

set_option Elab.async false
set_option linter.all false
set_option maxRecDepth 100000
/-! What sorting gives. -/
namespace Pd
open PySem L2
theorem insD_perm (a : D) : ∀ l : List D, (insD a l).Perm (a :: l)
  | [] => .refl _
  | b :: r => by
    unfold insD
    split
    · exact .refl _
    · exact ((insD_perm a r).cons b).trans (.swap a b r)
theorem sortD_perm : ∀ l : List D, (sortD l).Perm l
  | [] => .refl _
  | a :: r => (insD_perm a (sortD r)).trans ((sortD_perm r).cons a)
theorem perm_map {α : Type} {enc : α → D} : ∀ {ys : List D} {xs : List α}, ys.Perm (xs.map enc) → ∃ zs : List α, ys = zs.map enc ∧ zs.Perm xs := by
  have go : ∀ {ys ws : List D}, ys.Perm ws → ∀ xs : List α, ws = xs.map enc → ∃ zs : List α, ys = zs.map enc ∧ zs.Perm xs := by
    intro ys ws h
    induction h with
    | nil =>
      intro xs e
      cases xs with
      | nil => exact ⟨[], rfl, .refl _⟩
      | cons a b => cases e
    | cons x h ih =>
      intro xs e
      cases xs with
      | nil => cases e
      | cons a b =>
        cases e
        obtain ⟨zs, rfl, p⟩ := ih b rfl
        exact ⟨a :: zs, rfl, p.cons a⟩
    | swap x y l =>
      intro xs e
      match xs, e with
      | a :: b :: c, e =>
        cases e
        exact ⟨b :: a :: c, rfl, .swap a b c⟩
    | trans h1 h2 ih1 ih2 =>
      intro xs e
      obtain ⟨zs, e1, p1⟩ := ih2 xs e
      obtain ⟨ws, e2, p2⟩ := ih1 zs e1
      exact ⟨ws, e2, p2.trans p1⟩
  exact fun {ys xs} h => go h xs rfl
theorem sort_map {α : Type} {enc : α → D} (xs : List α) : ∃ zs : List α, sortD (xs.map enc) = zs.map enc ∧ zs.Perm xs := perm_map (sortD_perm _)
/-- all of one form: tuples that begin alike -/
theorem sortOk_of {α : Type} {enc : α → D} (xs : List α) (h1 : ∀ a b, PySem.W.alike (enc a) (enc b) = true) (h2 : (∀ a, tupNe (enc a) = true) ∨ ∀ a, notTup (enc a) = true) (h3 : ∀ a ∈ xs, (enc a).depth ≤ 60) (h4 : xs.length ≤ 1000000) : sortOk (xs.map enc) = true := by
  unfold sortOk
  have a : allAlike (xs.map enc) = true := by
    unfold allAlike
    refine List.all_eq_true.mpr fun x hx => List.all_eq_true.mpr fun y hy => ?_
    obtain ⟨a, _, rfl⟩ := List.mem_map.mp hx
    obtain ⟨b, _, rfl⟩ := List.mem_map.mp hy
    exact h1 a b
  have b : ((xs.map enc).all tupNe || (xs.map enc).all notTup) = true := by
    rcases h2 with h | h
    · have : (xs.map enc).all tupNe = true := List.all_eq_true.mpr fun x hx => by
        obtain ⟨a, _, rfl⟩ := List.mem_map.mp hx
        exact h a
      rw [this]; rfl
    · have : (xs.map enc).all notTup = true := List.all_eq_true.mpr fun x hx => by
        obtain ⟨a, _, rfl⟩ := List.mem_map.mp hx
        exact h a
      rw [this, Bool.or_true]
  have c : (xs.map enc).all (fun d => decide (d.depth ≤ 60)) = true := List.all_eq_true.mpr fun x hx => by
    obtain ⟨a, ha, rfl⟩ := List.mem_map.mp hx
    exact decide_eq_true (h3 a ha)
  have d : fits (xs.map enc).length = true := decide_eq_true (by rw [List.length_map]; exact h4)
  rw [a, b, c, d]
  rfl
end Pd

set_option Elab.async false
set_option linter.all false
set_option maxRecDepth 100000
/-! Texts in rising order: each once, sorted. -/
namespace Pd
open PySem L2
def ltS (a b : Str) : Bool := decide (a.cps.toList < b.cps.toList)
def rising : List Str → Bool
  | [] => true
  | [_] => true
  | a :: b :: r => ltS a b && rising (b :: r)
theorem leD_str (a b : Str) : leD (.str a) (.str b) = !ltS b a := by
  show (!PyProof.Rows.lexLt PyProof.Rows.itemOrd [Sum.inr b.cps.toList] [Sum.inr a.cps.toList]) = _
  rw [PySem.W.lex_one]
  rfl
theorem ltS_trans {a b c : Str} (h1 : ltS a b = true) (h2 : ltS b c = true) : ltS a c = true :=
  decide_eq_true (List.lt_trans (of_decide_eq_true h1) (of_decide_eq_true h2))
theorem ltS_irrefl (a : Str) : ltS a a = false := decide_eq_false (List.lt_irrefl _)
theorem ltS_asymm {a b : Str} (h : ltS a b = true) : ltS b a = false := by
  cases q : ltS b a with
  | false => rfl
  | true =>
    have := ltS_trans h q
    rw [ltS_irrefl] at this
    cases this
theorem ltS_total {a b : Str} (h1 : ltS a b = false) (h2 : ltS b a = false) : a = b := by
  have := leD_anti (x := .str a) (y := .str b) rfl (by rw [leD_str, h2]; rfl) (by rw [leD_str, h1]; rfl)
  cases this
  rfl
theorem rising_pw : ∀ {l : List Str}, rising l = true → l.Pairwise (fun a b => ltS a b = true)
  | [], _ => .nil
  | [a], _ => .cons (fun _ m => nomatch m) .nil
  | a :: b :: r, h => by
    obtain ⟨h1, h2⟩ := Bool.and_eq_true_iff.mp h
    have ih := rising_pw h2
    refine .cons (fun c m => ?_) ih
    rcases List.mem_cons.mp m with rfl | m
    · exact h1
    · exact ltS_trans h1 ((List.pairwise_cons.mp ih).1 c m)
theorem pw_rising : ∀ {l : List Str}, l.Pairwise (fun a b => ltS a b = true) → rising l = true
  | [], _ => rfl
  | [a], _ => rfl
  | a :: b :: r, h => by
    obtain ⟨h1, h2⟩ := List.pairwise_cons.mp h
    exact Bool.and_eq_true_iff.mpr ⟨h1 b (.head _), pw_rising h2⟩
theorem uniqK_nodup : ∀ (l acc : List Str), (acc ++ l).Nodup → Ps.uniqK acc l = acc ++ l
  | [], acc, _ => (List.append_nil acc).symm
  | k :: r, acc, h => by
    have hk : k ∉ acc := fun m => by
      have := (List.nodup_append.mp h).2.2 k m k (.head _)
      exact this rfl
    unfold Ps.uniqK
    rw [if_neg hk, uniqK_nodup r (acc ++ [k]) (by rw [List.append_assoc]; exact h), List.append_assoc]
    rfl
theorem uniqK_nd : ∀ (l acc : List Str), acc.Nodup → (Ps.uniqK acc l).Nodup
  | [], acc, h => h
  | k :: r, acc, h => by
    unfold Ps.uniqK
    split
    · exact uniqK_nd r acc h
    · rename_i hk
      refine uniqK_nd r _ (List.nodup_append.mpr ⟨h, by simp, fun x mx y my e => hk ?_⟩)
      rw [← List.mem_singleton.mp my, ← e]
      exact mx
/-- sorted texts, of which none stands twice -/
theorem sorted_rising {zs : List Str} (hn : zs.Nodup) (hs : (zs.map PyData.str).Pairwise (fun a b => leD a b = true)) : rising zs = true := by
  refine pw_rising ?_
  rw [List.pairwise_map] at hs
  have := hs.and hn
  refine this.imp fun {a b} ⟨h1, h2⟩ => ?_
  rw [leD_str] at h1
  cases q : ltS a b with
  | true => rfl
  | false =>
    cases q2 : ltS b a with
    | true => rw [q2] at h1; cases h1
    | false => exact absurd (ltS_total q q2) h2
theorem rising_sorted {zs ss : List Str} (h : rising zs = true) (p : ss.Perm zs) (hs : (ss.map PyData.str).Pairwise (fun a b => leD a b = true)) : ss = zs := by
  have pw := rising_pw h
  have h2 : (zs.map PyData.str).Pairwise (fun a b => leD a b = true) := by
    rw [List.pairwise_map]
    exact pw.imp fun {a b} q => by rw [leD_str, ltS_asymm q]; rfl
  have e := sorted_one (p.map PyData.str) hs h2 (fun a ma b mb => by
    obtain ⟨x, _, rfl⟩ := List.mem_map.mp ma
    obtain ⟨y, _, rfl⟩ := List.mem_map.mp mb
    rfl)
  have : ∀ (l l' : List Str), l.map PyData.str = l'.map PyData.str → l = l' := fun l => by
    induction l with
    | nil => intro l' e; cases l' with | nil => rfl | cons a b => cases e
    | cons a r ih =>
      intro l' e
      cases l' with
      | nil => cases e
      | cons a' r' =>
        rw [List.map_cons, List.map_cons] at e
        obtain ⟨e1, e2⟩ := List.cons.inj e
        cases e1
        rw [ih r' e2]
  exact this _ _ e
/-- strictly rising: it is its own sorted set -/
theorem rising_iff (zs ss : List Str) (e : sortD ((Ps.uniqK [] zs).map PyData.str) = ss.map PyData.str) (p : ss.Perm (Ps.uniqK [] zs)) : rising zs = decide (zs = ss) := by
  have hs : (ss.map PyData.str).Pairwise (fun a b => leD a b = true) := by
    rw [← e]
    exact sortD_pair _
  have hn : ss.Nodup := p.nodup_iff.mpr (uniqK_nd zs [] List.nodup_nil)
  cases h : rising zs with
  | true =>
    have nd : zs.Nodup := (rising_pw h).imp fun {a b} q e => by
      subst e
      rw [ltS_irrefl] at q
      cases q
    have eu : Ps.uniqK [] zs = zs := uniqK_nodup zs [] nd
    rw [eu] at p
    exact (decide_eq_true (rising_sorted h p hs).symm).symm
  | false =>
    refine (decide_eq_false fun q => ?_).symm
    subst q
    rw [sorted_rising hn hs] at h
    cases h
end Pd

set_option Elab.async false
set_option linter.all false
set_option maxRecDepth 100000
/-! The draws of a law that draws from a tape (a list of three). -/
namespace Pd
open PySem L2
local macro_rules | `(tactic| walk_at "sz") => `(tactic| (first | omega | ((try simp only [List.length_append, List.length_map, List.length_replicate, List.length_cons, List.length_nil, List.length_range, List.length_take, List.length_drop, List.length_eraseIdx, List.length_set]) ; omega)))
local macro_rules | `(tactic| walk_at "ev") => `(tactic| simp -implicitDefEqProofs (disch := walk_at "sz") only [z_fin_n, z_fin_d, z_fin_f, z_fin_r, z_rtO, z_rtK, ↓z_bind, ↓z_pure, ↓z_fail, ↓z_ret, ↓z_cst, ↓z_nm, ↓z_toC_c, ↓z_toC_f, ↓z_asC, ↓z_asD, z_fzR_d, z_fzR_f, z_fzR_r, z_rdM_d, z_rdM_r, z_optM_some, z_optM_none, z_opM, z_blM, z_rv_d, z_rv_f, ↓z_bin, ↓z_cmp, ↓z_chain, ↓z_ix, z_part_n, ↓z_part_s, ↓z_sl, ↓z_intM, ↓z_boolM, ↓z_and1, ↓z_and2, ↓z_or1, ↓z_or2, z_allT0, ↓z_allT1, ↓z_allT, z_anyT0, ↓z_anyT1, ↓z_anyT, ↓z_notT, ↓z_valT, ↓z_notM, ↓z_negM, ↓z_iteM, ↓z_ifRV, ↓z_ifM, z_seq0, ↓z_seq, ↓z_tup, ↓z_lst, z_rdAll0, ↓z_rdAll, ↓z_blt, ↓z_def, ↓z_lrg, ↓z_range1, ↓z_range2, ↓z_iter, ↓z_zip, ↓z_enum, z_args0, ↓z_args, ↓z_av_f, ↓z_av_t, z_kOf, z_call_0, z_call_1, z_call_2, z_call_3, z_call_4, z_call_5, z_out1, z_out1x, z_callk0, z_callk1, z_callk2, z_callk3, z_callk4, z_frv_d, z_frv_f, z_frv_g, z_ptrM, z_ptrO, ↓z_app, ↓z_ext, z_setL, z_appO, z_appR, z_extO, z_extR, ↓z_pop, z_popS, z_popR, z_blk0, ↓z_blk, z_seqK_n, z_seqK_r, z_seqK_b, z_seqK_c, ↓z_okF, ↓z_chk, z_chkK, ↓z_set, z_sto_c, z_sto_f, z_sto_o, z_sto_g, ↓z_item, z_setO, z_setR, z_setRd, z_optrM, z_key_s, z_key_i, ↓z_isi, z_isT_si, z_isT_st, z_isT_sl, z_isT_sn, z_isT_sb, z_isT_s0, z_isT_ts, z_isT_tt, z_isT_tl, z_isT_tn, z_isT_tb, z_isT_t0, z_isT_is, z_isT_it, z_isT_il, z_isT_in, z_isT_ib, z_isT_i0, z_isT_bs, z_isT_bt, z_isT_bl, z_isT_bn, z_isT_bb, z_isT_b0, z_isT_ls, z_isT_lt, z_isT_ll, z_isT_ln, z_isT_lb, z_isT_l0, ↓z_srtSet, ↓z_lenSet, ↓z_newd, ↓z_dct, ↓z_revM, z_rev_l, z_rev_t, z_add_bi, z_add_ib, z_sub_bi, z_sub_ib, z_lt_s, z_sl_s, z_ix_s, z_srt_d, z_len_d, z_lst_d, z_in_d, z_ix_d, ↓z_unp, z_tgN, z_tgS_t, z_tgS_l, z_each0, ↓z_each, ↓z_expr, ↓z_retS, z_retM_d, z_retM_r, z_retM_f, ↓z_if, ↓z_for, z_for0, z_gc, z_hi_d, z_hi_n, z_hi_m, z_hi_r, z_add_i, z_sub_i, z_add_t, z_add_l, z_add_s, z_mul_i, z_mul_t, z_mul_l, z_cmp_eq, z_cmp_ne, z_cmp_in, z_cmp_ni, z_is, z_isnt, z_lt, z_le, z_gt, z_ge, z_isn_n, z_isn_i, z_isn_s, z_isn_t, z_isn_l, z_isn_b, z_ix_l0, z_ix_l1, z_ix_l2, z_ix_l3, z_ix_t0, z_ix_t1, z_ix_t2, z_ix_t3, z_ix_t4, z_sl_l, z_sl_t, z_map_s, z_map_n, z_len_l, z_len_t, z_tup_l, z_tup_t, z_lst_l, z_lst_t, z_min2, z_max2, z_int_b, z_int_i, z_srt, z_seq_l, z_seq_t, List.getElem?_cons_zero, List.getElem?_cons_succ, List.set_cons_zero, List.set_cons_succ, List.map_cons, List.map_nil, List.foldl_cons, List.foldl_nil, List.take_succ_cons, List.take_zero, List.take_nil, List.length_cons, List.length_nil, Nat.reduceAdd, Nat.reduceLeDiff, Nat.zero_le, Nat.le_refl, ↓reduceIte, Bool.false_eq_true, Bool.not_true, Bool.not_false, Bool.true_and, Bool.and_true, Bool.false_and, Bool.and_false, Bool.true_or, Bool.or_true, Bool.false_or, Bool.or_false, List.cons_append, List.nil_append, List.append_nil, z_max, Nat.reduceEqDiff, Nat.reduceBEq, beq_self_eq_true, List.getElem?_nil, eqO_lit, inO_litU2, inO_litU4, lk_net, lk_copy, lk_merge, lk_both, lk_loose, lk_drain, lk_either, lk_only, lk_place, lk_last, decide_false, decide_true, decide_eq_true_eq, Int.natAbs_natCast, Option.map_some, Option.map_none, z_hi_m, String.reduceEq, Int.toNat_natCast, Int.reduceToNat, Int.cast_ofNat_Int, z_repf, List.replicate_succ, List.replicate_zero, List.flatten_cons, List.flatten_nil, fits_c, small_c, mulOk_c, ixN_c, *])
def dt1 : M Fl := ifS 1 (valT (cmpM .Gt (ixM (nm 0) (ret (.int 2))) (ret (.int 0)))) (blkS [setS 1 false 5 (binM .Mod (ixM (nm 0) (ret (.int 2))) (nm 1)),
    itemS 1 (binM .FloorDiv (ixM (nm 0) (ret (.int 2))) (nm 1)) (nm 0) (ret (.int 2)),
    retS 1 (nm 5)]) (blkS [])
def dt2 : M Fl := setS 1 false 2 (ixM (nm 0) (ret (.int 1)))
def dt3 : M Fl := itemS 1 (binM .Add (nm 2) (ret (.int 1))) (nm 0) (ret (.int 1))
def dt4 : M Fl := setS 1 false 3 (ret (.int 0))
def dt5 : M Fl := ifS 1 (valT (cmpM .Gt (bltM .len [ixM (nm 0) (ret (.int 0))]) (ret (.int 0)))) (blkS [setS 1 false 3 (ixM (ixM (nm 0) (ret (.int 0))) (binM .Mod (nm 2) (bltM .len [ixM (nm 0) (ret (.int 0))])))]) (blkS [])
def dt6 : M Fl := ifS 1 (valT (cmpM .GtE (nm 3) (binM .Pow (ret (.int 10)) (ret (.int 18))))) (blkS [itemS 1 (binM .FloorDiv (nm 3) (nm 1)) (nm 0) (ret (.int 2)),
    retS 1 (binM .Mod (nm 3) (nm 1))]) (blkS [])
def dt7 : M Fl := setS 1 false 4 (binM .Mod (binM .Mult (binM .Add (binM .Add (binM .Add (binM .Mod (nm 3) (ret (.int 1000003))) (binM .Mult (binM .Mult (ret (.int 37)) (nm 2)) (nm 2))) (binM .Mult (ret (.int 101)) (nm 2))) (ret (.int 7))) (ret (.int 48271))) (ret (.int 2147483587)))
def dt8 : M Fl := setS 1 false 4 (binM .Mod (binM .Add (binM .Mult (nm 4) (ret (.int 69621))) (binM .Mult (ret (.int 7919)) (nm 2))) (ret (.int 2147483549)))
def dt9 : M Fl := retS 1 (binM .Mod (binM .FloorDiv (nm 4) (ret (.int 64))) (nm 1))
def drawT : M Fl := blkS [dt1, dt2, dt3, dt4, dt5, dt6, dt7, dt8, dt9]
def tape (ns : List Int) (p r : Int) : MO := .lst [.list (ns.map PyData.int), .int p, .int r]
abbrev dtS (xs : List D) (p r m : Int) (x y z u : Option C) : PSt := ⟨[some (.r 0), some (.d (.int m)), x, y, z, u], [.lst [.list xs, .int p, .int r]]⟩
theorem drawT_ok (ns : List Int) (p r m : Int) (hp : 0 ≤ p) (hp2 : p < 2 ^ 60) (hr : 0 ≤ r) (hm : 0 < m) (hm2 : m < 1073741824) :
    ∃ q p' r' env, drawT (dtS (ns.map PyData.int) p r m none none none none) = some (.ok (.rt (.c (.d (.int q)))), ⟨env, [tape ns p' r']⟩) ∧ 0 ≤ q ∧ q < m ∧ 0 ≤ p' ∧ p' ≤ p + 1 ∧ 0 ≤ r' := by
  have hmod : ∀ i : Int, binO .Mod (.int i) (.int m) = some (.d (.int (i % m))) := fun i => mod_ok hm
  have hdiv : ∀ i : Int, binO .FloorDiv (.int i) (.int m) = some (.d (.int (i / m))) := fun i => div_ok hm hm2
  by_cases h : 0 < r
  · refine ⟨r % m, p, r / m, [some (.r 0), some (.d (.int m)), none, none, none, some (.d (.int (r % m)))], ?_, Int.emod_nonneg _ (by omega), Int.emod_lt_of_pos _ hm, hp, by omega, Int.ediv_nonneg hr (by omega)⟩
    unfold drawT tape dt1
    clear hp hp2 hr hm hm2
    walk_at "ev"
  · have first : ∀ (NS : List D) (rest : List (M Fl)), blkS (dt1 :: dt2 :: dt3 :: dt4 :: rest) (dtS NS p r m none none none none) = blkS rest (dtS NS (p + 1) r m (some (.d (.int p))) (some (.d (.int 0))) none none) := fun NS rest => by
      unfold dt1 dt2 dt3 dt4
      clear hp hp2 hr hm hm2 hmod hdiv
      walk_at "ev"
    -- the cell
    obtain ⟨cell, hcell⟩ : ∃ cell : Int, ∀ rest : List (M Fl), blkS (dt5 :: rest) (dtS (ns.map PyData.int) (p + 1) r m (some (.d (.int p))) (some (.d (.int 0))) none none) = blkS rest (dtS (ns.map PyData.int) (p + 1) r m (some (.d (.int p))) (some (.d (.int cell))) none none) := by
      cases ns with
      | nil =>
        refine ⟨0, fun rest => ?_⟩
        have z : ¬ ((0 : Int) < 0) := by decide
        have z2 : ((0 : Nat) : Int) = 0 := rfl
        clear hmod hdiv h hr hp hp2 hm hm2
        rw [List.map_nil]
        unfold dt5
        walk_at "ev"
      | cons a b =>
        have hl : (0 : Int) < (((a :: b).map PyData.int).length : Nat) := by simp
        obtain ⟨n, hn⟩ := at_int (ns := a :: b) (i := p % (((a :: b).map PyData.int).length : Nat)) (Int.emod_nonneg _ (by omega)) (by
          have := Int.emod_lt_of_pos p hl
          rw [List.length_map] at this ⊢
          exact this)
        have hmo : binO .Mod (.int p) (.int (((a :: b).map PyData.int).length : Nat)) = some (.d (.int (p % (((a :: b).map PyData.int).length : Nat)))) := mod_ok hl
        refine ⟨n, fun rest => ?_⟩
        clear hmod hdiv h hr hp hp2 hm hm2 first
        generalize (a :: b).map PyData.int = NS at *
        unfold dt5
        walk_at "ev"
    have hpow : binO .Pow (.int 10) (.int 18) = some (.d (.int 1000000000000000000)) := by kernel_rfl
    by_cases hc : 1000000000000000000 ≤ cell
    · refine ⟨cell % m, p + 1, cell / m, [some (.r 0), some (.d (.int m)), some (.d (.int p)), some (.d (.int cell)), none, none], ?_, Int.emod_nonneg _ (by omega), Int.emod_lt_of_pos _ hm, by omega, by omega, Int.ediv_nonneg (by omega) (by omega)⟩
      unfold drawT tape
      rw [first, hcell]
      clear hp hp2 hr hm hm2 first hcell h
      generalize ns.map PyData.int = NS at *
      unfold dt6
      walk_at "ev"
    · have hb : big p = true := decide_eq_true (by omega)
      have b37 : big 37 = true := by decide
      have b101 : big 101 = true := by decide
      have b48 : big 48271 = true := by decide
      have b69 : big 69621 = true := by decide
      have b79 : big 7919 = true := by decide
      have m1 : ∀ i : Int, binO .Mod (.int i) (.int 1000003) = some (.d (.int (i % 1000003))) := fun i => mod_ok (by decide)
      have m2 : ∀ i : Int, binO .Mod (.int i) (.int 2147483587) = some (.d (.int (i % 2147483587))) := fun i => mod_ok (by decide)
      have m3 : ∀ i : Int, binO .Mod (.int i) (.int 2147483549) = some (.d (.int (i % 2147483549))) := fun i => mod_ok (by decide)
      have m4 : ∀ i : Int, binO .FloorDiv (.int i) (.int 64) = some (.d (.int (i / 64))) := fun i => div_ok (by decide) (by decide)
      have last : ∃ (q : Int) (env : EnvP), blkS [dt6, dt7, dt8, dt9] (dtS (ns.map PyData.int) (p + 1) r m (some (.d (.int p))) (some (.d (.int cell))) none none) = some (.ok (.rt (.c (.d (.int (q % m))))), ⟨env, [tape ns (p + 1) r]⟩) := by
        refine ⟨(((cell % 1000003 + 37 * p * p + 101 * p + 7) * 48271 % 2147483587 * 69621 + 7919 * p) % 2147483549) / 64, [some (.r 0), some (.d (.int m)), some (.d (.int p)), some (.d (.int cell)), some (.d (.int (((cell % 1000003 + 37 * p * p + 101 * p + 7) * 48271 % 2147483587 * 69621 + 7919 * p) % 2147483549))), none], ?_⟩
        unfold tape
        clear hp hp2 hr hm hm2 first hcell h
        generalize ns.map PyData.int = NS at *
        unfold dt6 dt7 dt8 dt9
        walk_at "ev"
      obtain ⟨q, env, e⟩ := last
      refine ⟨q % m, p + 1, r, env, ?_, Int.emod_nonneg _ (by omega), Int.emod_lt_of_pos _ hm, by omega, by omega, hr⟩
      unfold drawT
      rw [first, hcell]
      exact e
def FdT (ns : List Int) (k : Nat) (o : MO) : Prop := ∃ p r, o = tape ns p r ∧ 0 ≤ p ∧ 0 ≤ r ∧ p + k ≤ 2 ^ 59
theorem FdT.less {ns : List Int} {j k : Nat} {o : MO} (h : FdT ns k o) (hj : j ≤ k) : FdT ns j o := by
  obtain ⟨p, r, e, h1, h2, h3⟩ := h
  exact ⟨p, r, e, h1, h2, by omega⟩
theorem FdT.ne {ns : List Int} {k : Nat} {o : MO} (h : FdT ns k o) : o ≠ .dead := by
  obtain ⟨p, r, rfl, _⟩ := h
  exact fun z => nomatch z
def DrawsT (f : FT) : Prop := ∀ (ns : List Int) (k : Nat) (o : MO) (m : Int), FdT ns (k + 1) o → 0 < m → m < 1073741824 → ∃ r o', f [.m o, .d (.int m)] = some (.ok (.d (.int r)), [o']) ∧ 0 ≤ r ∧ r < m ∧ FdT ns k o'
theorem drawsT_of {d : Df} {sc : Scope} {n : Nat} {body : List Stmt} (e : exB d sc n body = drawT) (h2 : d.m = 1) (h3 : d.N.length = 6) : DrawsT (runD d sc n body 2) := by
  intro ns k o m ⟨p, r, eo, h4, h5, h6⟩ hm hm2
  subst eo
  obtain ⟨q, p', r', env, z, q1, q2, q3, q4, q5⟩ := drawT_ok ns p r m h4 (by omega) h5 hm hm2
  refine ⟨q, tape ns p' r', run_rt e rfl h2.symm (by rw [h3]; decide) ?_ z rfl (by rw [h2]; rfl), q1, q2, p', r', rfl, q3, q5, by omega⟩
  rw [h3]
  rfl
end Pd

set_option Elab.async false
set_option linter.all false
set_option maxRecDepth 100000
/-! Moments, steps and tables as data; their sizes, equality, sorting. -/
namespace Pd
open PySem L2
/-! ### each once, sorted -/
section
variable {α : Type} [DecidableEq α]
theorem mem_uniq (a : α) : ∀ (l acc : List α), a ∈ Ps.uniqK acc l ↔ a ∈ acc ∨ a ∈ l
  | [], acc => by simp [Ps.uniqK]
  | k :: r, acc => by
    show a ∈ Ps.uniqK (if k ∈ acc then acc else acc ++ [k]) r ↔ _
    rw [mem_uniq a r]
    by_cases m : k ∈ acc
    · rw [if_pos m, List.mem_cons]
      constructor
      · rintro (h | h)
        · exact .inl h
        · exact .inr (.inr h)
      · rintro (h | rfl | h)
        · exact .inl h
        · exact .inl m
        · exact .inr h
    · rw [if_neg m, List.mem_append, List.mem_singleton, List.mem_cons, or_assoc]
theorem nodup_uniq : ∀ (l acc : List α), acc.Nodup → (Ps.uniqK acc l).Nodup
  | [], acc, h => h
  | k :: r, acc, h => by
    show (Ps.uniqK (if k ∈ acc then acc else acc ++ [k]) r).Nodup
    refine nodup_uniq r _ ?_
    by_cases m : k ∈ acc
    · rw [if_pos m]; exact h
    · rw [if_neg m, List.nodup_append]
      exact ⟨h, by simp, fun x mx y my e => m (by rw [← List.mem_singleton.mp my, ← e]; exact mx)⟩
abbrev once (l : List α) : List α := Ps.uniqK [] l
theorem mem_once {a : α} {l : List α} : a ∈ once l ↔ a ∈ l := by
  rw [mem_uniq]
  simp
theorem nodup_once (l : List α) : (once l).Nodup := nodup_uniq l [] List.nodup_nil
theorem once_len (l : List α) : (once l).length ≤ l.length := by
  have := Ps.uniq_len l []
  simpa using this
theorem once_of_nodup {l : List α} (h : l.Nodup) : once l = l := by
  have go : ∀ (l acc : List α), (acc ++ l).Nodup → Ps.uniqK acc l = acc ++ l := by
    intro l
    induction l with
    | nil => intro acc _; simp [Ps.uniqK]
    | cons k r ih =>
      intro acc h
      have m : k ∉ acc := fun m => by
        have := (List.nodup_append.mp h).2.2 k m k (.head _)
        exact this rfl
      show Ps.uniqK (if k ∈ acc then acc else acc ++ [k]) r = _
      rw [if_neg m, ih _ (by rw [List.append_assoc]; exact h), List.append_assoc]
      rfl
  exact go l [] h
theorem uniqD_enc {enc : α → D} (h : ∀ a b, eqK (enc a) (enc b) = decide (a = b)) : ∀ (xs acc : List α), uniqD (acc.map enc) (xs.map enc) = (Ps.uniqK acc xs).map enc
  | [], acc => rfl
  | k :: r, acc => by
    have any : (acc.map enc).any (eqK (enc k)) = decide (k ∈ acc) := by
      rw [Bool.eq_iff_iff, List.any_eq_true, decide_eq_true_eq]
      constructor
      · rintro ⟨z, m, e⟩
        obtain ⟨y, my, rfl⟩ := List.mem_map.mp m
        rw [h] at e
        rw [of_decide_eq_true e]
        exact my
      · intro m
        exact ⟨enc k, List.mem_map_of_mem m, by rw [h]; exact decide_eq_true rfl⟩
    rw [List.map_cons]
    unfold uniqD Ps.uniqK
    rw [any]
    by_cases m : k ∈ acc
    · rw [if_pos (decide_eq_true m), if_pos m]
      exact uniqD_enc h r acc
    · rw [if_neg (by simpa using m), if_neg m]
      have : (acc ++ [k]).map enc = acc.map enc ++ [enc k] := by rw [List.map_append]; rfl
      rw [← this]
      exact uniqD_enc h r (acc ++ [k])
end
noncomputable def srtE {α : Type} (enc : α → D) (xs : List α) : List α := (sort_map (enc := enc) xs).choose
theorem srtE_eq {α : Type} (enc : α → D) (xs : List α) : sortD (xs.map enc) = (srtE enc xs).map enc := (sort_map (enc := enc) xs).choose_spec.1
theorem srtE_perm {α : Type} (enc : α → D) (xs : List α) : (srtE enc xs).Perm xs := (sort_map (enc := enc) xs).choose_spec.2
/-- the same members, each once: sorted alike -/
theorem sortD_same {α : Type} [DecidableEq α] {enc : α → D} {xs ys : List α} (nx : xs.Nodup) (ny : ys.Nodup) (h : ∀ a, a ∈ xs ↔ a ∈ ys) (al : ∀ a b, PySem.W.alike (enc a) (enc b) = true) : sortD (xs.map enc) = sortD (ys.map enc) := by
  refine sorted_perm (((List.perm_ext_iff_of_nodup nx ny).mpr h).map enc) fun x mx y my => ?_
  obtain ⟨a, _, rfl⟩ := List.mem_map.mp mx
  obtain ⟨b, _, rfl⟩ := List.mem_map.mp my
  exact al a b
/-! ### names, pairs, moments, steps -/
def okP (z : Str) : Prop := okStr z ∧ z.length ≤ 8
theorem sm_p {z : Str} (h : okP z) : Sm 0 82 (.str z) := Sm.str (n := 8) h.1 h.2
def pairE (p : Str × Int) : D := .tuple [.str p.1, .int p.2]
abbrev Mom := List (Str × Int)
def momE (m : Mom) : D := .tuple (m.map pairE)
structure Stp where
  a : Int
  m : Mom
  b : Int
deriving DecidableEq
def stE (s : Stp) : D := .tuple [.int s.a, momE s.m, .int s.b]
def tblE (seen : List Str) (many : Int) (ss : List Stp) : D := .tuple [.tuple (seen.map PyData.str), .int many, .tuple (ss.map stE)]
theorem faith_pair : Faith pairE := fun a b => by
  unfold pairE
  rw [eqv_t, eqvAll_c, eqvAll_c, eqvAll_n, eqv_s, eqv_i, Bool.and_true, Bool.and_eq_true, beq_iff_eq, beq_iff_eq]
  exact ⟨fun ⟨x, y⟩ => Prod.ext x y, fun e => by rw [e]; exact ⟨rfl, rfl⟩⟩
theorem faith_mom : Faith momE := faith_pair.tup
theorem faith_st : Faith stE := fun s u => by
  unfold stE
  rw [eqv_t, eqvAll_c, eqvAll_c, eqvAll_c, eqvAll_n, eqv_i, eqv_i, Bool.and_true, Bool.and_eq_true, Bool.and_eq_true, beq_iff_eq, beq_iff_eq, faith_mom s.m u.m]
  constructor
  · rintro ⟨x, y, z⟩
    cases s; cases u
    simp_all
  · intro e
    rw [e]
    exact ⟨rfl, rfl, rfl⟩
def MomOk (m : Mom) : Prop := m.length ≤ 8 ∧ ∀ p ∈ m, okP p.1 ∧ p.2.natAbs ≤ 1000000
theorem sm_pair {p : Str × Int} (h : okP p.1) (h2 : p.2.natAbs ≤ 1000000) : Sm 1 130 (pairE p) := (Sm.tup (.cons (sm_p h) (.cons (Sm.int (i := p.2) (by omega)) .nil))).mono (by decide) (by decide)
theorem sm_mom {m : Mom} (h : MomOk m) : Sm 2 1059 (momE m) := by
  have a : SmAll 1 (m.length * (130 + 2)) (m.map pairE) := SmAll.map fun p mp => sm_pair (h.2 p mp).1 (h.2 p mp).2
  have b : m.length * (130 + 2) ≤ 8 * (130 + 2) := Nat.mul_le_mul_right _ h.1
  exact (Sm.tup a).mono (by decide) (by omega)
def StpOk (s : Stp) : Prop := 0 ≤ s.a ∧ s.a ≤ 1000000 ∧ 0 ≤ s.b ∧ s.b ≤ 1000000 ∧ MomOk s.m
theorem sm_st {s : Stp} (h : StpOk s) : Sm 3 1200 (stE s) := (Sm.tup (.cons (Sm.int (i := s.a) (by have := h.1; have := h.2.1; omega)) (.cons (sm_mom h.2.2.2.2) (.cons (Sm.int (i := s.b) (by have := h.2.2.1; have := h.2.2.2.1; omega)) .nil)))).mono (by decide) (by decide)
theorem sm_moms {ms : List Mom} (h : ∀ m ∈ ms, MomOk m) : SmAll 2 (ms.length * (1059 + 2)) (ms.map momE) := SmAll.map fun m mm => sm_mom (h m mm)
theorem sm_sts {ss : List Stp} (h : ∀ s ∈ ss, StpOk s) : SmAll 3 (ss.length * (1200 + 2)) (ss.map stE) := SmAll.map fun m mm => sm_st (h m mm)
theorem sm_ints {is : List Int} (h : ∀ i ∈ is, i.natAbs < 10 ^ 40) : SmAll 0 (is.length * (41 + 2)) (is.map PyData.int) := SmAll.map fun i m => Sm.int (h i m)
theorem sm_strs {zs : List Str} (h : ∀ z ∈ zs, okP z) : SmAll 0 (zs.length * (82 + 2)) (zs.map PyData.str) := SmAll.map fun z m => sm_p (h z m)
def TblOk (seen : List Str) (many : Int) (ss : List Stp) : Prop := seen.length ≤ 8 ∧ (∀ z ∈ seen, okP z) ∧ 0 ≤ many ∧ many ≤ 1000000 ∧ ss.length ≤ 60 ∧ ∀ s ∈ ss, StpOk s
theorem sm_tbl {seen : List Str} {many : Int} {ss : List Stp} (h : TblOk seen many ss) : Sm 5 100000 (tblE seen many ss) := by
  obtain ⟨h1, h2, h3, h4, h5, h6⟩ := h
  have a := sm_strs h2
  have b := sm_sts h6
  have c : seen.length * (82 + 2) ≤ 8 * (82 + 2) := Nat.mul_le_mul_right _ h1
  have d : ss.length * (1200 + 2) ≤ 60 * (1200 + 2) := Nat.mul_le_mul_right _ h5
  exact (Sm.tup (.cons (Sm.tup a) (.cons (Sm.int (i := many) (by omega)) (.cons (Sm.tup b) .nil)))).mono (by decide) (by omega)
/-! ### equality, membership -/
theorem eq_mom {a b : Mom} (ha : MomOk a) (hb : MomOk b) : eqO (momE a) (momE b) = some (decide (a = b)) := by
  rw [eq_ok ((sm_mom ha).mono (by decide) (Nat.le_refl _)) ((sm_mom hb).mono (by decide) (Nat.le_refl _))]
  congr 1
  rw [Bool.eq_iff_iff, decide_eq_true_eq]
  exact faith_mom a b
theorem in_mom {a : Mom} {ms : List Mom} (ha : MomOk a) (h : ∀ m ∈ ms, MomOk m) : inO (momE a) (.list (ms.map momE)) = some (decide (a ∈ ms)) := by
  rw [in_ok_l ((sm_mom ha).mono (by decide) (Nat.le_refl _)) ((Sm.list (sm_moms h)).mono (by decide) (Nat.le_refl _)), faith_mom.any]
  exact congrArg some (decide_eq_decide.mpr Iff.rfl)
theorem in_st {a : Stp} {ss : List Stp} (ha : StpOk a) (h : ∀ s ∈ ss, StpOk s) : inO (stE a) (.list (ss.map stE)) = some (decide (a ∈ ss)) := by
  rw [in_ok_l ((sm_st ha).mono (by decide) (Nat.le_refl _)) ((Sm.list (sm_sts h)).mono (by decide) (Nat.le_refl _)), faith_st.any]
theorem eq_int (i j : Int) : eqO (.int i) (.int j) = some (decide (i = j)) := by
  show (if strs2 (.int i) (.int j) || (noD (.int i) && noD (.int j) && SeqAt.shaped (.int i) && SeqAt.shaped (.int j)) then some (PyData.eqv (.int i) (.int j)) else none) = _
  have e : ∀ i : Int, SeqAt.shaped (.int i) = true := fun i => rfl
  rw [e, e]
  show some (PyData.eqv (.int i) (.int j)) = _
  rw [eqv_i]
  congr 1
theorem canLay_is : ∀ ns : List Int, PyData.canLayAll0 (ns.map PyData.int) = true
  | [] => rfl
  | _ :: r => canLay_is r
theorem depth_is : ∀ ns : List Int, PyData.depthAll (ns.map PyData.int) = 0
  | [] => rfl
  | _ :: r => by
    show max 0 (PyData.depthAll (r.map PyData.int)) = 0
    rw [depth_is r]
    rfl
theorem shaped_tis (ns : List Int) : SeqAt.shaped (.tuple (ns.map PyData.int)) = true := by
  unfold SeqAt.shaped
  refine Bool.and_eq_true_iff.mpr ⟨canLay_is ns, decide_eq_true ?_⟩
  show PyData.depthAll (ns.map PyData.int) + 1 ≤ 64
  rw [depth_is]
  decide
theorem in_int (i : Int) (is : List Int) : inO (.int i) (.tuple (is.map PyData.int)) = some (decide (i ∈ is)) := by
  show (if noD (.int i) && SeqAt.shaped (.int i) && SeqAt.shaped (.tuple (is.map PyData.int)) then some ((is.map PyData.int).any fun z => PyData.eqv z (.int i)) else none) = _
  rw [shaped_tis, faith_int.any]
  rfl
theorem eq_ints (xs ys : List Int) : eqO (.tuple (xs.map PyData.int)) (.tuple (ys.map PyData.int)) = some (decide (xs = ys)) := by
  unfold eqO
  rw [shaped_tis, shaped_tis]
  show some (PyData.eqv (.tuple (xs.map PyData.int)) (.tuple (ys.map PyData.int))) = _
  congr 1
  rw [Bool.eq_iff_iff, decide_eq_true_eq]
  exact faith_int.tup xs ys
/-! ### sorting -/
theorem alike_pair (a b : Str × Int) : PySem.W.alike (pairE a) (pairE b) = true := by simp [pairE, PySem.W.alike, PySem.W.alikeAll]
theorem alike_pairs : ∀ xs ys : List (Str × Int), PySem.W.alikeAll (xs.map pairE) (ys.map pairE) = true
  | [], _ => by simp [PySem.W.alikeAll]
  | _ :: _, [] => by simp [PySem.W.alikeAll]
  | x :: xs, y :: ys => by
    show PySem.W.alikeAll (pairE x :: xs.map pairE) (pairE y :: ys.map pairE) = true
    rw [PySem.W.alikeAll, alike_pairs xs ys, alike_pair]
    rfl
theorem alike_mom (a b : Mom) : PySem.W.alike (momE a) (momE b) = true := by
  unfold momE
  rw [PySem.W.alike]
  exact alike_pairs a b
theorem alike_st (a b : Stp) : PySem.W.alike (stE a) (stE b) = true := by
  unfold stE
  simp [PySem.W.alike, PySem.W.alikeAll, alike_mom]
theorem depth_pair (a : Str × Int) : (pairE a).depth ≤ 60 := by
  have : (pairE a).depth = 1 := rfl
  rw [this]
  decide
theorem depth_mom (m : Mom) : (momE m).depth ≤ 2 := by
  have go : ∀ m : Mom, PyData.depthAll (m.map pairE) ≤ 1 := by
    intro m
    induction m with
    | nil => exact Nat.zero_le _
    | cons p r ih =>
      show max 1 (PyData.depthAll (r.map pairE)) ≤ 1
      omega
  have := go m
  show PyData.depthAll (m.map pairE) + 1 ≤ 2
  omega
theorem depth_st (s : Stp) : (stE s).depth ≤ 60 := by
  have := depth_mom s.m
  show max 0 (max (momE s.m).depth (max 0 0)) + 1 ≤ 60
  omega
theorem ok_pairs (l : List (Str × Int)) (h : l.length ≤ 1000000) : sortOk (l.map pairE) = true := sortOk_of _ alike_pair (.inl fun _ => rfl) (fun a _ => depth_pair a) h
theorem ok_sts (l : List Stp) (h : l.length ≤ 1000000) : sortOk (l.map stE) = true := sortOk_of _ alike_st (.inl fun _ => rfl) (fun a _ => depth_st a) h
theorem ok_ints (l : List Int) (h : l.length ≤ 1000000) : sortOk (l.map PyData.int) = true := sortOk_of _ (fun _ _ => rfl) (.inr fun _ => rfl) (fun _ _ => Nat.zero_le _) h
theorem ok_moms (l : List Mom) (h : l.length ≤ 1000000) : sortOk (l.map momE) = true := by
  unfold sortOk
  have a : allAlike (l.map momE) = true := by
    unfold allAlike
    refine List.all_eq_true.mpr fun x hx => List.all_eq_true.mpr fun y hy => ?_
    obtain ⟨a, _, rfl⟩ := List.mem_map.mp hx
    obtain ⟨b, _, rfl⟩ := List.mem_map.mp hy
    exact alike_mom a b
  have b : (l.map momE).all isTupB = true := List.all_eq_true.mpr fun x hx => by
    obtain ⟨a, _, rfl⟩ := List.mem_map.mp hx
    rfl
  have c : (l.map momE).all (fun d => decide (d.depth ≤ 60)) = true := List.all_eq_true.mpr fun x hx => by
    obtain ⟨a, ha, rfl⟩ := List.mem_map.mp hx
    exact decide_eq_true (Nat.le_trans (depth_mom a) (by decide))
  have d : fits (l.map momE).length = true := decide_eq_true (by rw [List.length_map]; exact h)
  rw [a, b, c, d, Bool.or_true]
  rfl
/-! ### sorted(set(..)) -/
theorem eqK_int (a b : Int) : eqK (.int a) (.int b) = decide (a = b) := rfl
theorem eqK_pair (a b : Str × Int) : eqK (pairE a) (pairE b) = decide (a = b) := by
  show (decide (a.1 = b.1) && (decide (a.2 = b.2) && true)) = _
  rw [Bool.eq_iff_iff]
  simp only [Bool.and_true, Bool.and_eq_true, decide_eq_true_eq]
  exact ⟨fun ⟨x, y⟩ => Prod.ext x y, fun e => by rw [e]; exact ⟨rfl, rfl⟩⟩
theorem eqKs_pairs : ∀ xs ys : List (Str × Int), eqKs (xs.map pairE) (ys.map pairE) = decide (xs = ys)
  | [], [] => rfl
  | [], _ :: _ => rfl
  | _ :: _, [] => rfl
  | x :: xs, y :: ys => by
    show (eqK (pairE x) (pairE y) && eqKs (xs.map pairE) (ys.map pairE)) = _
    rw [eqK_pair, eqKs_pairs xs ys, Bool.eq_iff_iff]
    simp
theorem eqK_mom (a b : Mom) : eqK (momE a) (momE b) = decide (a = b) := eqKs_pairs a b
theorem nk_pairs : ∀ xs : List (Str × Int), nkBs (xs.map pairE) = true
  | [] => rfl
  | x :: xs => by
    show (nkB (pairE x) && nkBs (xs.map pairE)) = true
    rw [nk_pairs xs]
    rfl
theorem nest_mom (m : Mom) : nestB (momE m) = true := by
  unfold nestB
  have : nkB (momE m) = true := nk_pairs m
  rw [this, decide_eq_true (Nat.le_trans (depth_mom m) (by decide))]
  rfl
theorem set_ints (l : List Int) (h : l.length ≤ 4000) : srtSetO (.list (l.map PyData.int)) = some (.f ((srtE PyData.int (once l)).map PyData.int)) := by
  have a : (l.map PyData.int).all atomB = true := List.all_eq_true.mpr fun x m => by
    obtain ⟨z, _, rfl⟩ := List.mem_map.mp m
    rfl
  have e : setDs (.list (l.map PyData.int)) = some ((once l).map PyData.int) := by
    show (if ((l.map PyData.int).all atomB && decide ((l.map PyData.int).length ≤ 4000)) || ((l.map PyData.int).all nestB && decide ((l.map PyData.int).length < 64)) then some (uniqD [] (l.map PyData.int)) else none) = _
    rw [a, List.length_map, decide_eq_true h]
    show some (uniqD ([].map PyData.int) (l.map PyData.int)) = _
    rw [uniqD_enc eqK_int]
  unfold srtSetO
  rw [e]
  show (if sortOk ((once l).map PyData.int) then some (OpO.f (sortD ((once l).map PyData.int))) else none) = _
  rw [ok_ints _ (by have := once_len l; omega), srtE_eq]
  rfl
theorem set_moms (l : List Mom) (h : l.length < 64) : srtSetO (.list (l.map momE)) = some (.f ((srtE momE (once l)).map momE)) := by
  have a : (l.map momE).all nestB = true := List.all_eq_true.mpr fun x m => by
    obtain ⟨z, _, rfl⟩ := List.mem_map.mp m
    exact nest_mom z
  have e : setDs (.list (l.map momE)) = some ((once l).map momE) := by
    show (if ((l.map momE).all atomB && decide ((l.map momE).length ≤ 4000)) || ((l.map momE).all nestB && decide ((l.map momE).length < 64)) then some (uniqD [] (l.map momE)) else none) = _
    rw [a, List.length_map, decide_eq_true h, Bool.and_true, Bool.or_true]
    show some (uniqD ([].map momE) (l.map momE)) = _
    rw [uniqD_enc eqK_mom]
  unfold srtSetO
  rw [e]
  show (if sortOk ((once l).map momE) then some (OpO.f (sortD ((once l).map momE))) else none) = _
  rw [ok_moms _ (by have := once_len l; omega), srtE_eq]
  rfl
end Pd

set_option Elab.async false
set_option linter.all false
set_option maxRecDepth 100000
namespace K38
open PySem L2 Pd
def top (i : Nat) : Stmt := PySem.Challenge.pw_mannerports_k38_rows_of_tables.main.body.getD i (.Pass ⟨0, 0, 0, 0⟩)
def G0 : Mdl := { fn := fun _ => none, cst := fun x => ([] : List (Str × D)).lookup x, free := fun x => (["enumerate", "isinstance", "len", "list", "range", "repr", "set", "sorted", "tuple"] : List Str).elem x }
/-- _law_tape -/
def d__law_tape : Df := ⟨G0, ["_law_script"], 0, [], 1000⟩
def f__law_tape : FT := runD d__law_tape (L2.defScope (top 6)) 60 (L2.defBody (top 6)) 1
def G__law_tape : Mdl := G0.add "_law_tape" [false] f__law_tape
/-- _law_draw -/
def d__law_draw : Df := ⟨G__law_tape, ["_law_tape_here", "_law_many", "_law_spot", "_law_cell", "_law_mixed", "_law_found"], 1, [0], 1000⟩
def f__law_draw : FT := runD d__law_draw (L2.defScope (top 7)) 60 (L2.defBody (top 7)) 2
def G__law_draw : Mdl := G__law_tape.add "_law_draw" [true, false] f__law_draw
/-- _law_moment -/
def d__law_moment : Df := ⟨G__law_draw, ["_law_tape_here", "_law_seen", "_law_few", "_law_some", "_law_port"], 1, [0], 1000⟩
def f__law_moment : FT := runD d__law_moment (L2.defScope (top 9)) 60 (L2.defBody (top 9)) 3
def G__law_moment : Mdl := G__law_draw.add "_law_moment" [true, false, false] f__law_moment
/-- _law_table -/
def d__law_table : Df := ⟨G__law_moment, ["_law_tape_here", "_law_seen", "_law_most", "_law_steps", "_law_many", "_law_found", "_law_few", "_law_k", "_law_start", "_law_step", "_law_stand"], 1, [0, 5], 1000⟩
def f__law_table : FT := runD d__law_table (L2.defScope (top 10)) 60 (L2.defBody (top 10)) 4
def G__law_table : Mdl := G__law_moment.add "_law_table" [true, false, false, false] f__law_table
/-- _law_walked -/
def d__law_walked : Df := ⟨G__law_table, ["_law_tape_here", "_law_table_here", "_law_many", "_law_stand", "_law_row", "_law_k", "_law_some", "_law_step"], 1, [0], 1000⟩
def f__law_walked : FT := runD d__law_walked (L2.defScope (top 11)) 60 (L2.defBody (top 11)) 3
def G__law_walked : Mdl := G__law_table.add "_law_walked" [true, false, false] f__law_walked
/-- _law_rows -/
def d__law_rows : Df := ⟨G__law_walked, ["_law_tape_here", "_law_table_here", "_law_row", "_law_rows_here", "_law_k", "_law_at", "_law_other"], 1, [0, 3], 1000⟩
def f__law_rows : FT := runD d__law_rows (L2.defScope (top 15)) 60 (L2.defBody (top 15)) 2
def G__law_rows : Mdl := G__law_walked.add "_law_rows" [true, false] f__law_rows
/-- _law_names -/
def d__law_names : Df := ⟨G__law_rows, ["_law_tape_here", "_law_many", "_law_some", "_law_first", "_law_step", "_law_k"], 1, [0], 1000⟩
def f__law_names : FT := runD d__law_names (L2.defScope (top 8)) 60 (L2.defBody (top 8)) 2
def G__law_names : Mdl := G__law_rows.add "_law_names" [true, false] f__law_names
/-- goes_on -/
def d_goes_on : Df := ⟨G__law_names, ["table", "stands", "start", "seen", "to"], 0, [], 1000⟩
def f_goes_on : FT := runD d_goes_on (L2.defScope (top 2)) 60 (L2.defBody (top 2)) 2
def G_goes_on : Mdl := G__law_names.add "goes_on" [false, false] f_goes_on
/-- stands_behind -/
def d_stands_behind : Df := ⟨G_goes_on, ["table", "stands", "moment", "start", "seen", "to"], 0, [], 1000⟩
def f_stands_behind : FT := runD d_stands_behind (L2.defScope (top 1)) 60 (L2.defBody (top 1)) 3
def G_stands_behind : Mdl := G_goes_on.add "stands_behind" [false, false, false] f_stands_behind
/-- _law_behind -/
def d__law_behind : Df := ⟨G_stands_behind, ["_law_table_here", "_law_stands", "_law_moment_here", "_law_found", "_law_stand", "_law_step"], 0, [3], 1000⟩
def f__law_behind : FT := runD d__law_behind (L2.defScope (top 12)) 60 (L2.defBody (top 12)) 3
def G__law_behind : Mdl := G_stands_behind.add "_law_behind" [false, false, false] f__law_behind
/-- _law_sets_right -/
def d__law_sets_right : Df := ⟨G__law_behind, ["_law_tape_here", "_law_table_here", "_law_stands", "_law_due", "_law_step", "_law_turn", "_law_moment_here", "_law_found", "_law_stand"], 1, [0, 3, 7], 1000⟩
def f__law_sets_right : FT := runD d__law_sets_right (L2.defScope (top 14)) 60 (L2.defBody (top 14)) 2
def G__law_sets_right : Mdl := G__law_behind.add "_law_sets_right" [true, false] f__law_sets_right
/-- _law_breaks -/
def d__law_breaks : Df := ⟨G__law_sets_right, ["_law_table_here", "_law_row", "_law_stands", "_law_number"], 0, [], 1000⟩
def f__law_breaks : FT := runD d__law_breaks (L2.defScope (top 13)) 60 (L2.defBody (top 13)) 2
def G__law_breaks : Mdl := G__law_sets_right.add "_law_breaks" [false, false] f__law_breaks
/-- table_breaks -/
def d_table_breaks : Df := ⟨G__law_breaks, ["table", "row", "stands", "number", "moment"], 0, [], 1000⟩
def f_table_breaks : FT := runD d_table_breaks (L2.defScope (top 3)) 60 (L2.defBody (top 3)) 2
def G_table_breaks : Mdl := G__law_breaks.add "table_breaks" [false, false] f_table_breaks
/-- table_has -/
def d_table_has : Df := ⟨G_table_breaks, ["table", "row"], 0, [], 1000⟩
def f_table_has : FT := runD d_table_has (L2.defScope (top 4)) 60 (L2.defBody (top 4)) 2
def G_table_has : Mdl := G_table_breaks.add "table_has" [false, false] f_table_has
/-- law -/
def d_law : Df := ⟨G_table_has, ["_law_script", "_law_tape_here", "_law_k", "_law_table_here", "_law_kept", "_law_row", "_law_due", "_law_fewer", "_law_other", "_law_told"], 0, [1], 1000⟩
def f_law : FT := runD d_law (L2.defScope (top 16)) 60 (L2.defBody (top 16)) 1
def b__law_tape : M Fl := blkS [retS 0 (lstM 0 [slM (nm 0) none (some (ret (.int 63))), ret (.int 0), ret (.int 0)])]
theorem e__law_tape : exB d__law_tape (L2.defScope (top 6)) 60 (L2.defBody (top 6)) = b__law_tape := by kernel_rfl
def b__law_draw : M Fl := blkS [ifS 1 (valT (cmpM .Gt (ixM (nm 0) (ret (.int 2))) (ret (.int 0)))) (blkS [setS 1 false 5 (binM .Mod (ixM (nm 0) (ret (.int 2))) (nm 1)),
    itemS 1 (binM .FloorDiv (ixM (nm 0) (ret (.int 2))) (nm 1)) (nm 0) (ret (.int 2)),
    retS 1 (nm 5)]) (blkS []),
  setS 1 false 2 (ixM (nm 0) (ret (.int 1))),
  itemS 1 (binM .Add (nm 2) (ret (.int 1))) (nm 0) (ret (.int 1)),
  setS 1 false 3 (ret (.int 0)),
  ifS 1 (valT (cmpM .Gt (bltM .len [ixM (nm 0) (ret (.int 0))]) (ret (.int 0)))) (blkS [setS 1 false 3 (ixM (ixM (nm 0) (ret (.int 0))) (binM .Mod (nm 2) (bltM .len [ixM (nm 0) (ret (.int 0))])))]) (blkS []),
  ifS 1 (valT (cmpM .GtE (nm 3) (binM .Pow (ret (.int 10)) (ret (.int 18))))) (blkS [itemS 1 (binM .FloorDiv (nm 3) (nm 1)) (nm 0) (ret (.int 2)),
    retS 1 (binM .Mod (nm 3) (nm 1))]) (blkS []),
  setS 1 false 4 (binM .Mod (binM .Mult (binM .Add (binM .Add (binM .Add (binM .Mod (nm 3) (ret (.int 1000003))) (binM .Mult (binM .Mult (ret (.int 37)) (nm 2)) (nm 2))) (binM .Mult (ret (.int 101)) (nm 2))) (ret (.int 7))) (ret (.int 48271))) (ret (.int 2147483587))),
  setS 1 false 4 (binM .Mod (binM .Add (binM .Mult (nm 4) (ret (.int 69621))) (binM .Mult (ret (.int 7919)) (nm 2))) (ret (.int 2147483549))),
  retS 1 (binM .Mod (binM .FloorDiv (nm 4) (ret (.int 64))) (nm 1))]
theorem e__law_draw : exB d__law_draw (L2.defScope (top 7)) 60 (L2.defBody (top 7)) = b__law_draw := by kernel_rfl
def x__law_moment_1 : M RV := nm 4
def t__law_moment_1 : M Bool := allT [valT (cmpM .Lt (defM 1 [true, false] f__law_draw [nm 0, ret (.int 3)]) (nm 2))]
def x__law_moment_2 : M RV := tupM 1 [nm 4, binM .Mult (defM 1 [true, false] f__law_draw [nm 0, ret (.int 3)]) (defM 1 [true, false] f__law_draw [nm 0, ret (.int 2)])]
def b__law_moment : M Fl := blkS [setS 1 false 3 (lcM 1 [4] (tgN 4) (t__law_moment_1) (x__law_moment_1) (iterM 1 (nm 1))),
  retS 1 (bltM .tup [bltM .srt [lcM 1 [4] (tgN 4) (allT []) (x__law_moment_2) (iterM 1 (nm 3))]])]
theorem e__law_moment : exB d__law_moment (L2.defScope (top 9)) 60 (L2.defBody (top 9)) = b__law_moment := by kernel_rfl
def l__law_table_1 : M Fl := blkS [setS 1 false 8 (defM 1 [true, false] f__law_draw [nm 0, nm 4]),
  setS 1 false 9 (tupM 1 [nm 8, defM 1 [true, false, false] f__law_moment [nm 0, nm 1, nm 6], defM 1 [true, false] f__law_draw [nm 0, nm 4]]),
  ifS 1 (valT (cmpM .NotIn (nm 9) (nm 5))) (blkS [exprS 1 (appendM 1 (nm 5) (nm 9))]) (blkS [])]
def x__law_table_1 : M RV := tupM 1 [nm 10, tupM 1 [], nm 10]
def t__law_table_1 : M Bool := allT [valT (cmpM .NotIn (tupM 1 [nm 10, tupM 1 [], nm 10]) (nm 5))]
def b__law_table : M Fl := blkS [setS 1 false 4 (binM .Add (ret (.int 1)) (defM 1 [true, false] f__law_draw [nm 0, nm 2])),
  setS 1 true 5 (lstM 1 []),
  setS 1 false 6 (binM .Add (ret (.int 1)) (defM 1 [true, false] f__law_draw [nm 0, ret (.int 2)])),
  forS 1 (tgN 7) (rangeM [defM 1 [true, false] f__law_draw [nm 0, binM .Add (nm 3) (ret (.int 1))]]) (l__law_table_1),
  ifS 1 (valT (cmpM .Eq (defM 1 [true, false] f__law_draw [nm 0, ret (.int 2)]) (ret (.int 0)))) (blkS [setS 1 true 5 (binM .Add (nm 5) (lcM 1 [10] (tgN 10) (t__law_table_1) (x__law_table_1) (rangeM [nm 4])))]) (blkS []),
  retS 1 (tupM 1 [bltM .tup [nm 1], nm 4, bltM .tup [bltM .srt [nm 5]]])]
theorem e__law_table : exB d__law_table (L2.defScope (top 10)) 60 (L2.defBody (top 10)) = b__law_table := by kernel_rfl
def x__law_walked_1 : M RV := nm 7
def t__law_walked_1 : M Bool := allT [valT (cmpM .Eq (ixM (nm 7) (ret (.int 0))) (nm 3))]
def l__law_walked_1 : M Fl := blkS [setS 1 false 6 (lcM 1 [7] (tgN 7) (t__law_walked_1) (x__law_walked_1) (iterM 1 (ixM (nm 1) (ret (.int 2))))),
  ifS 1 (valT (cmpM .NotEq (nm 6) (lstM 1 []))) (blkS [setS 1 false 7 (ixM (nm 6) (defM 1 [true, false] f__law_draw [nm 0, bltM .len [nm 6]])),
    setS 1 false 4 (binM .Add (nm 4) (tupM 1 [ixM (nm 7) (ret (.int 1))])),
    setS 1 false 3 (ixM (nm 7) (ret (.int 2)))]) (blkS [])]
def b__law_walked : M Fl := blkS [setS 1 false 3 (ret (.int 0)),
  setS 1 false 4 (tupM 1 []),
  forS 1 (tgN 5) (rangeM [nm 2]) (l__law_walked_1),
  retS 1 (nm 4)]
theorem e__law_walked : exB d__law_walked (L2.defScope (top 11)) 60 (L2.defBody (top 11)) = b__law_walked := by kernel_rfl
def l__law_rows_1 : M Fl := blkS [setS 1 false 5 (defM 1 [true, false] f__law_draw [nm 0, binM .Add (bltM .len [nm 2]) (ret (.int 1))]),
  setS 1 false 6 (tupM 1 [defM 1 [true, false, false] f__law_moment [nm 0, ixM (nm 1) (ret (.int 0)), ret (.int 2)]]),
  exprS 1 (appendM 1 (nm 3) (ixM (lstM 1 [binM .Add (slM (nm 2) none (some (nm 5))) (slM (nm 2) (some (binM .Add (nm 5) (ret (.int 1)))) none), binM .Add (binM .Add (slM (nm 2) none (some (nm 5))) (nm 6)) (slM (nm 2) (some (nm 5)) none), binM .Add (binM .Add (slM (nm 2) none (some (nm 5))) (nm 6)) (slM (nm 2) (some (binM .Add (nm 5) (ret (.int 1)))) none), nm 6]) (nm 4)))]
def b__law_rows : M Fl := blkS [setS 1 false 2 (defM 1 [true, false, false] f__law_walked [nm 0, nm 1, ret (.int 30)]),
  setS 1 true 3 (lstM 1 [tupM 1 [], nm 2]),
  forS 1 (tgN 4) (rangeM [ret (.int 4)]) (l__law_rows_1),
  retS 1 (nm 3)]
theorem e__law_rows : exB d__law_rows (L2.defScope (top 15)) 60 (L2.defBody (top 15)) = b__law_rows := by kernel_rfl
def x__law_names_1 : M RV := ixM (nm 2) (binM .Mod (binM .Add (nm 3) (binM .Mult (nm 4) (nm 5))) (ret (.int 17)))
def b__law_names : M Fl := blkS [setS 1 false 2 (lstM 1 [ret (.str "a"), ret (.str "ab"), ret (.str "abc"), ret (.str "net"), ret (.str "end"), ret (.str "within"), ret (.str "to"), ret (.str "table"), ret (.str "step"), ret (.str "box"), ret (.str "port"), ret (.str "next"), ret (.str "b"), ret (.str "zzzzzzzz")]),
  setS 1 false 2 (binM .Add (nm 2) (lstM 1 [ret (.str "both"), ret (.str "place"), ret (.str "ba")])),
  setS 1 false 3 (defM 1 [true, false] f__law_draw [nm 0, ret (.int 17)]),
  setS 1 false 4 (binM .Add (ret (.int 1)) (defM 1 [true, false] f__law_draw [nm 0, ret (.int 16)])),
  retS 1 (lcM 1 [5] (tgN 5) (allT []) (x__law_names_1) (rangeM [nm 1]))]
theorem e__law_names : exB d__law_names (L2.defScope (top 8)) 60 (L2.defBody (top 8)) = b__law_names := by kernel_rfl
def x_goes_on_1 : M RV := nm 3
def t_goes_on_1 : M Bool := allT [valT (cmpM .In (nm 2) (nm 1))]
def b_goes_on : M Fl := blkS [retS 0 (srtSetM (lcM 0 [2, 3, 4] (tgS [(tgN 2), (tgN 3), (tgN 4)]) (t_goes_on_1) (x_goes_on_1) (iterM 0 (ixM (nm 0) (ret (.int 2))))))]
theorem e_goes_on : exB d_goes_on (L2.defScope (top 2)) 60 (L2.defBody (top 2)) = b_goes_on := by kernel_rfl
def x_stands_behind_1 : M RV := nm 5
def t_stands_behind_1 : M Bool := allT [allT [valT (cmpM .In (nm 3) (nm 1)), valT (cmpM .Eq (nm 4) (nm 2))]]
def b_stands_behind : M Fl := blkS [retS 0 (bltM .tup [srtSetM (lcM 0 [3, 4, 5] (tgS [(tgN 3), (tgN 4), (tgN 5)]) (t_stands_behind_1) (x_stands_behind_1) (iterM 0 (ixM (nm 0) (ret (.int 2)))))])]
theorem e_stands_behind : exB d_stands_behind (L2.defScope (top 1)) 60 (L2.defBody (top 1)) = b_stands_behind := by kernel_rfl
def l__law_behind_2 : M Fl := blkS [ifS 0 (allT [valT (cmpM .Eq (ixM (nm 5) (ret (.int 0))) (nm 4)), valT (cmpM .Eq (ixM (nm 5) (ret (.int 1))) (nm 2))]) (blkS [itemS 0 (ret (.bool true)) (nm 3) (ixM (nm 5) (ret (.int 2)))]) (blkS [])]
def l__law_behind_1 : M Fl := blkS [forS 0 (tgN 5) (iterM 0 (ixM (nm 0) (ret (.int 2)))) (l__law_behind_2)]
def b__law_behind : M Fl := blkS [setS 0 true 3 (newD),
  forS 0 (tgN 4) (iterM 0 (nm 1)) (l__law_behind_1),
  retS 0 (bltM .tup [bltM .srt [bltM .lst [nm 3]]])]
theorem e__law_behind : exB d__law_behind (L2.defScope (top 12)) 60 (L2.defBody (top 12)) = b__law_behind := by kernel_rfl
def x__law_sets_right_1 : M RV := nm 8
def t__law_sets_right_1 : M Bool := allT [valT (cmpM .Eq (defM 1 [true, false] f__law_draw [nm 0, ret (.int 3)]) (ret (.int 0)))]
def l__law_sets_right_1 : M Fl := blkS [ifS 1 (allT [valT (cmpM .In (ixM (nm 4) (ret (.int 0))) (nm 2)), valT (cmpM .NotIn (ixM (nm 4) (ret (.int 1))) (nm 3))]) (blkS [exprS 1 (appendM 1 (nm 3) (ixM (nm 4) (ret (.int 1))))]) (blkS [])]
def l__law_sets_right_2 : M Fl := blkS [setS 1 true 7 (defM 1 [false, false] f_goes_on [nm 1, nm 2]),
  ifS 1 (anyT [notT (valT (isiM .list (nm 7))), valT (cmpM .NotEq (bltM .rep [nm 7]) (bltM .rep [bltM .srt [nm 3]]))]) (blkS [retS 1 (ret (.bool false))]) (blkS []),
  exprS 1 (appendM 1 (nm 7) (tupM 1 []))]
def l__law_sets_right_3 : M Fl := blkS [ifS 1 (valT (cmpM .NotEq (bltM .rep [defM 1 [false, false, false] f_stands_behind [nm 1, nm 2, nm 6]]) (bltM .rep [defM 1 [false, false, false] f__law_behind [nm 1, nm 2, nm 6]]))) (blkS [retS 1 (ret (.bool false))]) (blkS [])]
def b__law_sets_right : M Fl := blkS [setS 1 false 2 (bltM .tup [lcM 1 [8] (tgN 8) (t__law_sets_right_1) (x__law_sets_right_1) (rangeM [ixM (nm 1) (ret (.int 1))])]),
  setS 1 true 3 (lstM 1 []),
  forS 1 (tgN 4) (iterM 1 (ixM (nm 1) (ret (.int 2)))) (l__law_sets_right_1),
  forS 1 (tgN 5) (rangeM [ret (.int 2)]) (l__law_sets_right_2),
  forS 1 (tgN 6) (iterM 1 (binM .Add (slM (nm 3) none (some (ret (.int 4)))) (lstM 1 [defM 1 [true, false, false] f__law_moment [nm 0, ixM (nm 1) (ret (.int 0)), ret (.int 2)], tupM 1 []]))) (l__law_sets_right_3),
  retS 1 (ret (.bool true))]
theorem e__law_sets_right : exB d__law_sets_right (L2.defScope (top 14)) 60 (L2.defBody (top 14)) = b__law_sets_right := by kernel_rfl
def l__law_breaks_1 : M Fl := blkS [setS 0 false 2 (defM 0 [false, false, false] f__law_behind [nm 0, nm 2, ixM (nm 1) (nm 3)]),
  ifS 0 (valT (cmpM .Eq (nm 2) (tupM 0 []))) (blkS [retS 0 (nm 3)]) (blkS [])]
def b__law_breaks : M Fl := blkS [setS 0 false 2 (tupM 0 [ret (.int 0)]),
  forS 0 (tgN 3) (rangeM [bltM .len [nm 1]]) (l__law_breaks_1),
  retS 0 (ret (.none))]
theorem e__law_breaks : exB d__law_breaks (L2.defScope (top 13)) 60 (L2.defBody (top 13)) = b__law_breaks := by kernel_rfl
def l_table_breaks_1 : M Fl := blkS [setS 0 false 2 (defM 0 [false, false, false] f_stands_behind [nm 0, nm 2, nm 4]),
  ifS 0 (valT (cmpM .Eq (nm 2) (tupM 0 []))) (blkS [retS 0 (nm 3)]) (blkS [])]
def b_table_breaks : M Fl := blkS [setS 0 false 2 (tupM 0 [ret (.int 0)]),
  forS 0 (tgS [(tgN 3), (tgN 4)]) (enumM 0 [nm 1]) (l_table_breaks_1),
  retS 0 (ret (.none))]
theorem e_table_breaks : exB d_table_breaks (L2.defScope (top 3)) 60 (L2.defBody (top 3)) = b_table_breaks := by kernel_rfl
def b_table_has : M Fl := blkS [retS 0 (cmpM .Is (defM 0 [false, false] f_table_breaks [nm 0, nm 1]) (ret (.none)))]
theorem e_table_has : exB d_table_has (L2.defScope (top 4)) 60 (L2.defBody (top 4)) = b_table_has := by kernel_rfl
def l_law_2 : M Fl := blkS [setS 0 false 6 (defM 0 [false, false] f__law_breaks [nm 3, nm 5]),
  ifS 0 (anyT [valT (cmpM .NotEq (bltM .rep [defM 0 [false, false] f_table_breaks [nm 3, nm 5]]) (bltM .rep [nm 6])), valT (cmpM .NotEq (bltM .rep [defM 0 [false, false] f_table_has [nm 3, nm 5]]) (bltM .rep [cmpM .Is (nm 6) (ret (.none))]))]) (blkS [retS 0 (ret (.bool false))]) (blkS []),
  setS 0 false 7 (binM .Add (slM (nm 3) none (some (ret (.int 2)))) (tupM 0 [slM (ixM (nm 3) (ret (.int 2))) none (some (negM (ret (.int 1))))])),
  setS 0 false 8 (defM 0 [false, false] f__law_breaks [nm 7, nm 5]),
  setS 0 false 9 (lstM 0 [defM 0 [false, false] f_table_breaks [nm 7, nm 5], defM 0 [false, false] f_table_breaks [nm 3, nm 5], defM 0 [false, false] f_table_has [nm 7, nm 5], defM 0 [false, false] f_table_has [nm 3, nm 5]]),
  ifS 0 (valT (cmpM .NotEq (bltM .rep [nm 9]) (bltM .rep [lstM 0 [nm 8, nm 6, cmpM .Is (nm 8) (ret (.none)), cmpM .Is (nm 6) (ret (.none))]]))) (blkS [retS 0 (ret (.bool false))]) (blkS [])]
def l_law_1 : M Fl := blkS [setS 0 false 3 (defM 0 [true, false, false, false] f__law_table [nm 1, defM 0 [true, false] f__law_names [nm 1, defM 0 [true, false] f__law_draw [nm 1, ret (.int 5)]], ret (.int 8), ret (.int 20)]),
  setS 0 false 4 (bltM .rep [nm 3]),
  ifS 0 (notT (valT (defM 0 [true, false] f__law_sets_right [nm 1, nm 3]))) (blkS [retS 0 (ret (.bool false))]) (blkS []),
  forS 0 (tgN 5) (iterM 0 (defM 0 [true, false] f__law_rows [nm 1, nm 3])) (l_law_2),
  ifS 0 (valT (cmpM .NotEq (bltM .rep [nm 3]) (nm 4))) (blkS [retS 0 (ret (.bool false))]) (blkS [])]
def b_law : M Fl := blkS [setS 0 true 1 (defM 0 [false] f__law_tape [nm 0]),
  forS 0 (tgN 2) (rangeM [ret (.int 4)]) (l_law_1),
  retS 0 (ret (.bool true))]
theorem e_law : exB d_law (L2.defScope (top 16)) 60 (L2.defBody (top 16)) = b_law := by kernel_rfl
end K38

set_option Elab.async false
set_option linter.all false
set_option maxRecDepth 100000
namespace K38
open PySem L2 Pd
local macro_rules | `(tactic| walk_at "sz") => `(tactic| (first | omega | ((try simp only [List.length_append, List.length_map, List.length_replicate, List.length_cons, List.length_nil, List.length_range, List.length_take, List.length_drop, List.length_eraseIdx, List.length_set]) ; omega)))
local macro_rules | `(tactic| walk_at "ev") => `(tactic| simp -implicitDefEqProofs (disch := walk_at "sz") only [z_fin_n, z_fin_d, z_fin_f, z_fin_r, z_rtO, z_rtK, ↓z_bind, ↓z_pure, ↓z_fail, ↓z_ret, ↓z_cst, ↓z_nm, ↓z_toC_c, ↓z_toC_f, ↓z_asC, ↓z_asD, z_fzR_d, z_fzR_f, z_fzR_r, z_rdM_d, z_rdM_r, z_optM_some, z_optM_none, z_opM, z_blM, z_rv_d, z_rv_f, ↓z_bin, ↓z_cmp, ↓z_chain, ↓z_ix, z_part_n, ↓z_part_s, ↓z_sl, ↓z_intM, ↓z_boolM, ↓z_and1, ↓z_and2, ↓z_or1, ↓z_or2, z_allT0, ↓z_allT1, ↓z_allT, z_anyT0, ↓z_anyT1, ↓z_anyT, ↓z_notT, ↓z_valT, ↓z_notM, ↓z_negM, ↓z_iteM, ↓z_ifRV, ↓z_ifM, z_seq0, ↓z_seq, ↓z_tup, ↓z_lst, z_rdAll0, ↓z_rdAll, ↓z_blt, ↓z_def, ↓z_lrg, ↓z_range1, ↓z_range2, ↓z_iter, ↓z_zip, ↓z_enum, z_args0, ↓z_args, ↓z_av_f, ↓z_av_t, z_kOf, z_call_0, z_call_1, z_call_2, z_call_3, z_call_4, z_call_5, z_out1, z_out1x, z_callk0, z_callk1, z_callk2, z_callk3, z_callk4, z_frv_d, z_frv_f, z_frv_g, z_ptrM, z_ptrO, ↓z_app, ↓z_ext, z_setL, z_appO, z_appR, z_extO, z_extR, ↓z_pop, z_popS, z_popR, z_blk0, ↓z_blk, z_seqK_n, z_seqK_r, z_seqK_b, z_seqK_c, ↓z_okF, ↓z_chk, z_chkK, ↓z_set, z_sto_c, z_sto_f, z_sto_o, z_sto_g, ↓z_item, z_setO, z_setR, z_setRd, z_optrM, z_key_s, z_key_i, ↓z_isi, z_isT_si, z_isT_st, z_isT_sl, z_isT_sn, z_isT_sb, z_isT_s0, z_isT_ts, z_isT_tt, z_isT_tl, z_isT_tn, z_isT_tb, z_isT_t0, z_isT_is, z_isT_it, z_isT_il, z_isT_in, z_isT_ib, z_isT_i0, z_isT_bs, z_isT_bt, z_isT_bl, z_isT_bn, z_isT_bb, z_isT_b0, z_isT_ls, z_isT_lt, z_isT_ll, z_isT_ln, z_isT_lb, z_isT_l0, ↓z_srtSet, ↓z_lenSet, ↓z_newd, ↓z_dct, ↓z_revM, z_rev_l, z_rev_t, z_add_bi, z_add_ib, z_sub_bi, z_sub_ib, z_lt_s, z_sl_s, z_ix_s, z_srt_d, z_len_d, z_lst_d, z_in_d, z_ix_d, ↓z_unp, z_tgN, z_tgS_t, z_tgS_l, z_each0, ↓z_each, ↓z_expr, ↓z_retS, z_retM_d, z_retM_r, z_retM_f, ↓z_if, ↓z_for, z_for0, z_gc, z_hi_d, z_hi_n, z_hi_m, z_hi_r, z_add_i, z_sub_i, z_add_t, z_add_l, z_add_s, z_mul_i, z_mul_t, z_mul_l, z_cmp_eq, z_cmp_ne, z_cmp_in, z_cmp_ni, z_is, z_isnt, z_lt, z_le, z_gt, z_ge, z_isn_n, z_isn_i, z_isn_s, z_isn_t, z_isn_l, z_isn_b, z_ix_l0, z_ix_l1, z_ix_l2, z_ix_l3, z_ix_t0, z_ix_t1, z_ix_t2, z_ix_t3, z_ix_t4, z_sl_l, z_sl_t, z_map_s, z_map_n, z_len_l, z_len_t, z_tup_l, z_tup_t, z_lst_l, z_lst_t, z_min2, z_max2, z_int_b, z_int_i, z_srt, z_seq_l, z_seq_t, List.getElem?_cons_zero, List.getElem?_cons_succ, List.set_cons_zero, List.set_cons_succ, List.map_cons, List.map_nil, List.foldl_cons, List.foldl_nil, List.take_succ_cons, List.take_zero, List.take_nil, List.length_cons, List.length_nil, Nat.reduceAdd, Nat.reduceLeDiff, Nat.zero_le, Nat.le_refl, ↓reduceIte, Bool.false_eq_true, Bool.not_true, Bool.not_false, Bool.true_and, Bool.and_true, Bool.false_and, Bool.and_false, Bool.true_or, Bool.or_true, Bool.false_or, Bool.or_false, List.cons_append, List.nil_append, List.append_nil, z_max, Nat.reduceEqDiff, Nat.reduceBEq, beq_self_eq_true, List.getElem?_nil, eqO_lit, inO_litU2, inO_litU4, lk_net, lk_copy, lk_merge, lk_both, lk_loose, lk_drain, lk_either, lk_only, lk_place, lk_last, decide_false, decide_true, decide_eq_true_eq, Int.natAbs_natCast, Option.map_some, Option.map_none, z_hi_m, String.reduceEq, Int.toNat_natCast, Int.reduceToNat, Int.cast_ofNat_Int, z_repf, List.replicate_succ, List.replicate_zero, List.flatten_cons, List.flatten_nil, fits_c, small_c, mulOk_c, ixN_c, *])
theorem draw38 : DrawsT f__law_draw := drawsT_of (e__law_draw.trans rfl) rfl rfl
theorem tape38 (ns : List Int) (hn : ns.length ≤ 63) : f__law_tape [.d (.list (ns.map PyData.int))] = some (.ok (.f [.list (ns.map PyData.int), .int 0, .int 0]), []) := by
  have go : f__law_tape [.d (.list (ns.map PyData.int))] = fin 0 (b__law_tape ⟨[some (.d (.list (ns.map PyData.int)))], []⟩) := run_eq e__law_tape rfl rfl (by decide)
  rw [go]
  unfold b__law_tape
  have c : cutD (ns.map PyData.int) none (some 63) = ns.map PyData.int := by
    have := cut_hi (ns.map PyData.int) 63
    rw [show ((63 : Nat) : Int) = 63 from rfl] at this
    rw [this]
    exact List.take_of_length_le (by rw [List.length_map]; exact hn)
  walk_at "ev"
/-! ### names -/
def pool : List Str := ["a", "ab", "abc", "net", "end", "within", "to", "table", "step", "box", "port", "next", "b", "zzzzzzzz", "both", "place", "ba"]
def poolD : List D := pool.map PyData.str
def nameAt (i : Int) : Str := pool.getD (i % 17).toNat "a"
theorem pool_ok : ∀ z ∈ pool, okP z := by
  have all : ∀ l : List Str, (l.all fun z => PyData.strOk z && (decide (z.length ≤ 8) && z.cps.toList.all fun c => decide (c < 16 ^ 8))) = true → ∀ z ∈ l, okP z := fun l h z m => by
    have := List.all_eq_true.mp h z m
    simp only [Bool.and_eq_true, decide_eq_true_eq] at this
    exact ⟨⟨this.1, fun c mc => by
      have := List.all_eq_true.mp this.2.2 c mc
      exact of_decide_eq_true this⟩, this.2.1⟩
  exact all _ (by decide +kernel)
theorem name_ok (i : Int) : okP (nameAt i) := by
  unfold nameAt
  have h : (i % 17).toNat < pool.length := by
    show _ < 17
    have := Int.emod_lt_of_pos i (show (0 : Int) < 17 by decide)
    omega
  rw [List.getD_eq_getElem?_getD, List.getElem?_eq_getElem h]
  exact pool_ok _ (List.getElem_mem h)
theorem name_ix (i : Int) : ixO (.list poolD) (.int (i % 17)) = some (.str (nameAt i)) := by
  have h1 := Int.emod_nonneg i (show (17 : Int) ≠ 0 by decide)
  have h2 := Int.emod_lt_of_pos i (show (0 : Int) < 17 by decide)
  have h : (i % 17).toNat < pool.length := by
    show _ < 17
    omega
  have e : i % 17 = ((i % 17).toNat : Nat) := by omega
  rw [e]
  refine ix_list_at ?_
  unfold poolD nameAt
  rw [List.getElem?_map, List.getElem?_eq_getElem h, List.getD_eq_getElem?_getD, List.getElem?_eq_getElem h]
  rfl
abbrev nmS (o : MO) (many : Int) (p a b k : Option D) : PSt := ⟨[some (.r 0), some (.d (.int many)), p.map C.d, a.map C.d, b.map C.d, k.map C.d], [o]⟩
theorem names38 (ns : List Int) (k : Nat) (o : MO) (many : Nat) (hm : many ≤ 8) (hf : FdT ns (k + 2) o) :
    ∃ (names : List Str) (o' : MO), f__law_names [.m o, .d (.int many)] = some (.ok (.f (names.map PyData.str)), [o']) ∧ FdT ns k o' ∧ names.length = many ∧ ∀ z ∈ names, okP z := by
  obtain ⟨a, o1, e1, a1, a2, f1⟩ := draw38 ns (k + 1) o 17 hf (by decide) (by decide)
  obtain ⟨b, o2, e2, b1, b2, f2⟩ := draw38 ns k o1 16 f1 (by decide) (by decide)
  have hne := hf.ne
  have hne1 := f1.ne
  have hb : big (1 + b) = true := decide_eq_true (by omega)
  have hmod : ∀ i : Int, binO .Mod (.int i) (.int 17) = some (.d (.int (i % 17))) := fun i => mod_ok (by decide)
  refine ⟨(List.range many).map fun j => nameAt (a + (1 + b) * (j : Nat)), o2, ?_, f2, by rw [List.length_map, List.length_range], fun z m => ?_⟩
  · have lc : lcM 1 [5] (tgN 5) (allT []) x__law_names_1 (rangeM [nm 1]) (nmS o2 many (some (.list poolD)) (some (.int a)) (some (.int (1 + b))) none) = some (.ok (.f ((List.range many).map fun j => PyData.str (nameAt (a + (1 + b) * (j : Nat))))), nmS o2 many (some (.list poolD)) (some (.int a)) (some (.int (1 + b))) none) := by
      refine lc_m1 (enc := fun j : Nat => PyData.int (j : Int)) (fun j => PyData.str (nameAt (a + (1 + b) * (j : Nat)))) (List.range many) ?_ rfl (fun j mj => ?_) (by rw [List.length_range]; omega)
      · rw [← rangeL0]
        clear e1 e2 hmod hb hf f1 f2 hne hne1
        generalize poolD = PP
        simp only [nmS, Option.map_some, Option.map_none]
        walk_at "ev"
      · refine ⟨(nmS o2 many (some (.list poolD)) (some (.int a)) (some (.int (1 + b))) (some (.int (j : Int)))).env, rfl, rfl, ?_⟩
        have hix := name_ix (a + (1 + b) * (j : Nat))
        clear e1 e2 hf f1 f2 hne hne1
        generalize poolD = PP at *
        unfold x__law_names_1
        simp only [nmS, Option.map_some, Option.map_none]
        walk_at "ev"
    have first : ∀ rest : List (M Fl), blkS (setS 1 false 2 (lstM 1 [ret (.str "a"), ret (.str "ab"), ret (.str "abc"), ret (.str "net"), ret (.str "end"), ret (.str "within"), ret (.str "to"), ret (.str "table"), ret (.str "step"), ret (.str "box"), ret (.str "port"), ret (.str "next"), ret (.str "b"), ret (.str "zzzzzzzz")]) ::
        setS 1 false 2 (binM .Add (nm 2) (lstM 1 [ret (.str "both"), ret (.str "place"), ret (.str "ba")])) :: rest) (nmS o many none none none none) = blkS rest (nmS o many (some (.list poolD)) none none none) := fun rest => by
      clear e1 e2 hmod hb hf f1 f2 hne1 lc
      unfold poolD pool
      simp only [nmS, Option.map_some, Option.map_none]
      walk_at "ev"
    have go : f__law_names [.m o, .d (.int many)] = fin 1 (b__law_names (nmS o many none none none none)) := run_eq e__law_names rfl rfl (by decide)
    rw [go]
    unfold b__law_names
    rw [first]
    rw [List.map_map]
    have ec : (List.range many).map (PyData.str ∘ fun j => nameAt (a + (1 + b) * (j : Nat))) = (List.range many).map fun j => PyData.str (nameAt (a + (1 + b) * (j : Nat))) := rfl
    rw [ec]
    generalize (List.range many).map (fun j => PyData.str (nameAt (a + (1 + b) * (j : Nat)))) = YS at *
    clear first hmod hb hf f1 f2 go ec
    generalize poolD = PP at *
    simp only [nmS, Option.map_some, Option.map_none] at lc ⊢
    walk_at "ev"
  · obtain ⟨j, _, rfl⟩ := List.mem_map.mp m
    exact name_ok _
/-! ### a moment -/
abbrev moS (o : MO) (x : D) (few : Int) (so : Option D) (po : Option D) : PSt := ⟨[some (.r 0), some (.d x), some (.d (.int few)), so.map C.d, po.map C.d], [o]⟩
theorem some38 (ns : List Int) (k : Nat) (o : MO) (x : D) (seen : List Str) (hx : seqOf x = some (seen.map PyData.str)) (hs : seen.length ≤ 8) (few : Int) (hf : FdT ns (k + seen.length) o) :
    ∃ (qs : List Str) (o' : MO), lcM 1 [4] (tgN 4) t__law_moment_1 x__law_moment_1 (iterM 1 (nm 1)) (moS o x few none none) = some (.ok (.f (qs.map PyData.str)), moS o' x few none none) ∧ FdT ns k o' ∧ qs.length ≤ seen.length ∧ ∀ z ∈ qs, z ∈ seen := by
  have hit : iterM 1 (nm 1) (moS o x few none none) = some (.ok (seen.map PyData.str), moS o x few none none) := by
    clear hf
    simp only [moS, Option.map_some, Option.map_none]
    walk_at "ev"
  obtain ⟨ys, L', e, qs, rr, o', rfl, e1, rfl, f', hl, hq⟩ := lc_ex (m := 1) (vs := [4]) (tg := tgN 4) (test := t__law_moment_1) (elt := x__law_moment_1) (fun rest ys L => ∃ (qs rr : List Str) (o : MO), ys = qs.map PyData.str ∧ rest = rr.map PyData.str ∧ L = [o] ∧ FdT ns (k + rr.length) o ∧ qs.length + rr.length ≤ seen.length ∧ (∀ z ∈ qs, z ∈ seen) ∧ ∀ z ∈ rr, z ∈ seen) hit rfl
    (fun y r ys L ⟨qs, rr, o, e1, e2, e3, f, hl, hq, hr⟩ => by
      subst e1
      subst e3
      cases rr with
      | nil => cases e2
      | cons q rr =>
        cases e2
        rw [List.length_cons] at f hl
        obtain ⟨r, o2, er, r1, r2, f2⟩ := draw38 ns (k + rr.length) o 3 (f.less (by omega)) (by decide) (by decide)
        have hne := f.ne
        by_cases h : r < few
        · refine ⟨some (.str q), (moS o x few none (some (.str q))).env, [o2], ?_, rfl, qs ++ [q], rr, o2, by rw [List.map_append]; rfl, rfl, rfl, f2, by rw [List.length_append, List.length_cons, List.length_nil]; omega, fun z m => ?_, fun z m => hr z (.tail _ m)⟩
          · clear hf hit f f2 hl hq hr r1 r2
            simp only [moS, wipeE, List.foldl_cons, List.foldl_nil, t__law_moment_1, x__law_moment_1, Option.map_some, Option.map_none]
            walk_at "ev"
          · rcases List.mem_append.mp m with m | m
            · exact hq z m
            · rw [List.mem_singleton.mp m]; exact hr q (.head _)
        · refine ⟨none, (moS o x few none (some (.str q))).env, [o2], ?_, rfl, qs, rr, o2, (List.append_nil _), rfl, rfl, f2, by omega, hq, fun z m => hr z (.tail _ m)⟩
          clear hf hit f f2 hl hq hr r1 r2
          simp only [moS, wipeE, List.foldl_cons, List.foldl_nil, t__law_moment_1, x__law_moment_1, Option.map_some, Option.map_none]
          walk_at "ev") ⟨[], seen, o, rfl, rfl, rfl, hf, by simp, fun _ m => (nomatch m), fun _ m => m⟩
    (fun ys L ⟨qs, rr, o, e1, e2, e3, f, hl, hq, hr⟩ => by
      subst e1
      exact decide_eq_true (by rw [List.length_map]; omega))
  have : rr = [] := by cases rr with | nil => rfl | cons a b => cases e1
  subst this
  exact ⟨qs, o', e, by simpa using f', by simpa using hl, hq.1⟩
theorem pairs38 (ns : List Int) (k : Nat) (o : MO) (x : D) (names : List Str) (hs : names.length ≤ 8) (few : Int) (hf : FdT ns (k + 2 * names.length) o) :
    ∃ (qs : List (Str × Int)) (o' : MO), lcM 1 [4] (tgN 4) (allT []) x__law_moment_2 (iterM 1 (nm 3)) (moS o x few (some (.list (names.map PyData.str))) none) = some (.ok (.f (qs.map pairE)), moS o' x few (some (.list (names.map PyData.str))) none) ∧ FdT ns k o' ∧ qs.length ≤ names.length ∧ ∀ p ∈ qs, p.1 ∈ names ∧ 0 ≤ p.2 ∧ p.2 ≤ 2 := by
  have hit : iterM 1 (nm 3) (moS o x few (some (.list (names.map PyData.str))) none) = some (.ok (names.map PyData.str), moS o x few (some (.list (names.map PyData.str))) none) := by
    clear hf
    simp only [moS, Option.map_some, Option.map_none]
    walk_at "ev"
  obtain ⟨ys, L', e, qs, rr, o', rfl, e1, rfl, f', hl, hq⟩ := lc_ex (m := 1) (vs := [4]) (tg := tgN 4) (test := allT []) (elt := x__law_moment_2) (fun rest ys L => ∃ (qs : List (Str × Int)) (rr : List Str) (o : MO), ys = qs.map pairE ∧ rest = rr.map PyData.str ∧ L = [o] ∧ FdT ns (k + 2 * rr.length) o ∧ qs.length + rr.length ≤ names.length ∧ (∀ p ∈ qs, p.1 ∈ names ∧ 0 ≤ p.2 ∧ p.2 ≤ 2) ∧ ∀ z ∈ rr, z ∈ names) hit rfl
    (fun y r ys L ⟨qs, rr, o, e1, e2, e3, f, hl, hq, hr⟩ => by
      subst e1
      subst e3
      cases rr with
      | nil => cases e2
      | cons q rr =>
        cases e2
        rw [List.length_cons] at f hl
        obtain ⟨a, o1, ea, a1, a2, f1⟩ := draw38 ns (k + 2 * rr.length + 1) o 3 (f.less (by omega)) (by decide) (by decide)
        obtain ⟨b, o2, eb, b1, b2, f2⟩ := draw38 ns (k + 2 * rr.length) o1 2 f1 (by decide) (by decide)
        have hne := f.ne
        have hne1 := f1.ne
        have hb : big a = true := decide_eq_true (by omega)
        have bd : 0 ≤ a * b ∧ a * b ≤ 2 := by
          have ha : a = 0 ∨ a = 1 ∨ a = 2 := by omega
          rcases ha with rfl | rfl | rfl <;> omega
        refine ⟨some (pairE (q, a * b)), (moS o x few (some (.list (names.map PyData.str))) (some (.str q))).env, [o2], ?_, rfl, qs ++ [(q, a * b)], rr, o2, by rw [List.map_append]; rfl, rfl, rfl, f2, by rw [List.length_append, List.length_cons, List.length_nil]; omega, fun p m => ?_, fun z m => hr z (.tail _ m)⟩
        · clear hf hit f f1 f2 hl hq hr a1 a2 b1 b2 bd
          unfold pairE
          simp only [moS, wipeE, List.foldl_cons, List.foldl_nil, x__law_moment_2, Option.map_some, Option.map_none]
          walk_at "ev"
        · rcases List.mem_append.mp m with m | m
          · exact hq p m
          · rw [List.mem_singleton.mp m]; exact ⟨hr q (.head _), bd⟩) ⟨[], names, o, rfl, rfl, rfl, hf, by simp, fun _ m => (nomatch m), fun _ m => m⟩
    (fun ys L ⟨qs, rr, o, e1, e2, e3, f, hl, hq, hr⟩ => by
      subst e1
      exact decide_eq_true (by rw [List.length_map]; omega))
  have : rr = [] := by cases rr with | nil => rfl | cons a b => cases e1
  subst this
  exact ⟨qs, o', e, by simpa using f', by simpa using hl, hq.1⟩
theorem moment38 (ns : List Int) (k : Nat) (o : MO) (x : D) (seen : List Str) (hx : seqOf x = some (seen.map PyData.str)) (hs : seen.length ≤ 8) (hok : ∀ z ∈ seen, okP z) (few : Int) (hf : FdT ns (k + 24) o) :
    ∃ (m : Mom) (o' : MO), f__law_moment [.m o, .d x, .d (.int few)] = some (.ok (.d (momE m)), [o']) ∧ FdT ns k o' ∧ MomOk m := by
  obtain ⟨ss, o1, e1, f1, l1, m1⟩ := some38 ns (k + 16) o x seen hx hs few (hf.less (by omega))
  obtain ⟨qs, o2, e2, f2, l2, m2⟩ := pairs38 ns k o1 x ss (by omega) few (f1.less (by omega))
  have hso := ok_pairs qs (by omega)
  have hse := srtE_eq pairE qs
  have hpm := srtE_perm pairE qs
  have hne := hf.ne
  have hne1 := f1.ne
  refine ⟨srtE pairE qs, o2, ?_, f2, ?_, fun p mp => ?_⟩
  · have go : f__law_moment [.m o, .d x, .d (.int few)] = fin 1 (b__law_moment (moS o x few none none)) := run_eq e__law_moment rfl rfl (by decide)
    rw [go]
    unfold b__law_moment momE
    clear go hx hf f1 f2 m1 m2 hok hpm
    generalize srtE pairE qs = ZS at *
    generalize ss.map PyData.str = SS at *
    generalize qs.map pairE = QS at *
    generalize ZS.map pairE = ZZ at *
    simp only [moS, Option.map_some, Option.map_none] at e1 e2 ⊢
    walk_at "ev"
  · rw [hpm.length_eq]
    omega
  · have mq := hpm.mem_iff.mp mp
    obtain ⟨a, b, c⟩ := m2 p mq
    exact ⟨hok _ (m1 _ a), by omega⟩
end K38

set_option Elab.async false
set_option linter.all false
set_option maxRecDepth 100000
namespace K38
open PySem L2 Pd
local macro_rules | `(tactic| walk_at "sz") => `(tactic| (first | omega | ((try simp only [List.length_append, List.length_map, List.length_replicate, List.length_cons, List.length_nil, List.length_range, List.length_take, List.length_drop, List.length_eraseIdx, List.length_set]) ; omega)))
local macro_rules | `(tactic| walk_at "ev") => `(tactic| simp -implicitDefEqProofs (disch := walk_at "sz") only [z_fin_n, z_fin_d, z_fin_f, z_fin_r, z_rtO, z_rtK, ↓z_bind, ↓z_pure, ↓z_fail, ↓z_ret, ↓z_cst, ↓z_nm, ↓z_toC_c, ↓z_toC_f, ↓z_asC, ↓z_asD, z_fzR_d, z_fzR_f, z_fzR_r, z_rdM_d, z_rdM_r, z_optM_some, z_optM_none, z_opM, z_blM, z_rv_d, z_rv_f, ↓z_bin, ↓z_cmp, ↓z_chain, ↓z_ix, z_part_n, ↓z_part_s, ↓z_sl, ↓z_intM, ↓z_boolM, ↓z_and1, ↓z_and2, ↓z_or1, ↓z_or2, z_allT0, ↓z_allT1, ↓z_allT, z_anyT0, ↓z_anyT1, ↓z_anyT, ↓z_notT, ↓z_valT, ↓z_notM, ↓z_negM, ↓z_iteM, ↓z_ifRV, ↓z_ifM, z_seq0, ↓z_seq, ↓z_tup, ↓z_lst, z_rdAll0, ↓z_rdAll, ↓z_blt, ↓z_def, ↓z_lrg, ↓z_range1, ↓z_range2, ↓z_iter, ↓z_zip, ↓z_enum, z_args0, ↓z_args, ↓z_av_f, ↓z_av_t, z_kOf, z_call_0, z_call_1, z_call_2, z_call_3, z_call_4, z_call_5, z_out1, z_out1x, z_callk0, z_callk1, z_callk2, z_callk3, z_callk4, z_frv_d, z_frv_f, z_frv_g, z_ptrM, z_ptrO, ↓z_app, ↓z_ext, z_setL, z_appO, z_appR, z_extO, z_extR, ↓z_pop, z_popS, z_popR, z_blk0, ↓z_blk, z_seqK_n, z_seqK_r, z_seqK_b, z_seqK_c, ↓z_okF, ↓z_chk, z_chkK, ↓z_set, z_sto_c, z_sto_f, z_sto_o, z_sto_g, ↓z_item, z_setO, z_setR, z_setRd, z_optrM, z_key_s, z_key_i, ↓z_isi, z_isT_si, z_isT_st, z_isT_sl, z_isT_sn, z_isT_sb, z_isT_s0, z_isT_ts, z_isT_tt, z_isT_tl, z_isT_tn, z_isT_tb, z_isT_t0, z_isT_is, z_isT_it, z_isT_il, z_isT_in, z_isT_ib, z_isT_i0, z_isT_bs, z_isT_bt, z_isT_bl, z_isT_bn, z_isT_bb, z_isT_b0, z_isT_ls, z_isT_lt, z_isT_ll, z_isT_ln, z_isT_lb, z_isT_l0, ↓z_srtSet, ↓z_lenSet, ↓z_newd, ↓z_dct, ↓z_revM, z_rev_l, z_rev_t, z_add_bi, z_add_ib, z_sub_bi, z_sub_ib, z_lt_s, z_sl_s, z_ix_s, z_srt_d, z_len_d, z_lst_d, z_in_d, z_ix_d, ↓z_unp, z_tgN, z_tgS_t, z_tgS_l, z_each0, ↓z_each, ↓z_expr, ↓z_retS, z_retM_d, z_retM_r, z_retM_f, ↓z_if, ↓z_for, z_for0, z_gc, z_hi_d, z_hi_n, z_hi_m, z_hi_r, z_add_i, z_sub_i, z_add_t, z_add_l, z_add_s, z_mul_i, z_mul_t, z_mul_l, z_cmp_eq, z_cmp_ne, z_cmp_in, z_cmp_ni, z_is, z_isnt, z_lt, z_le, z_gt, z_ge, z_isn_n, z_isn_i, z_isn_s, z_isn_t, z_isn_l, z_isn_b, z_ix_l0, z_ix_l1, z_ix_l2, z_ix_l3, z_ix_t0, z_ix_t1, z_ix_t2, z_ix_t3, z_ix_t4, z_sl_l, z_sl_t, z_map_s, z_map_n, z_len_l, z_len_t, z_tup_l, z_tup_t, z_lst_l, z_lst_t, z_min2, z_max2, z_int_b, z_int_i, z_srt, z_seq_l, z_seq_t, List.getElem?_cons_zero, List.getElem?_cons_succ, List.set_cons_zero, List.set_cons_succ, List.map_cons, List.map_nil, List.foldl_cons, List.foldl_nil, List.take_succ_cons, List.take_zero, List.take_nil, List.length_cons, List.length_nil, Nat.reduceAdd, Nat.reduceLeDiff, Nat.zero_le, Nat.le_refl, ↓reduceIte, Bool.false_eq_true, Bool.not_true, Bool.not_false, Bool.true_and, Bool.and_true, Bool.false_and, Bool.and_false, Bool.true_or, Bool.or_true, Bool.false_or, Bool.or_false, List.cons_append, List.nil_append, List.append_nil, z_max, Nat.reduceEqDiff, Nat.reduceBEq, beq_self_eq_true, List.getElem?_nil, eqO_lit, inO_litU2, inO_litU4, lk_net, lk_copy, lk_merge, lk_both, lk_loose, lk_drain, lk_either, lk_only, lk_place, lk_last, decide_false, decide_true, decide_eq_true_eq, Int.natAbs_natCast, Option.map_some, Option.map_none, z_hi_m, String.reduceEq, Int.toNat_natCast, Int.reduceToNat, Int.cast_ofNat_Int, z_repf, List.replicate_succ, List.replicate_zero, List.flatten_cons, List.flatten_nil, fits_c, small_c, mulOk_c, ixN_c, *])
/-! ### a table -/
abbrev tbS (o : MO) (se : List D) (many few : Option Int) (found : List D) (z7 z8 z9 : Option D) : PSt := ⟨[some (.r 0), some (.d (.list se)), some (.d (.int 8)), some (.d (.int 20)), many.map fun i => C.d (.int i), some (.r 1), few.map fun i => C.d (.int i), z7.map C.d, z8.map C.d, z9.map C.d, none], [o, .lst found]⟩
theorem tb_turn (ns : List Int) (k : Nat) (o : MO) (names : List Str) (hl : names.length ≤ 8) (hok : ∀ z ∈ names, okP z) (n : Nat) (h1 : 1 ≤ n) (h8 : n ≤ 8) (few : Int) (ss : List Stp) (hss : ∀ s ∈ ss, StpOk s) (hsl : ss.length ≤ 50) (x : D) (z7 z8 z9 : Option D) (hf : FdT ns (k + 30) o) :
    ∃ (ss' : List Stp) (o' : MO) (a b c : Option D), M.bind (tgN 7 x) (fun _ => l__law_table_1) (tbS o (names.map PyData.str) (some (n : Int)) (some few) (ss.map stE) z7 z8 z9) = some (.ok .nx, tbS o' (names.map PyData.str) (some (n : Int)) (some few) (ss'.map stE) a b c) ∧ FdT ns k o' ∧ (∀ s ∈ ss', StpOk s) ∧ ss'.length ≤ ss.length + 1 := by
  obtain ⟨a, o1, e1, a1, a2, f1⟩ := draw38 ns (k + 28) o (n : Int) (hf.less (by omega)) (by omega) (by omega)
  obtain ⟨m, o2, e2, f2, hm⟩ := moment38 ns (k + 4) o1 (.list (names.map PyData.str)) names rfl hl hok few (f1.less (by omega))
  obtain ⟨b, o3, e3, b1, b2, f3⟩ := draw38 ns k o2 (n : Int) (f2.less (by omega)) (by omega) (by omega)
  have hne := hf.ne
  have hne1 := f1.ne
  have hne2 := f2.ne
  have hs : StpOk ⟨a, m, b⟩ := ⟨a1, by show a ≤ 1000000; omega, b1, by show b ≤ 1000000; omega, hm⟩
  have hin : inO (.tuple [.int a, momE m, .int b]) (.list (ss.map stE)) = some (decide ((⟨a, m, b⟩ : Stp) ∈ ss)) := in_st hs hss
  have hfl : (ss.map stE).length ≤ 1000 := by rw [List.length_map]; omega
  by_cases hm' : (⟨a, m, b⟩ : Stp) ∈ ss
  · rw [decide_eq_true hm'] at hin
    refine ⟨ss, o3, some x, some (.int a), some (.tuple [.int a, momE m, .int b]), ?_, f3, hss, Nat.le_succ _⟩
    unfold l__law_table_1
    clear hf f1 f2 f3 hss hs hm hok hm'
    generalize momE m = MM at *
    generalize ss.map stE = FS at *
    generalize names.map PyData.str = SE at *
    simp only [tbS, Option.map_some, Option.map_none]
    walk_at "ev"
  · rw [decide_eq_false hm'] at hin
    refine ⟨ss ++ [⟨a, m, b⟩], o3, some x, some (.int a), some (.tuple [.int a, momE m, .int b]), ?_, f3, fun s ms => ?_, by rw [List.length_append]; exact Nat.le_refl _⟩
    · unfold l__law_table_1
      have e9 : (ss ++ [(⟨a, m, b⟩ : Stp)]).map stE = ss.map stE ++ [.tuple [.int a, momE m, .int b]] := by rw [List.map_append]; rfl
      rw [e9]
      clear hf f1 f2 f3 hss hs hm hok hm' e9
      generalize momE m = MM at *
      generalize ss.map stE = FS at *
      generalize names.map PyData.str = SE at *
      simp only [tbS, Option.map_some, Option.map_none]
      walk_at "ev"
    · rcases List.mem_append.mp ms with ms | ms
      · exact hss s ms
      · rw [List.mem_singleton.mp ms]; exact hs
theorem tb_more (o : MO) (se : List D) (n : Nat) (h8 : n ≤ 8) (few : Option Int) (ss : List Stp) (hss : ∀ s ∈ ss, StpOk s) (z7 z8 z9 : Option D) :
    lcM 1 [10] (tgN 10) t__law_table_1 x__law_table_1 (rangeM [nm 4]) (tbS o se (some (n : Int)) few (ss.map stE) z7 z8 z9) = some (.ok (.f (((List.range n).filter fun j => !decide ((⟨(j : Nat), [], (j : Nat)⟩ : Stp) ∈ ss)).map fun j : Nat => stE ⟨(j : Nat), [], (j : Nat)⟩)), tbS o se (some (n : Int)) few (ss.map stE) z7 z8 z9) := by
  refine lc_m (enc := fun j : Nat => PyData.int (j : Int)) (fun j => !decide ((⟨(j : Nat), [], (j : Nat)⟩ : Stp) ∈ ss)) (fun j : Nat => stE ⟨(j : Nat), [], (j : Nat)⟩) (List.range n) ?_ rfl (fun j mj => ?_) (by rw [List.length_range]; omega)
  · rw [← rangeL0]
    clear hss
    generalize ss.map stE = FS
    simp only [tbS, Option.map_some, Option.map_none]
    walk_at "ev"
  · have hj := List.mem_range.mp mj
    have hs : StpOk ⟨(j : Nat), [], (j : Nat)⟩ := ⟨by show (0 : Int) ≤ (j : Nat); omega, by show ((j : Nat) : Int) ≤ 1000000; omega, by show (0 : Int) ≤ (j : Nat); omega, by show ((j : Nat) : Int) ≤ 1000000; omega, Nat.zero_le _, fun _ m => nomatch m⟩
    have hin : inO (.tuple [.int (j : Int), .tuple [], .int (j : Int)]) (.list (ss.map stE)) = some (decide ((⟨(j : Nat), [], (j : Nat)⟩ : Stp) ∈ ss)) := in_st hs hss
    refine ⟨(⟨[some (.r 0), some (.d (.list se)), some (.d (.int 8)), some (.d (.int 20)), some (.d (.int n)), some (.r 1), few.map fun i => C.d (.int i), z7.map C.d, z8.map C.d, z9.map C.d, some (.d (.int (j : Int)))], [o, .lst (ss.map stE)]⟩ : PSt).env, rfl, rfl, ?_, fun hp => ?_⟩
    · unfold t__law_table_1
      clear hss hs hj mj
      generalize decide ((⟨(j : Nat), [], (j : Nat)⟩ : Stp) ∈ ss) = B at *
      generalize ss.map stE = FS at *
      walk_at "ev"
    · unfold x__law_table_1 stE momE
      clear hss hs hj mj hin hp
      generalize ss.map stE = FS at *
      walk_at "ev"
theorem table38 (ns : List Int) (k : Nat) (o : MO) (names : List Str) (hl : names.length ≤ 8) (hok : ∀ z ∈ names, okP z) (hf : FdT ns (k + 700) o) :
    ∃ (n : Nat) (ss : List Stp) (o' : MO), f__law_table [.m o, .d (.list (names.map PyData.str)), .d (.int 8), .d (.int 20)] = some (.ok (.d (tblE names (n : Int) ss)), [o']) ∧ FdT ns k o' ∧ 1 ≤ n ∧ n ≤ 8 ∧ ss.length ≤ 40 ∧ ∀ s ∈ ss, StpOk s := by
  obtain ⟨a, o1, e1, a1, a2, f1⟩ := draw38 ns (k + 690) o 8 (hf.less (by omega)) (by decide) (by decide)
  obtain ⟨a, rfl⟩ := Int.eq_ofNat_of_zero_le a1
  obtain ⟨b, o2, e2, b1, b2, f2⟩ := draw38 ns (k + 680) o1 2 (f1.less (by omega)) (by decide) (by decide)
  obtain ⟨c, o3, e3, c1, c2, f3⟩ := draw38 ns (k + 670) o2 21 (f2.less (by omega)) (by decide) (by decide)
  obtain ⟨c, rfl⟩ := Int.eq_ofNat_of_zero_le c1
  have hc : c ≤ 20 := by omega
  obtain ⟨s, el, ss, o4, z7, z8, z9, q1, f4, hss, hsl⟩ := forL_inv (tg := tgN 7) (b := l__law_table_1) (fun rest s => ∃ (ss : List Stp) (o : MO) (z7 z8 z9 : Option D), s = tbS o (names.map PyData.str) (some ((1 + a : Nat) : Int)) (some (1 + b)) (ss.map stE) z7 z8 z9 ∧ FdT ns (k + 10 + 30 * rest.length) o ∧ (∀ s ∈ ss, StpOk s) ∧ ss.length + rest.length ≤ 20)
    (fun x r s ⟨ss, o, z7, z8, z9, q1, q2, q3, q4⟩ => by
      subst q1
      rw [List.length_cons] at q2 q4
      obtain ⟨ss', o', a', b', c', e, f, h, l⟩ := tb_turn ns (k + 10 + 30 * r.length) o names hl hok (1 + a) (by omega) (by omega) (1 + b) ss q3 (by omega) x z7 z8 z9 (q2.less (by omega))
      exact ⟨_, e, ss', o', a', b', c', rfl, f, h, by omega⟩) (rangeL 0 (c : Int)) (tbS o3 (names.map PyData.str) (some ((1 + a : Nat) : Int)) (some (1 + b)) [] none none none) ⟨[], o3, none, none, none, rfl, f3.less (by rw [rangeL0, List.length_map, List.length_range]; omega), fun _ m => (nomatch m), by rw [rangeL0, List.length_map, List.length_range, List.length_nil]; omega⟩
  subst q1
  obtain ⟨d, o5, e5, d1, d2, f5⟩ := draw38 ns k o4 2 (f4.less (by omega)) (by decide) (by decide)
  have hne := hf.ne
  have hne1 := f1.ne
  have hne2 := f2.ne
  have hne4 := f4.ne
  have ea : (1 + (a : Int)) = ((1 + a : Nat) : Int) := by omega
  have e20 : (20 : Int) + 1 = 21 := rfl
  have go : f__law_table [.m o, .d (.list (names.map PyData.str)), .d (.int 8), .d (.int 20)] = fin 1 (b__law_table ⟨[some (.r 0), some (.d (.list (names.map PyData.str))), some (.d (.int 8)), some (.d (.int 20)), none, none, none, none, none, none, none], [o]⟩) := run_eq e__law_table rfl rfl (by decide)
  have hsl0 : ss.length ≤ 20 := by simpa using hsl
  have hd01 : d = 0 ∨ d = 1 := by omega
  rcases hd01 with rfl | rfl
  · -- more of them
    have lc := tb_more o5 (names.map PyData.str) (1 + a) (by omega) (some (1 + b)) ss hss z7 z8 z9
    generalize hmore : ((List.range (1 + a)).filter fun j => !decide ((⟨(j : Nat), [], (j : Nat)⟩ : Stp) ∈ ss)) = more at lc
    have lmore : more.length ≤ 8 := by
      rw [← hmore]
      have := List.length_filter_le (fun j => !decide ((⟨(j : Nat), [], (j : Nat)⟩ : Stp) ∈ ss)) (List.range (1 + a))
      rw [List.length_range] at this
      omega
    have emore : (more.map fun j : Nat => stE ⟨(j : Nat), [], (j : Nat)⟩) = (more.map fun j : Nat => (⟨(j : Nat), [], (j : Nat)⟩ : Stp)).map stE := by rw [List.map_map]; rfl
    rw [emore] at lc
    have okm : ∀ s ∈ more.map fun j : Nat => (⟨(j : Nat), [], (j : Nat)⟩ : Stp), StpOk s := fun s ms => by
      obtain ⟨j, mj, rfl⟩ := List.mem_map.mp ms
      rw [← hmore] at mj
      have := List.mem_range.mp (List.mem_filter.mp mj).1
      exact ⟨by show (0 : Int) ≤ (j : Nat); omega, by show ((j : Nat) : Int) ≤ 1000000; omega, by show (0 : Int) ≤ (j : Nat); omega, by show ((j : Nat) : Int) ≤ 1000000; omega, Nat.zero_le _, fun _ m => nomatch m⟩
    have lm : (more.map fun j : Nat => (⟨(j : Nat), [], (j : Nat)⟩ : Stp)).length ≤ 8 := by rw [List.length_map]; exact lmore
    generalize (more.map fun j : Nat => (⟨(j : Nat), [], (j : Nat)⟩ : Stp)) = mo at *
    have hso := ok_sts (ss ++ mo) (by rw [List.length_append]; omega)
    have hse := srtE_eq stE (ss ++ mo)
    have hpm := srtE_perm stE (ss ++ mo)
    rw [List.map_append] at hso hse
    refine ⟨1 + a, srtE stE (ss ++ mo), o5, ?_, f5, by omega, by omega, by rw [hpm.length_eq, List.length_append]; omega, fun s ms => ?_⟩
    · rw [go]
      unfold b__law_table tblE
      have e00 : eqO (.int 0) (.int 0) = some true := by kernel_rfl
      have hfl : (ss.map stE).length + (mo.map stE).length ≤ 1000000 := by rw [List.length_map, List.length_map]; omega
      clear go hf f1 f2 f3 f4 f5 hss hok okm hpm emore hmore a1 a2 b1 b2 c1 c2 d1 d2
      generalize srtE stE (ss ++ mo) = ZS at *
      generalize ss.map stE = FS at *
      generalize mo.map stE = FM at *
      generalize names.map PyData.str = SE at *
      generalize ZS.map stE = ZZ at *
      generalize (1 + a) = n at *
      simp only [tbS, Option.map_some, Option.map_none] at el lc ⊢
      walk_at "ev"
    · have := hpm.mem_iff.mp ms
      rcases List.mem_append.mp this with ms | ms
      · exact hss s ms
      · exact okm s ms
  · have hso := ok_sts ss (by omega)
    have hse := srtE_eq stE ss
    have hpm := srtE_perm stE ss
    refine ⟨1 + a, srtE stE ss, o5, ?_, f5, by omega, by omega, by rw [hpm.length_eq]; omega, fun s ms => hss s (hpm.mem_iff.mp ms)⟩
    rw [go]
    unfold b__law_table tblE
    have e00 : eqO (.int 1) (.int 0) = some false := by kernel_rfl
    clear go hf f1 f2 f3 f4 f5 hss hok hpm a1 a2 b1 b2 c1 c2 d1 d2
    generalize srtE stE ss = ZS at *
    generalize ss.map stE = FS at *
    generalize names.map PyData.str = SE at *
    generalize ZS.map stE = ZZ at *
    generalize (1 + a) = n at *
    simp only [tbS, Option.map_some, Option.map_none] at el ⊢
    walk_at "ev"
end K38

set_option Elab.async false
set_option linter.all false
set_option maxRecDepth 100000
namespace K38
open PySem L2 Pd
local macro_rules | `(tactic| walk_at "sz") => `(tactic| (first | omega | ((try simp only [List.length_append, List.length_map, List.length_replicate, List.length_cons, List.length_nil, List.length_range, List.length_take, List.length_drop, List.length_eraseIdx, List.length_set]) ; omega)))
local macro_rules | `(tactic| walk_at "ev") => `(tactic| simp -implicitDefEqProofs (disch := walk_at "sz") only [z_fin_n, z_fin_d, z_fin_f, z_fin_r, z_rtO, z_rtK, ↓z_bind, ↓z_pure, ↓z_fail, ↓z_ret, ↓z_cst, ↓z_nm, ↓z_toC_c, ↓z_toC_f, ↓z_asC, ↓z_asD, z_fzR_d, z_fzR_f, z_fzR_r, z_rdM_d, z_rdM_r, z_optM_some, z_optM_none, z_opM, z_blM, z_rv_d, z_rv_f, ↓z_bin, ↓z_cmp, ↓z_chain, ↓z_ix, z_part_n, ↓z_part_s, ↓z_sl, ↓z_intM, ↓z_boolM, ↓z_and1, ↓z_and2, ↓z_or1, ↓z_or2, z_allT0, ↓z_allT1, ↓z_allT, z_anyT0, ↓z_anyT1, ↓z_anyT, ↓z_notT, ↓z_valT, ↓z_notM, ↓z_negM, ↓z_iteM, ↓z_ifRV, ↓z_ifM, z_seq0, ↓z_seq, ↓z_tup, ↓z_lst, z_rdAll0, ↓z_rdAll, ↓z_blt, ↓z_def, ↓z_lrg, ↓z_range1, ↓z_range2, ↓z_iter, ↓z_zip, ↓z_enum, z_args0, ↓z_args, ↓z_av_f, ↓z_av_t, z_kOf, z_call_0, z_call_1, z_call_2, z_call_3, z_call_4, z_call_5, z_out1, z_out1x, z_callk0, z_callk1, z_callk2, z_callk3, z_callk4, z_frv_d, z_frv_f, z_frv_g, z_ptrM, z_ptrO, ↓z_app, ↓z_ext, z_setL, z_appO, z_appR, z_extO, z_extR, ↓z_pop, z_popS, z_popR, z_blk0, ↓z_blk, z_seqK_n, z_seqK_r, z_seqK_b, z_seqK_c, ↓z_okF, ↓z_chk, z_chkK, ↓z_set, z_sto_c, z_sto_f, z_sto_o, z_sto_g, ↓z_item, z_setO, z_setR, z_setRd, z_optrM, z_key_s, z_key_i, ↓z_isi, z_isT_si, z_isT_st, z_isT_sl, z_isT_sn, z_isT_sb, z_isT_s0, z_isT_ts, z_isT_tt, z_isT_tl, z_isT_tn, z_isT_tb, z_isT_t0, z_isT_is, z_isT_it, z_isT_il, z_isT_in, z_isT_ib, z_isT_i0, z_isT_bs, z_isT_bt, z_isT_bl, z_isT_bn, z_isT_bb, z_isT_b0, z_isT_ls, z_isT_lt, z_isT_ll, z_isT_ln, z_isT_lb, z_isT_l0, ↓z_srtSet, ↓z_lenSet, ↓z_newd, ↓z_dct, ↓z_revM, z_rev_l, z_rev_t, z_add_bi, z_add_ib, z_sub_bi, z_sub_ib, z_lt_s, z_sl_s, z_ix_s, z_srt_d, z_len_d, z_lst_d, z_in_d, z_ix_d, ↓z_unp, z_tgN, z_tgS_t, z_tgS_l, z_each0, ↓z_each, ↓z_expr, ↓z_retS, z_retM_d, z_retM_r, z_retM_f, ↓z_if, ↓z_for, z_for0, z_gc, z_hi_d, z_hi_n, z_hi_m, z_hi_r, z_add_i, z_sub_i, z_add_t, z_add_l, z_add_s, z_mul_i, z_mul_t, z_mul_l, z_cmp_eq, z_cmp_ne, z_cmp_in, z_cmp_ni, z_is, z_isnt, z_lt, z_le, z_gt, z_ge, z_isn_n, z_isn_i, z_isn_s, z_isn_t, z_isn_l, z_isn_b, z_ix_l0, z_ix_l1, z_ix_l2, z_ix_l3, z_ix_t0, z_ix_t1, z_ix_t2, z_ix_t3, z_ix_t4, z_sl_l, z_sl_t, z_map_s, z_map_n, z_len_l, z_len_t, z_tup_l, z_tup_t, z_lst_l, z_lst_t, z_min2, z_max2, z_int_b, z_int_i, z_srt, z_seq_l, z_seq_t, List.getElem?_cons_zero, List.getElem?_cons_succ, List.set_cons_zero, List.set_cons_succ, List.map_cons, List.map_nil, List.foldl_cons, List.foldl_nil, List.take_succ_cons, List.take_zero, List.take_nil, List.length_cons, List.length_nil, Nat.reduceAdd, Nat.reduceLeDiff, Nat.zero_le, Nat.le_refl, ↓reduceIte, Bool.false_eq_true, Bool.not_true, Bool.not_false, Bool.true_and, Bool.and_true, Bool.false_and, Bool.and_false, Bool.true_or, Bool.or_true, Bool.false_or, Bool.or_false, List.cons_append, List.nil_append, List.append_nil, z_max, Nat.reduceEqDiff, Nat.reduceBEq, beq_self_eq_true, List.getElem?_nil, eqO_lit, inO_litU2, inO_litU4, lk_net, lk_copy, lk_merge, lk_both, lk_loose, lk_drain, lk_either, lk_only, lk_place, lk_last, decide_false, decide_true, decide_eq_true_eq, Int.natAbs_natCast, Option.map_some, Option.map_none, z_hi_m, String.reduceEq, Int.toNat_natCast, Int.reduceToNat, Int.cast_ofNat_Int, z_repf, List.replicate_succ, List.replicate_zero, List.flatten_cons, List.flatten_nil, fits_c, small_c, mulOk_c, ixN_c, *])
/-! ### a walk, rows -/
theorem eq_sts_nil {xs : List Stp} (h : ∀ s ∈ xs, StpOk s) : eqO (.list (xs.map stE)) (.list []) = some (decide (xs = [])) := by
  rw [eq_ok ((Sm.list (sm_sts h)).mono (by decide) (Nat.le_refl _)) ((Sm.list SmAll.nil).mono (by decide) (Nat.le_refl _))]
  congr 1
  rw [Bool.eq_iff_iff, decide_eq_true_eq]
  exact faith_st.lst xs []
def rowE (ms : List Mom) : D := .tuple (ms.map momE)
abbrev waS (o : MO) (N : D) (stand : Int) (row : List Mom) (z5 z6 z7 : Option D) : PSt := ⟨[some (.r 0), some (.d N), some (.d (.int 30)), some (.d (.int stand)), some (.d (.tuple (row.map momE))), z5.map C.d, z6.map C.d, z7.map C.d], [o]⟩
theorem wa_turn (ns : List Int) (k : Nat) (o : MO) (N : D) (ss : List Stp) (hN : ixO N (.int 2) = some (.tuple (ss.map stE))) (hss : ∀ s ∈ ss, StpOk s) (hsl : ss.length ≤ 60) (stand : Int) (row : List Mom) (hr : ∀ m ∈ row, MomOk m) (hrl : row.length ≤ 100) (x : D) (z5 z6 z7 : Option D) (hf : FdT ns (k + 1) o) :
    ∃ (stand' : Int) (row' : List Mom) (o' : MO) (a b c : Option D), M.bind (tgN 5 x) (fun _ => l__law_walked_1) (waS o N stand row z5 z6 z7) = some (.ok .nx, waS o' N stand' row' a b c) ∧ FdT ns k o' ∧ (∀ m ∈ row', MomOk m) ∧ row'.length ≤ row.length + 1 := by
  have lc : lcM 1 [7] (tgN 7) t__law_walked_1 x__law_walked_1 (iterM 1 (ixM (nm 1) (ret (.int 2)))) (waS o N stand row (some x) z6 z7) = some (.ok (.f ((ss.filter fun s => decide (s.a = stand)).map stE)), waS o N stand row (some x) z6 z7) := by
    refine lc_m (enc := stE) (fun s => decide (s.a = stand)) stE ss ?_ (by cases z7 <;> rfl) (fun s ms => ?_) (by omega)
    · clear hss
      generalize ss.map stE = FS at *
      simp only [waS, Option.map_some]
      walk_at "ev"
    · have h0 : ixO (stE s) (.int 0) = some (.int s.a) := rfl
      have he := eq_int s.a stand
      refine ⟨(waS o N stand row (some x) z6 (some (stE s))).env, rfl, by cases z7 <;> rfl, ?_, fun hp => ?_⟩
      · unfold t__law_walked_1
        clear hss hN hr
        generalize stE s = S at *
        generalize decide (s.a = stand) = B at *
        simp only [waS, Option.map_some]
        walk_at "ev"
      · unfold x__law_walked_1
        clear hss hN hr h0 he hp
        generalize stE s = S at *
        simp only [waS, Option.map_some]
        walk_at "ev"
  have hsub : ∀ s ∈ ss.filter fun s => decide (s.a = stand), s ∈ ss := fun s m => (List.mem_filter.mp m).1
  have hlen : (ss.filter fun s => decide (s.a = stand)).length ≤ 60 := Nat.le_trans (List.length_filter_le _ _) hsl
  generalize (ss.filter fun s => decide (s.a = stand)) = xs at *
  have hnil := eq_sts_nil fun s m => hss s (hsub s m)
  cases xs with
  | nil =>
    refine ⟨stand, row, o, some x, some (.list []), z7, ?_, hf.less (Nat.le_succ _), hr, Nat.le_succ _⟩
    rw [decide_eq_true rfl] at hnil
    have hne := hf.ne
    unfold l__law_walked_1
    clear hss hr hsub hf
    generalize ss.map stE = FS at *
    rw [List.map_nil] at lc hnil
    simp only [waS, Option.map_some] at lc ⊢
    walk_at "ev"
  | cons y ys =>
    obtain ⟨r, o1, er, r1, r2, f1⟩ := draw38 ns k o ((y :: ys).length : Nat) hf (by rw [List.length_cons]; omega) (by omega)
    have hrl2 : r.toNat < (y :: ys).length := by omega
    obtain ⟨s, hs⟩ : ∃ s, (y :: ys)[r.toNat]? = some s := ⟨_, List.getElem?_eq_getElem hrl2⟩
    have ms := hsub s (List.mem_of_getElem? hs)
    have ok := hss s ms
    have hix : ixO (.list ((y :: ys).map stE)) (.int r) = some (stE s) := by
      have e : r = (r.toNat : Nat) := by omega
      rw [e]
      refine ix_list_at ?_
      rw [List.getElem?_map, hs]
      rfl
    have h1 : ixO (stE s) (.int 1) = some (momE s.m) := rfl
    have h2 : ixO (stE s) (.int 2) = some (.int s.b) := rfl
    have hne := hf.ne
    rw [decide_eq_false (List.cons_ne_nil y ys)] at hnil
    have hl2 : (((y :: ys).length : Nat) : Int) = ((((y :: ys).map stE).length : Nat) : Int) := by rw [List.length_map]
    rw [hl2] at er
    refine ⟨s.b, row ++ [s.m], o1, some x, some (.list ((y :: ys).map stE)), some (stE s), ?_, f1, fun m mm => ?_, by rw [List.length_append]; exact Nat.le_refl _⟩
    · unfold l__law_walked_1
      have e9 : (row ++ [s.m]).map momE = row.map momE ++ [momE s.m] := by rw [List.map_append]; rfl
      have hrm : (row.map momE).length ≤ 100 := by rw [List.length_map]; exact hrl
      simp only [waS, Option.map_some] at lc ⊢
      rw [e9]
      clear hss hr hsub hf f1 ok ms hs hl2 r1 r2 hrl2 e9
      generalize (y :: ys).map stE = XS at *
      generalize stE s = S at *
      generalize momE s.m = MM at *
      generalize row.map momE = RR at *
      walk_at "ev"
    · rcases List.mem_append.mp mm with mm | mm
      · exact hr m mm
      · rw [List.mem_singleton.mp mm]; exact ok.2.2.2.2
theorem walked38 (ns : List Int) (k : Nat) (o : MO) (N : D) (ss : List Stp) (hN : ixO N (.int 2) = some (.tuple (ss.map stE))) (hss : ∀ s ∈ ss, StpOk s) (hsl : ss.length ≤ 60) (hf : FdT ns (k + 30) o) :
    ∃ (ms : List Mom) (o' : MO), f__law_walked [.m o, .d N, .d (.int 30)] = some (.ok (.d (rowE ms)), [o']) ∧ FdT ns k o' ∧ ms.length ≤ 30 ∧ ∀ m ∈ ms, MomOk m := by
  obtain ⟨s, el, st, row, o1, z5, z6, z7, q1, f1, hr, hl⟩ := forL_inv (tg := tgN 5) (b := l__law_walked_1) (fun rest s => ∃ (st : Int) (row : List Mom) (o : MO) (z5 z6 z7 : Option D), s = waS o N st row z5 z6 z7 ∧ FdT ns (k + rest.length) o ∧ (∀ m ∈ row, MomOk m) ∧ row.length + rest.length ≤ 30)
    (fun x r s ⟨st, row, o, z5, z6, z7, q1, q2, q3, q4⟩ => by
      subst q1
      rw [List.length_cons] at q2 q4
      obtain ⟨st', row', o', a, b, c, e, f, h, l⟩ := wa_turn ns (k + r.length) o N ss hN hss hsl st row q3 (by omega) x z5 z6 z7 (q2.less (by omega))
      exact ⟨_, e, st', row', o', a, b, c, rfl, f, h, by omega⟩) (rangeL 0 ((30 : Nat) : Int)) (waS o N 0 [] none none none) ⟨0, [], o, none, none, none, rfl, by rw [rangeL0, List.length_map, List.length_range]; exact hf, fun _ m => (nomatch m), by rw [rangeL0, List.length_map, List.length_range]; exact Nat.le_refl _⟩
  subst q1
  refine ⟨row, o1, ?_, by simpa using f1, by simpa using hl, hr⟩
  have go : f__law_walked [.m o, .d N, .d (.int 30)] = fin 1 (b__law_walked ⟨[some (.r 0), some (.d N), some (.d (.int 30)), none, none, none, none, none], [o]⟩) := run_eq e__law_walked rfl rfl (by decide)
  rw [go]
  have hne := hf.ne
  unfold b__law_walked rowE
  have e30 : ((30 : Nat) : Int) = 30 := rfl
  rw [e30] at el
  clear go hss hf f1 hr
  simp only [waS, Option.map_some, Option.map_none, List.map_nil] at el ⊢
  generalize row.map momE = RR at *
  walk_at "ev"
abbrev roS (o : MO) (N : D) (row : List D) (rows : List D) (z4 z5 z6 : Option D) : PSt := ⟨[some (.r 0), some (.d N), some (.d (.tuple row)), some (.r 1), z4.map C.d, z5.map C.d, z6.map C.d], [o, .lst rows]⟩
theorem ro_turn (ns : List Int) (k : Nat) (o : MO) (N : D) (seen : List Str) (hN : ixO N (.int 0) = some (.tuple (seen.map PyData.str))) (hs : seen.length ≤ 8) (hok : ∀ z ∈ seen, okP z) (row : List Mom) (hr : ∀ m ∈ row, MomOk m) (hrl : row.length ≤ 30) (rows : List (List Mom)) (hl : rows.length ≤ 20) (x : D) (hx : x = .int 0 ∨ x = .int 1 ∨ x = .int 2 ∨ x = .int 3) (z4 z5 z6 : Option D) (hf : FdT ns (k + 25) o) :
    ∃ (r' : List Mom) (o' : MO) (a b c : Option D), M.bind (tgN 4 x) (fun _ => l__law_rows_1) (roS o N (row.map momE) (rows.map rowE) z4 z5 z6) = some (.ok .nx, roS o' N (row.map momE) ((rows ++ [r']).map rowE) a b c) ∧ FdT ns k o' ∧ (∀ m ∈ r', MomOk m) ∧ r'.length ≤ 31 := by
  obtain ⟨t, o1, e1, t1, t2, f1⟩ := draw38 ns (k + 24) o ((row.length : Nat) + 1) (hf.less (by omega)) (by omega) (by omega)
  obtain ⟨t, rfl⟩ := Int.eq_ofNat_of_zero_le t1
  obtain ⟨m, o2, e2, f2, hm⟩ := moment38 ns k o1 (.tuple (seen.map PyData.str)) seen rfl hs hok 2 f1
  have c1 : cutD (row.map momE) none (some (t : Int)) = (row.take t).map momE := by rw [cut_hi, List.map_take]
  have c2 : cutD (row.map momE) (some ((t : Int) + 1)) none = (row.drop (t + 1)).map momE := by
    have := cut_lo (row.map momE) (t + 1)
    rw [show (((t + 1 : Nat)) : Int) = (t : Int) + 1 by omega] at this
    rw [this, List.map_drop]
  have c3 : cutD (row.map momE) (some (t : Int)) none = (row.drop t).map momE := by rw [cut_lo, List.map_drop]
  have hlen : ((row.length : Nat) : Int) = (((row.map momE).length : Nat) : Int) := by rw [List.length_map]
  have hne := hf.ne
  have hne1 := f1.ne
  have ok1 : ∀ y ∈ row.take t, MomOk y := fun y my => hr y (List.mem_of_mem_take my)
  have ok2 : ∀ y ∈ row.drop (t + 1), MomOk y := fun y my => hr y (List.mem_of_mem_drop my)
  have ok3 : ∀ y ∈ row.drop t, MomOk y := fun y my => hr y (List.mem_of_mem_drop my)
  have l1 : (row.take t).length = min t row.length := List.length_take
  have l2 : (row.drop (t + 1)).length = row.length - (t + 1) := List.length_drop
  have l3 : (row.drop t).length = row.length - t := List.length_drop
  have l1' : ((row.take t).map momE).length ≤ 100 := by rw [List.length_map]; omega
  have l2' : ((row.drop (t + 1)).map momE).length ≤ 100 := by rw [List.length_map]; omega
  have l3' : ((row.drop t).map momE).length ≤ 100 := by rw [List.length_map]; omega
  have lr : (rows.map rowE).length ≤ 100 := by rw [List.length_map]; omega
  have ap : ∀ r' : List Mom, (rows ++ [r']).map rowE = rows.map rowE ++ [.tuple (r'.map momE)] := fun r' => by rw [List.map_append]; rfl
  rw [hlen] at e1
  have key : ∀ (r' : List Mom), M.bind (tgN 4 x) (fun _ => l__law_rows_1) (roS o N (row.map momE) (rows.map rowE) z4 z5 z6) = some (.ok .nx, roS o2 N (row.map momE) (rows.map rowE ++ [.tuple (r'.map momE)]) (some x) (some (.int (t : Int))) (some (.tuple [momE m]))) → (∀ y ∈ r', MomOk y) → r'.length ≤ 31 →
      ∃ (r' : List Mom) (o' : MO) (a b c : Option D), M.bind (tgN 4 x) (fun _ => l__law_rows_1) (roS o N (row.map momE) (rows.map rowE) z4 z5 z6) = some (.ok .nx, roS o' N (row.map momE) ((rows ++ [r']).map rowE) a b c) ∧ FdT ns k o' ∧ (∀ m ∈ r', MomOk m) ∧ r'.length ≤ 31 := fun r' h h1 h2 =>
    ⟨r', o2, _, _, _, by rw [ap]; exact h, f2, h1, h2⟩
  have okm : ∀ y ∈ [m], MomOk y := fun y my => by rw [List.mem_singleton.mp my]; exact hm
  have app : ∀ {a b : List Mom}, (∀ y ∈ a, MomOk y) → (∀ y ∈ b, MomOk y) → ∀ y ∈ a ++ b, MomOk y := fun h1 h2 y my => (List.mem_append.mp my).elim (h1 y) (h2 y)
  rcases hx with rfl | rfl | rfl | rfl
  · refine key (row.take t ++ row.drop (t + 1)) ?_ (app ok1 ok2) (by rw [List.length_append]; omega)
    rw [List.map_append]
    unfold l__law_rows_1
    clear hf f1 f2 hm ok1 ok2 ok3 hr hok ap key okm app t1 t2 l1 l2 l3 hlen
    generalize (row.take t).map momE = A at *
    generalize (row.drop (t + 1)).map momE = B at *
    generalize (row.drop t).map momE = CC at *
    generalize row.map momE = RR at *
    generalize rows.map rowE = RS at *
    generalize momE m = MM at *
    generalize seen.map PyData.str = SE at *
    simp only [roS, Option.map_some]
    walk_at "ev"
  · refine key (row.take t ++ [m] ++ row.drop t) ?_ (app (app ok1 okm) ok3) (by rw [List.length_append, List.length_append]; simp only [List.length_cons, List.length_nil]; omega)
    rw [List.map_append, List.map_append, List.map_cons, List.map_nil]
    unfold l__law_rows_1
    clear hf f1 f2 hm ok1 ok2 ok3 hr hok ap key okm app t1 t2 l1 l2 l3 hlen
    generalize (row.take t).map momE = A at *
    generalize (row.drop (t + 1)).map momE = B at *
    generalize (row.drop t).map momE = CC at *
    generalize row.map momE = RR at *
    generalize rows.map rowE = RS at *
    generalize momE m = MM at *
    generalize seen.map PyData.str = SE at *
    simp only [roS, Option.map_some]
    walk_at "ev"
  · refine key (row.take t ++ [m] ++ row.drop (t + 1)) ?_ (app (app ok1 okm) ok2) (by rw [List.length_append, List.length_append]; simp only [List.length_cons, List.length_nil]; omega)
    rw [List.map_append, List.map_append, List.map_cons, List.map_nil]
    unfold l__law_rows_1
    clear hf f1 f2 hm ok1 ok2 ok3 hr hok ap key okm app t1 t2 l1 l2 l3 hlen
    generalize (row.take t).map momE = A at *
    generalize (row.drop (t + 1)).map momE = B at *
    generalize (row.drop t).map momE = CC at *
    generalize row.map momE = RR at *
    generalize rows.map rowE = RS at *
    generalize momE m = MM at *
    generalize seen.map PyData.str = SE at *
    simp only [roS, Option.map_some]
    walk_at "ev"
  · refine key [m] ?_ okm (show 1 ≤ 31 by decide)
    rw [List.map_cons, List.map_nil]
    unfold l__law_rows_1
    clear hf f1 f2 hm ok1 ok2 ok3 hr hok ap key okm app t1 t2 l1 l2 l3 hlen
    generalize (row.take t).map momE = A at *
    generalize (row.drop (t + 1)).map momE = B at *
    generalize (row.drop t).map momE = CC at *
    generalize row.map momE = RR at *
    generalize rows.map rowE = RS at *
    generalize momE m = MM at *
    generalize seen.map PyData.str = SE at *
    simp only [roS, Option.map_some]
    walk_at "ev"
theorem rows38 (ns : List Int) (k : Nat) (o : MO) (seen : List Str) (many : Int) (ss : List Stp) (ok : TblOk seen many ss) (hf : FdT ns (k + 130) o) :
    ∃ (rows : List (List Mom)) (o' : MO), f__law_rows [.m o, .d (tblE seen many ss)] = some (.ok (.f (rows.map rowE)), [o']) ∧ FdT ns k o' ∧ rows.length ≤ 6 ∧ ∀ r ∈ rows, r.length ≤ 31 ∧ ∀ m ∈ r, MomOk m := by
  obtain ⟨h1, h2, h3, h4, h5, h6⟩ := ok
  obtain ⟨row, o1, e1, f1, l1, hr⟩ := walked38 ns (k + 100) o (tblE seen many ss) ss rfl h6 h5 (hf.less (by omega))
  obtain ⟨s, el, rows, o2, z4, z5, z6, q1, f2, hl, hrs, _⟩ := forL_inv (tg := tgN 4) (b := l__law_rows_1) (fun rest s => ∃ (rows : List (List Mom)) (o : MO) (z4 z5 z6 : Option D), s = roS o (tblE seen many ss) (row.map momE) (rows.map rowE) z4 z5 z6 ∧ FdT ns (k + 25 * rest.length) o ∧ rows.length + rest.length ≤ 6 ∧ (∀ r ∈ rows, r.length ≤ 31 ∧ ∀ m ∈ r, MomOk m) ∧ ∀ y ∈ rest, y = PyData.int 0 ∨ y = .int 1 ∨ y = .int 2 ∨ y = .int 3)
    (fun x r s ⟨rows, o, z4, z5, z6, q1, q2, q3, q4, q5⟩ => by
      subst q1
      rw [List.length_cons] at q2 q3
      obtain ⟨r', o', a, b, c, e, f, h, l⟩ := ro_turn ns (k + 25 * r.length) o (tblE seen many ss) seen rfl h1 h2 row hr l1 rows (by omega) x (q5 x (.head _)) z4 z5 z6 (q2.less (by omega))
      refine ⟨_, e, rows ++ [r'], o', a, b, c, rfl, f, by rw [List.length_append, List.length_cons, List.length_nil]; omega, fun y my => ?_, fun y my => q5 y (.tail _ my)⟩
      rcases List.mem_append.mp my with my | my
      · exact q4 y my
      · rw [List.mem_singleton.mp my]; exact ⟨l, h⟩) [.int 0, .int 1, .int 2, .int 3] (roS o1 (tblE seen many ss) (row.map momE) ([[], row].map rowE) none none none) ⟨[[], row], o1, none, none, none, rfl, f1, (show 2 + 4 ≤ 6 by decide), fun r mr => by
        simp only [List.mem_cons, List.not_mem_nil, or_false] at mr
        rcases mr with rfl | rfl
        · exact ⟨Nat.zero_le _, fun _ m => nomatch m⟩
        · exact ⟨by omega, hr⟩, by
        intro y my
        simp only [List.mem_cons, List.not_mem_nil, or_false] at my
        exact my⟩
  subst q1
  refine ⟨rows, o2, ?_, by simpa using f2, by simpa using hl, hrs⟩
  have go : f__law_rows [.m o, .d (tblE seen many ss)] = fin 1 (b__law_rows ⟨[some (.r 0), some (.d (tblE seen many ss)), none, none, none, none, none], [o]⟩) := run_eq e__law_rows rfl rfl (by decide)
  rw [go]
  have hne := hf.ne
  have hne1 := f1.ne
  have r4 : rangeL 0 4 = [.int 0, .int 1, .int 2, .int 3] := by kernel_rfl
  unfold b__law_rows
  clear go hf f1 f2 hr hrs h1 h2 h3 h4 h5 h6
  unfold rowE at e1
  have e0 : [[], row].map rowE = [.tuple [], .tuple (row.map momE)] := rfl
  rw [e0] at el
  simp only [roS, Option.map_none] at el
  generalize tblE seen many ss = N at *
  generalize row.map momE = RR at *
  generalize rows.map rowE = RS at *
  walk_at "ev"
end K38

set_option Elab.async false
set_option linter.all false
set_option maxRecDepth 100000
namespace K38
open PySem L2 Pd
local macro_rules | `(tactic| walk_at "sz") => `(tactic| (first | omega | ((try simp only [List.length_append, List.length_map, List.length_replicate, List.length_cons, List.length_nil, List.length_range, List.length_take, List.length_drop, List.length_eraseIdx, List.length_set]) ; omega)))
local macro_rules | `(tactic| walk_at "ev") => `(tactic| simp -implicitDefEqProofs (disch := walk_at "sz") only [z_fin_n, z_fin_d, z_fin_f, z_fin_r, z_rtO, z_rtK, ↓z_bind, ↓z_pure, ↓z_fail, ↓z_ret, ↓z_cst, ↓z_nm, ↓z_toC_c, ↓z_toC_f, ↓z_asC, ↓z_asD, z_fzR_d, z_fzR_f, z_fzR_r, z_rdM_d, z_rdM_r, z_optM_some, z_optM_none, z_opM, z_blM, z_rv_d, z_rv_f, ↓z_bin, ↓z_cmp, ↓z_chain, ↓z_ix, z_part_n, ↓z_part_s, ↓z_sl, ↓z_intM, ↓z_boolM, ↓z_and1, ↓z_and2, ↓z_or1, ↓z_or2, z_allT0, ↓z_allT1, ↓z_allT, z_anyT0, ↓z_anyT1, ↓z_anyT, ↓z_notT, ↓z_valT, ↓z_notM, ↓z_negM, ↓z_iteM, ↓z_ifRV, ↓z_ifM, z_seq0, ↓z_seq, ↓z_tup, ↓z_lst, z_rdAll0, ↓z_rdAll, ↓z_blt, ↓z_def, ↓z_lrg, ↓z_range1, ↓z_range2, ↓z_iter, ↓z_zip, ↓z_enum, z_args0, ↓z_args, ↓z_av_f, ↓z_av_t, z_kOf, z_call_0, z_call_1, z_call_2, z_call_3, z_call_4, z_call_5, z_out1, z_out1x, z_callk0, z_callk1, z_callk2, z_callk3, z_callk4, z_frv_d, z_frv_f, z_frv_g, z_ptrM, z_ptrO, ↓z_app, ↓z_ext, z_setL, z_appO, z_appR, z_extO, z_extR, ↓z_pop, z_popS, z_popR, z_blk0, ↓z_blk, z_seqK_n, z_seqK_r, z_seqK_b, z_seqK_c, ↓z_okF, ↓z_chk, z_chkK, ↓z_set, z_sto_c, z_sto_f, z_sto_o, z_sto_g, ↓z_item, z_setO, z_setR, z_setRd, z_optrM, z_key_s, z_key_i, ↓z_isi, z_isT_si, z_isT_st, z_isT_sl, z_isT_sn, z_isT_sb, z_isT_s0, z_isT_ts, z_isT_tt, z_isT_tl, z_isT_tn, z_isT_tb, z_isT_t0, z_isT_is, z_isT_it, z_isT_il, z_isT_in, z_isT_ib, z_isT_i0, z_isT_bs, z_isT_bt, z_isT_bl, z_isT_bn, z_isT_bb, z_isT_b0, z_isT_ls, z_isT_lt, z_isT_ll, z_isT_ln, z_isT_lb, z_isT_l0, ↓z_srtSet, ↓z_lenSet, ↓z_newd, ↓z_dct, ↓z_revM, z_rev_l, z_rev_t, z_add_bi, z_add_ib, z_sub_bi, z_sub_ib, z_lt_s, z_sl_s, z_ix_s, z_srt_d, z_len_d, z_lst_d, z_in_d, z_ix_d, ↓z_unp, z_tgN, z_tgS_t, z_tgS_l, z_each0, ↓z_each, ↓z_expr, ↓z_retS, z_retM_d, z_retM_r, z_retM_f, ↓z_if, ↓z_for, z_for0, z_gc, z_hi_d, z_hi_n, z_hi_m, z_hi_r, z_add_i, z_sub_i, z_add_t, z_add_l, z_add_s, z_mul_i, z_mul_t, z_mul_l, z_cmp_eq, z_cmp_ne, z_cmp_in, z_cmp_ni, z_is, z_isnt, z_lt, z_le, z_gt, z_ge, z_isn_n, z_isn_i, z_isn_s, z_isn_t, z_isn_l, z_isn_b, z_ix_l0, z_ix_l1, z_ix_l2, z_ix_l3, z_ix_t0, z_ix_t1, z_ix_t2, z_ix_t3, z_ix_t4, z_sl_l, z_sl_t, z_map_s, z_map_n, z_len_l, z_len_t, z_tup_l, z_tup_t, z_lst_l, z_lst_t, z_min2, z_max2, z_int_b, z_int_i, z_srt, z_seq_l, z_seq_t, List.getElem?_cons_zero, List.getElem?_cons_succ, List.set_cons_zero, List.set_cons_succ, List.map_cons, List.map_nil, List.foldl_cons, List.foldl_nil, List.take_succ_cons, List.take_zero, List.take_nil, List.length_cons, List.length_nil, Nat.reduceAdd, Nat.reduceLeDiff, Nat.zero_le, Nat.le_refl, ↓reduceIte, Bool.false_eq_true, Bool.not_true, Bool.not_false, Bool.true_and, Bool.and_true, Bool.false_and, Bool.and_false, Bool.true_or, Bool.or_true, Bool.false_or, Bool.or_false, List.cons_append, List.nil_append, List.append_nil, z_max, Nat.reduceEqDiff, Nat.reduceBEq, beq_self_eq_true, List.getElem?_nil, eqO_lit, inO_litU2, inO_litU4, lk_net, lk_copy, lk_merge, lk_both, lk_loose, lk_drain, lk_either, lk_only, lk_place, lk_last, decide_false, decide_true, decide_eq_true_eq, Int.natAbs_natCast, Option.map_some, Option.map_none, z_hi_m, String.reduceEq, Int.toNat_natCast, Int.reduceToNat, Int.cast_ofNat_Int, z_repf, List.replicate_succ, List.replicate_zero, List.flatten_cons, List.flatten_nil, fits_c, small_c, mulOk_c, ixN_c, *])
/-! ### what is behind, what goes on -/
def tos (ss : List Stp) (st : List Int) (m : Mom) : List Int := (ss.filter fun s => decide (s.a ∈ st) && decide (s.m = m)).map (·.b)
noncomputable def nx (ss : List Stp) (st : List Int) (m : Mom) : List Int := srtE PyData.int (once (tos ss st m))
def ons (ss : List Stp) (st : List Int) : List Mom := (ss.filter fun s => decide (s.a ∈ st)).map (·.m)
theorem tos_len (ss : List Stp) (st : List Int) (m : Mom) : (tos ss st m).length ≤ ss.length := by
  unfold tos
  rw [List.length_map]
  exact List.length_filter_le _ _
theorem ons_len (ss : List Stp) (st : List Int) : (ons ss st).length ≤ ss.length := by
  unfold ons
  rw [List.length_map]
  exact List.length_filter_le _ _
theorem nx_len (ss : List Stp) (st : List Int) (m : Mom) : (nx ss st m).length ≤ ss.length := by
  unfold nx
  rw [(srtE_perm _ _).length_eq]
  exact Nat.le_trans (once_len _) (tos_len ss st m)
theorem behind38 (N : D) (ss : List Stp) (hN : ixO N (.int 2) = some (.tuple (ss.map stE))) (hss : ∀ s ∈ ss, StpOk s) (hsl : ss.length ≤ 60) (st : List Int) (m : Mom) (hm : MomOk m) :
    f_stands_behind [.d N, .d (.tuple (st.map PyData.int)), .d (momE m)] = some (.ok (.d (.tuple ((nx ss st m).map PyData.int))), []) := by
  have lc : lcM 0 [3, 4, 5] (tgS [(tgN 3), (tgN 4), (tgN 5)]) t_stands_behind_1 x_stands_behind_1 (iterM 0 (ixM (nm 0) (ret (.int 2)))) ⟨[some (.d N), some (.d (.tuple (st.map PyData.int))), some (.d (momE m)), none, none, none], []⟩ = some (.ok (.f ((tos ss st m).map PyData.int)), ⟨[some (.d N), some (.d (.tuple (st.map PyData.int))), some (.d (momE m)), none, none, none], []⟩) := by
    have := lc_m (enc := stE) (fun s : Stp => decide (s.a ∈ st) && decide (s.m = m)) (fun s => PyData.int s.b) (m := 0) (vs := [3, 4, 5]) (tg := tgS [(tgN 3), (tgN 4), (tgN 5)]) (test := t_stands_behind_1) (elt := x_stands_behind_1) (it := iterM 0 (ixM (nm 0) (ret (.int 2)))) (env := [some (.d N), some (.d (.tuple (st.map PyData.int))), some (.d (momE m)), none, none, none]) (L := []) ss (by
        clear hss
        generalize ss.map stE = FS at *
        generalize st.map PyData.int = ST at *
        generalize momE m = MM at *
        walk_at "ev") rfl (fun s ms => by
        have ok := hss s ms
        have h1 := in_int s.a st
        have h2 := eq_mom ok.2.2.2.2 hm
        refine ⟨[some (.d N), some (.d (.tuple (st.map PyData.int))), some (.d (momE m)), some (.d (.int s.a)), some (.d (momE s.m)), some (.d (.int s.b))], rfl, rfl, ?_, fun hp => ?_⟩
        · unfold t_stands_behind_1
          clear hss hN ok ms hm
          generalize ss.map stE = FS at *
          generalize st.map PyData.int = ST at *
          generalize momE m = MM at *
          generalize momE s.m = MS at *
          generalize decide (s.a ∈ st) = B1 at *
          generalize decide (s.m = m) = B2 at *
          cases B1 <;> cases B2 <;> walk_at "ev"
        · unfold x_stands_behind_1
          clear hss hN ok ms hm h1 h2 hp
          generalize st.map PyData.int = ST at *
          generalize momE m = MM at *
          generalize momE s.m = MS at *
          walk_at "ev") (by omega)
    unfold tos
    rw [List.map_map]
    exact this
  have hs := set_ints (tos ss st m) (by have := tos_len ss st m; omega)
  have go : f_stands_behind [.d N, .d (.tuple (st.map PyData.int)), .d (momE m)] = fin 0 (b_stands_behind ⟨[some (.d N), some (.d (.tuple (st.map PyData.int))), some (.d (momE m)), none, none, none], []⟩) := run_eq e_stands_behind rfl rfl (by decide)
  rw [go]
  unfold b_stands_behind nx
  clear go hss hN hm
  generalize srtE PyData.int (once (tos ss st m)) = ZS at *
  generalize (tos ss st m).map PyData.int = TS at *
  generalize st.map PyData.int = ST at *
  generalize momE m = MM at *
  generalize ZS.map PyData.int = ZZ at *
  walk_at "ev"
theorem goes38 (N : D) (ss : List Stp) (hN : ixO N (.int 2) = some (.tuple (ss.map stE))) (hss : ∀ s ∈ ss, StpOk s) (hsl : ss.length ≤ 60) (st : List Int) :
    f_goes_on [.d N, .d (.tuple (st.map PyData.int))] = some (.ok (.f ((srtE momE (once (ons ss st))).map momE)), []) := by
  have lc : lcM 0 [2, 3, 4] (tgS [(tgN 2), (tgN 3), (tgN 4)]) t_goes_on_1 x_goes_on_1 (iterM 0 (ixM (nm 0) (ret (.int 2)))) ⟨[some (.d N), some (.d (.tuple (st.map PyData.int))), none, none, none], []⟩ = some (.ok (.f ((ons ss st).map momE)), ⟨[some (.d N), some (.d (.tuple (st.map PyData.int))), none, none, none], []⟩) := by
    have := lc_m (enc := stE) (fun s : Stp => decide (s.a ∈ st)) (fun s => momE s.m) (m := 0) (vs := [2, 3, 4]) (tg := tgS [(tgN 2), (tgN 3), (tgN 4)]) (test := t_goes_on_1) (elt := x_goes_on_1) (it := iterM 0 (ixM (nm 0) (ret (.int 2)))) (env := [some (.d N), some (.d (.tuple (st.map PyData.int))), none, none, none]) (L := []) ss (by
        clear hss
        generalize ss.map stE = FS at *
        generalize st.map PyData.int = ST at *
        walk_at "ev") rfl (fun s ms => by
        have h1 := in_int s.a st
        refine ⟨[some (.d N), some (.d (.tuple (st.map PyData.int))), some (.d (.int s.a)), some (.d (momE s.m)), some (.d (.int s.b))], rfl, rfl, ?_, fun hp => ?_⟩
        · unfold t_goes_on_1
          clear hss hN ms
          generalize ss.map stE = FS at *
          generalize st.map PyData.int = ST at *
          generalize momE s.m = MS at *
          generalize decide (s.a ∈ st) = B1 at *
          walk_at "ev"
        · unfold x_goes_on_1
          clear hss hN ms h1 hp
          generalize st.map PyData.int = ST at *
          generalize momE s.m = MS at *
          walk_at "ev") (by omega)
    unfold ons
    rw [List.map_map]
    exact this
  have hs := set_moms (ons ss st) (by have := ons_len ss st; omega)
  have go : f_goes_on [.d N, .d (.tuple (st.map PyData.int))] = fin 0 (b_goes_on ⟨[some (.d N), some (.d (.tuple (st.map PyData.int))), none, none, none], []⟩) := run_eq e_goes_on rfl rfl (by decide)
  rw [go]
  unfold b_goes_on
  clear go hss hN
  generalize srtE momE (once (ons ss st)) = ZS at *
  generalize (ons ss st).map momE = TS at *
  generalize st.map PyData.int = ST at *
  generalize ZS.map momE = ZZ at *
  walk_at "ev"
/-! ### the law's own -/
def kvI (l : List Int) : List (D × D) := l.map fun z => (.int z, .bool true)
theorem kvI_len (l : List Int) : (kvI l).length = l.length := List.length_map _
theorem kvI_fst (l : List Int) : (kvI l).map (·.1) = l.map PyData.int := by
  unfold kvI
  rw [List.map_map]
  rfl
theorem keyEq_int (a b : Int) : keyEqD (.int a) (.int b) = decide (a = b) := by
  show decide ((some (Sum.inl a) : Option Key) = some (Sum.inl b)) = _
  rw [decide_eq_decide]
  constructor
  · intro e
    exact Sum.inl.inj (Option.some.inj e)
  · intro e
    rw [e]
theorem put_kvI (acc : List Int) (z : Int) : putD (kvI acc) (.int z) (.bool true) = kvI (if z ∈ acc then acc else acc ++ [z]) := by
  unfold putD
  have e : ((kvI acc).any fun kv => keyEqD kv.1 (.int z)) = decide (z ∈ acc) := by
    unfold kvI
    rw [List.any_map, Bool.eq_iff_iff, List.any_eq_true, decide_eq_true_eq]
    constructor
    · rintro ⟨y, m, h⟩
      rw [Function.comp_apply, keyEq_int] at h
      rw [← of_decide_eq_true h]
      exact m
    · intro m
      exact ⟨z, m, by rw [Function.comp_apply, keyEq_int]; exact decide_eq_true rfl⟩
  rw [e]
  by_cases m : z ∈ acc
  · rw [if_pos (decide_eq_true m), if_pos m]
    unfold kvI
    rw [List.map_map]
    refine List.map_congr_left fun a _ => ?_
    rw [Function.comp_apply]
    split <;> rfl
  · rw [if_neg (by rw [decide_eq_false m]; exact Bool.false_ne_true), if_neg m]
    unfold kvI
    rw [List.map_append]
    rfl
def tos1 (ss : List Stp) (a : Int) (m : Mom) : List Int := (ss.filter fun s => decide (s.a = a) && decide (s.m = m)).map (·.b)
abbrev lbS (N : D) (st : List D) (M : D) (keys : List Int) (z4 z5 : Option D) : PSt := ⟨[some (.d N), some (.d (.tuple st)), some (.d M), some (.r 0), z4.map C.d, z5.map C.d], [.dic (kvI keys)]⟩
theorem uniq_app {α : Type} [DecidableEq α] : ∀ (l r acc : List α), Ps.uniqK acc (l ++ r) = Ps.uniqK (Ps.uniqK acc l) r
  | [], r, acc => rfl
  | z :: l, r, acc => uniq_app l r _
theorem lb_in (N : D) (ST : List D) (ss : List Stp) (hss : ∀ s ∈ ss, StpOk s) (m : Mom) (hm : MomOk m) (a : Int) (keys : List Int) (z5 : Option D) (hl : keys.length + ss.length ≤ 50000) :
    ∃ z', forL (tgN 5) l__law_behind_2 (ss.map stE) (lbS N ST (momE m) keys (some (.int a)) z5) = some (.ok .nx, lbS N ST (momE m) (Ps.uniqK keys (tos1 ss a m)) (some (.int a)) z') := by
  obtain ⟨s', e, qs, acc, z', e1, e2, e3, _, _⟩ := forL_inv (tg := tgN 5) (b := l__law_behind_2) (fun rest s => ∃ (qs : List Stp) (acc : List Int) (z : Option D), rest = qs.map stE ∧ s = lbS N ST (momE m) acc (some (.int a)) z ∧ Ps.uniqK acc (tos1 qs a m) = Ps.uniqK keys (tos1 ss a m) ∧ acc.length + qs.length ≤ 50000 ∧ ∀ q ∈ qs, StpOk q)
    (fun x r s ⟨qs, acc, z, e1, e2, e3, e4, e5⟩ => by
      cases qs with
      | nil => cases e1
      | cons q qs =>
        cases e1
        subst e2
        rw [List.length_cons] at e4
        have ok := e5 q (.head _)
        have h0 : ixO (stE q) (.int 0) = some (.int q.a) := rfl
        have h1 : ixO (stE q) (.int 1) = some (momE q.m) := rfl
        have h2 : ixO (stE q) (.int 2) = some (.int q.b) := rfl
        have he := eq_int q.a a
        have hq := eq_mom ok.2.2.2.2 hm
        by_cases c : q.a = a ∧ q.m = m
        · have hp := put_kvI acc q.b
          have hb : (kvI acc).length ≤ 100000 := by rw [kvI_len]; omega
          have hb' := decide_eq_true hb
          refine ⟨lbS N ST (momE m) (if q.b ∈ acc then acc else acc ++ [q.b]) (some (.int a)) (some (stE q)), ?_, qs, _, _, rfl, rfl, ?_, ?_, fun y my => e5 y (.tail _ my)⟩
          · rw [decide_eq_true c.1] at he
            rw [decide_eq_true c.2] at hq
            clear e3 e4 e5 hl hss ok c hm
            unfold l__law_behind_2
            generalize (if q.b ∈ acc then acc else acc ++ [q.b]) = acc2 at hp ⊢
            generalize stE q = Q at *
            generalize momE m = MM at *
            generalize momE q.m = MQ at *
            cases z <;> simp only [lbS, Option.map_some, Option.map_none] <;> walk_at "ev"
          · rw [← e3]
            have : tos1 (q :: qs) a m = q.b :: tos1 qs a m := by
              unfold tos1
              rw [List.filter_cons_of_pos (by rw [decide_eq_true c.1, decide_eq_true c.2]; rfl)]
              rfl
            rw [this]
            rfl
          · split
            · omega
            · rw [List.length_append, List.length_cons, List.length_nil]; omega
        · refine ⟨lbS N ST (momE m) acc (some (.int a)) (some (stE q)), ?_, qs, acc, _, rfl, rfl, ?_, by omega, fun y my => e5 y (.tail _ my)⟩
          · by_cases c1 : q.a = a
            · have c2 : q.m ≠ m := fun z => c ⟨c1, z⟩
              rw [decide_eq_true c1] at he
              rw [decide_eq_false c2] at hq
              clear e3 e4 e5 hl hss ok c hm c1 c2
              unfold l__law_behind_2
              generalize stE q = Q at *
              generalize momE m = MM at *
              generalize momE q.m = MQ at *
              cases z <;> simp only [lbS, Option.map_some, Option.map_none] <;> walk_at "ev"
            · rw [decide_eq_false c1] at he
              clear e3 e4 e5 hl hss ok c hm c1 hq
              unfold l__law_behind_2
              generalize stE q = Q at *
              generalize momE m = MM at *
              generalize momE q.m = MQ at *
              cases z <;> simp only [lbS, Option.map_some, Option.map_none] <;> walk_at "ev"
          · rw [← e3]
            have : tos1 (q :: qs) a m = tos1 qs a m := by
              unfold tos1
              rw [List.filter_cons_of_neg (by
                rw [Bool.and_eq_true, decide_eq_true_eq, decide_eq_true_eq]
                exact c)]
            rw [this]) (ss.map stE) (lbS N ST (momE m) keys (some (.int a)) z5) ⟨ss, keys, z5, rfl, rfl, rfl, hl, hss⟩
  cases qs with
  | cons a b => cases e1
  | nil =>
    subst e2
    have e3 : acc = Ps.uniqK keys (tos1 ss a m) := e3
    subst e3
    exact ⟨z', e⟩
theorem tos1_len (ss : List Stp) (a : Int) (m : Mom) : (tos1 ss a m).length ≤ ss.length := by
  unfold tos1
  rw [List.length_map]
  exact List.length_filter_le _ _
theorem law_behind38 (N : D) (ss : List Stp) (hN : ixO N (.int 2) = some (.tuple (ss.map stE))) (hss : ∀ s ∈ ss, StpOk s) (hsl : ss.length ≤ 60) (st : List Int) (hst : st.length ≤ 60) (m : Mom) (hm : MomOk m) :
    f__law_behind [.d N, .d (.tuple (st.map PyData.int)), .d (momE m)] = some (.ok (.d (.tuple ((nx ss st m).map PyData.int))), []) := by
  obtain ⟨s', el, rr, acc, z4, z5, e1, e2, e3, _⟩ := forL_inv (tg := tgN 4) (b := l__law_behind_1) (fun rest s => ∃ (rr : List Int) (acc : List Int) (z4 z5 : Option D), rest = rr.map PyData.int ∧ s = lbS N (st.map PyData.int) (momE m) acc z4 z5 ∧ Ps.uniqK acc (rr.flatMap fun a => tos1 ss a m) = once (st.flatMap fun a => tos1 ss a m) ∧ acc.length + 60 * rr.length ≤ 3600)
    (fun x r s ⟨rr, acc, z4, z5, e1, e2, e3, e4⟩ => by
      cases rr with
      | nil => cases e1
      | cons a rr =>
        cases e1
        subst e2
        rw [List.length_cons] at e4
        obtain ⟨z', e⟩ := lb_in N (st.map PyData.int) ss hss m hm a acc z5 (by omega)
        refine ⟨lbS N (st.map PyData.int) (momE m) (Ps.uniqK acc (tos1 ss a m)) (some (.int a)) z', ?_, rr, _, _, _, rfl, rfl, ?_, ?_⟩
        · clear e3 e4 hss hm
          unfold l__law_behind_1
          generalize Ps.uniqK acc (tos1 ss a m) = acc2 at *
          generalize ss.map stE = FS at *
          generalize st.map PyData.int = ST at *
          generalize momE m = MM at *
          cases z4 <;> cases z5 <;> simp only [lbS, Option.map_some, Option.map_none] at e ⊢ <;> walk_at "ev"
        · rw [← e3, List.flatMap_cons, uniq_app]
        · have := Ps.uniq_len (tos1 ss a m) acc
          have := tos1_len ss a m
          omega) (st.map PyData.int) (lbS N (st.map PyData.int) (momE m) [] none none) ⟨st, [], none, none, rfl, rfl, rfl, by rw [List.length_nil]; omega⟩
  cases rr with
  | cons a b => cases e1
  | nil =>
    subst e2
    have e3 : acc = once (st.flatMap fun a => tos1 ss a m) := e3
    have la : acc.length ≤ 3600 := by simpa using ‹acc.length + 60 * ([] : List Int).length ≤ 3600›
    have hk := kvI_fst acc
    have hso := ok_ints acc (by omega)
    have hse : sortD (acc.map PyData.int) = (nx ss st m).map PyData.int := by
      unfold nx
      rw [← srtE_eq, e3]
      refine sortD_same (nodup_once _) (nodup_once _) (fun i => ?_) fun _ _ => rfl
      rw [mem_once, mem_once, List.mem_flatMap]
      unfold tos tos1
      constructor
      · rintro ⟨a, ma, h⟩
        obtain ⟨s, hs, rfl⟩ := List.mem_map.mp h
        obtain ⟨h1, h2⟩ := List.mem_filter.mp hs
        rw [Bool.and_eq_true, decide_eq_true_eq, decide_eq_true_eq] at h2
        refine List.mem_map.mpr ⟨s, List.mem_filter.mpr ⟨h1, ?_⟩, rfl⟩
        rw [Bool.and_eq_true, decide_eq_true_eq, decide_eq_true_eq]
        exact ⟨by rw [h2.1]; exact ma, h2.2⟩
      · intro h
        obtain ⟨s, hs, rfl⟩ := List.mem_map.mp h
        obtain ⟨h1, h2⟩ := List.mem_filter.mp hs
        rw [Bool.and_eq_true, decide_eq_true_eq, decide_eq_true_eq] at h2
        refine ⟨s.a, h2.1, List.mem_map.mpr ⟨s, List.mem_filter.mpr ⟨h1, ?_⟩, rfl⟩⟩
        rw [Bool.and_eq_true, decide_eq_true_eq, decide_eq_true_eq]
        exact ⟨rfl, h2.2⟩
    have go : f__law_behind [.d N, .d (.tuple (st.map PyData.int)), .d (momE m)] = fin 0 (b__law_behind ⟨[some (.d N), some (.d (.tuple (st.map PyData.int))), some (.d (momE m)), none, none, none], []⟩) := run_eq e__law_behind rfl rfl (by decide)
    rw [go]
    unfold b__law_behind
    have e0 : kvI [] = [] := rfl
    simp only [lbS, Option.map_some, Option.map_none, e0] at el
    clear go hss hN hm e3 e1
    generalize nx ss st m = ZS at *
    generalize kvI acc = KV at *
    generalize acc.map PyData.int = AC at *
    generalize st.map PyData.int = ST at *
    generalize momE m = MM at *
    generalize ZS.map PyData.int = ZZ at *
    walk_at "ev"
end K38

set_option Elab.async false
set_option linter.all false
set_option maxRecDepth 100000
namespace K38
open PySem L2 Pd
local macro_rules | `(tactic| walk_at "sz") => `(tactic| (first | omega | ((try simp only [List.length_append, List.length_map, List.length_replicate, List.length_cons, List.length_nil, List.length_range, List.length_take, List.length_drop, List.length_eraseIdx, List.length_set]) ; omega)))
local macro_rules | `(tactic| walk_at "ev") => `(tactic| simp -implicitDefEqProofs (disch := walk_at "sz") only [z_fin_n, z_fin_d, z_fin_f, z_fin_r, z_rtO, z_rtK, ↓z_bind, ↓z_pure, ↓z_fail, ↓z_ret, ↓z_cst, ↓z_nm, ↓z_toC_c, ↓z_toC_f, ↓z_asC, ↓z_asD, z_fzR_d, z_fzR_f, z_fzR_r, z_rdM_d, z_rdM_r, z_optM_some, z_optM_none, z_opM, z_blM, z_rv_d, z_rv_f, ↓z_bin, ↓z_cmp, ↓z_chain, ↓z_ix, z_part_n, ↓z_part_s, ↓z_sl, ↓z_intM, ↓z_boolM, ↓z_and1, ↓z_and2, ↓z_or1, ↓z_or2, z_allT0, ↓z_allT1, ↓z_allT, z_anyT0, ↓z_anyT1, ↓z_anyT, ↓z_notT, ↓z_valT, ↓z_notM, ↓z_negM, ↓z_iteM, ↓z_ifRV, ↓z_ifM, z_seq0, ↓z_seq, ↓z_tup, ↓z_lst, z_rdAll0, ↓z_rdAll, ↓z_blt, ↓z_def, ↓z_lrg, ↓z_range1, ↓z_range2, ↓z_iter, ↓z_zip, ↓z_enum, z_args0, ↓z_args, ↓z_av_f, ↓z_av_t, z_kOf, z_call_0, z_call_1, z_call_2, z_call_3, z_call_4, z_call_5, z_out1, z_out1x, z_callk0, z_callk1, z_callk2, z_callk3, z_callk4, z_frv_d, z_frv_f, z_frv_g, z_ptrM, z_ptrO, ↓z_app, ↓z_ext, z_setL, z_appO, z_appR, z_extO, z_extR, ↓z_pop, z_popS, z_popR, z_blk0, ↓z_blk, z_seqK_n, z_seqK_r, z_seqK_b, z_seqK_c, ↓z_okF, ↓z_chk, z_chkK, ↓z_set, z_sto_c, z_sto_f, z_sto_o, z_sto_g, ↓z_item, z_setO, z_setR, z_setRd, z_optrM, z_key_s, z_key_i, ↓z_isi, z_isT_si, z_isT_st, z_isT_sl, z_isT_sn, z_isT_sb, z_isT_s0, z_isT_ts, z_isT_tt, z_isT_tl, z_isT_tn, z_isT_tb, z_isT_t0, z_isT_is, z_isT_it, z_isT_il, z_isT_in, z_isT_ib, z_isT_i0, z_isT_bs, z_isT_bt, z_isT_bl, z_isT_bn, z_isT_bb, z_isT_b0, z_isT_ls, z_isT_lt, z_isT_ll, z_isT_ln, z_isT_lb, z_isT_l0, ↓z_srtSet, ↓z_lenSet, ↓z_newd, ↓z_dct, ↓z_revM, z_rev_l, z_rev_t, z_add_bi, z_add_ib, z_sub_bi, z_sub_ib, z_lt_s, z_sl_s, z_ix_s, z_srt_d, z_len_d, z_lst_d, z_in_d, z_ix_d, ↓z_unp, z_tgN, z_tgS_t, z_tgS_l, z_each0, ↓z_each, ↓z_expr, ↓z_retS, z_retM_d, z_retM_r, z_retM_f, ↓z_if, ↓z_for, z_for0, z_gc, z_hi_d, z_hi_n, z_hi_m, z_hi_r, z_add_i, z_sub_i, z_add_t, z_add_l, z_add_s, z_mul_i, z_mul_t, z_mul_l, z_cmp_eq, z_cmp_ne, z_cmp_in, z_cmp_ni, z_is, z_isnt, z_lt, z_le, z_gt, z_ge, z_isn_n, z_isn_i, z_isn_s, z_isn_t, z_isn_l, z_isn_b, z_ix_l0, z_ix_l1, z_ix_l2, z_ix_l3, z_ix_t0, z_ix_t1, z_ix_t2, z_ix_t3, z_ix_t4, z_sl_l, z_sl_t, z_map_s, z_map_n, z_len_l, z_len_t, z_tup_l, z_tup_t, z_lst_l, z_lst_t, z_min2, z_max2, z_int_b, z_int_i, z_srt, z_seq_l, z_seq_t, List.getElem?_cons_zero, List.getElem?_cons_succ, List.set_cons_zero, List.set_cons_succ, List.map_cons, List.map_nil, List.foldl_cons, List.foldl_nil, List.take_succ_cons, List.take_zero, List.take_nil, List.length_cons, List.length_nil, Nat.reduceAdd, Nat.reduceLeDiff, Nat.zero_le, Nat.le_refl, ↓reduceIte, Bool.false_eq_true, Bool.not_true, Bool.not_false, Bool.true_and, Bool.and_true, Bool.false_and, Bool.and_false, Bool.true_or, Bool.or_true, Bool.false_or, Bool.or_false, List.cons_append, List.nil_append, List.append_nil, z_max, Nat.reduceEqDiff, Nat.reduceBEq, beq_self_eq_true, List.getElem?_nil, eqO_lit, inO_litU2, inO_litU4, lk_net, lk_copy, lk_merge, lk_both, lk_loose, lk_drain, lk_either, lk_only, lk_place, lk_last, decide_false, decide_true, decide_eq_true_eq, Int.natAbs_natCast, Option.map_some, Option.map_none, z_hi_m, String.reduceEq, Int.toNat_natCast, Int.reduceToNat, Int.cast_ofNat_Int, z_repf, List.replicate_succ, List.replicate_zero, List.flatten_cons, List.flatten_nil, fits_c, small_c, mulOk_c, ixN_c, *])
/-! ### where a row breaks -/
noncomputable def brk (ss : List Stp) : List Int → Nat → List Mom → Option Nat
  | _, _, [] => none
  | st, n, m :: r => if nx ss st m = [] then some n else brk ss (nx ss st m) (n + 1) r
def natE : Option Nat → D
  | none => .none
  | some n => .int (n : Int)
def enumL : Nat → List Mom → List D
  | _, [] => []
  | n, m :: r => .tuple [.int (n : Int), momE m] :: enumL (n + 1) r
def fromL : Nat → Nat → List D
  | _, 0 => []
  | n, k + 1 => .int (n : Int) :: fromL (n + 1) k
theorem fromL_eq : ∀ (k n : Nat), (List.range' n k).map (fun j : Nat => PyData.int (j : Int)) = fromL n k
  | 0, n => rfl
  | k + 1, n => by
    rw [List.range'_succ, List.map_cons, fromL_eq k (n + 1)]
    rfl
theorem rangeL_from (k : Nat) : rangeL 0 (k : Int) = fromL 0 k := by
  rw [rangeL0, List.range_eq_range', fromL_eq]
theorem pairs_enum : ∀ (ms : List Mom) (n : Nat), pairsD (fromL n ms.length) (ms.map momE) = enumL n ms
  | [], n => rfl
  | m :: r, n => by
    have := pairs_enum r (n + 1)
    show PyData.tuple [.int (n : Int), momE m] :: pairsD (fromL (n + 1) r.length) (r.map momE) = _
    rw [this]
    rfl
/-- the loop of table_breaks -/
abbrev tbrS (N R : D) (st : List Int) (z3 z4 : Option D) : PSt := ⟨[some (.d N), some (.d R), some (.d (.tuple (st.map PyData.int))), z3.map C.d, z4.map C.d], []⟩
theorem tbr_loop (N R : D) (ss : List Stp) (hN : ixO N (.int 2) = some (.tuple (ss.map stE))) (hss : ∀ s ∈ ss, StpOk s) (hsl : ss.length ≤ 60) : ∀ (ms : List Mom) (_ : ∀ m ∈ ms, MomOk m) (n : Nat) (st : List Int) (z3 z4 : Option D),
    ∃ (s : PSt), forL (tgS [(tgN 3), (tgN 4)]) l_table_breaks_1 (enumL n ms) (tbrS N R st z3 z4) = some (.ok (match brk ss st n ms with | none => .nx | some k => .rt (.c (.d (.int (k : Int))))), s) ∧ (brk ss st n ms = none → ∃ st' z3' z4', s = tbrS N R st' z3' z4') ∧ s.L = []
  | [], _, n, st, z3, z4 => ⟨tbrS N R st z3 z4, rfl, fun _ => ⟨st, z3, z4, rfl⟩, rfl⟩
  | m :: r, hok, n, st, z3, z4 => by
    have hb := behind38 N ss hN hss hsl st m (hok m (.head _))
    have he := eq_ints (nx ss st m) []
    have hstep : ∀ z : Bool, decide (nx ss st m = []) = z → M.bind (tgS [(tgN 3), (tgN 4)] (.tuple [.int (n : Int), momE m])) (fun _ => l_table_breaks_1) (tbrS N R st z3 z4) = some (.ok (if z then .rt (.c (.d (.int (n : Int)))) else .nx), tbrS N R (nx ss st m) (some (.int (n : Int))) (some (momE m))) := fun z hz => by
      rw [hz] at he
      unfold l_table_breaks_1
      simp only [tbrS, Option.map_some]
      clear hss hz hok hN
      generalize nx ss st m = ZS at *
      generalize momE m = MM at *
      generalize ZS.map PyData.int = ZZ at *
      generalize st.map PyData.int = ST at *
      rw [List.map_nil] at he
      cases z <;> walk_at "ev"
    have e0 : enumL n (m :: r) = .tuple [.int (n : Int), momE m] :: enumL (n + 1) r := rfl
    rw [e0, forL_cons]
    unfold brk
    by_cases h : nx ss st m = []
    · rw [hstep true (decide_eq_true h)]
      simp only [h, if_true]
      exact ⟨_, rfl, (fun z => nomatch z), rfl⟩
    · rw [hstep false (decide_eq_false h)]
      simp only [h, if_false, Bool.false_eq_true]
      exact tbr_loop N R ss hN hss hsl r (fun y my => hok y (.tail _ my)) (n + 1) (nx ss st m) _ _
theorem breaks38 (N : D) (ss : List Stp) (hN : ixO N (.int 2) = some (.tuple (ss.map stE))) (hss : ∀ s ∈ ss, StpOk s) (hsl : ss.length ≤ 60) (row : List Mom) (hr : ∀ m ∈ row, MomOk m) (hrl : row.length ≤ 100) :
    f_table_breaks [.d N, .d (rowE row)] = some (.ok (.d (natE (brk ss [0] 0 row))), []) := by
  obtain ⟨s, e, h1, h2⟩ := tbr_loop N (rowE row) ss hN hss hsl row hr 0 [0] none none
  have hen : enumO [rowE row] = some (enumL 0 row) := by
    show some (pairsD (rangeL 0 ((row.map momE).length : Nat)) (row.map momE)) = _
    rw [List.length_map, rangeL_from, pairs_enum]
  have go : f_table_breaks [.d N, .d (rowE row)] = fin 0 (b_table_breaks ⟨[some (.d N), some (.d (rowE row)), none, none, none], []⟩) := run_eq e_table_breaks rfl rfl (by decide)
  rw [go]
  unfold b_table_breaks
  have e00 : [(0 : Int)].map PyData.int = [.int 0] := rfl
  cases hb : brk ss [0] 0 row with
  | none =>
    rw [hb] at e
    obtain ⟨st', z3', z4', rfl⟩ := h1 hb
    simp only [tbrS, Option.map_none, e00] at e
    clear go hss hN hr h1 h2 hb e00
    generalize enumL 0 row = EL at *
    generalize rowE row = R at *
    generalize st'.map PyData.int = ST at *
    unfold natE
    walk_at "ev"
  | some k =>
    rw [hb] at e
    obtain ⟨env, L⟩ := s
    have h2 : L = [] := h2
    subst h2
    simp only [tbrS, Option.map_none, e00] at e
    clear go hss hN hr h1 hb e00
    generalize enumL 0 row = EL at *
    generalize rowE row = R at *
    unfold natE
    walk_at "ev"
theorem has38 (N : D) (ss : List Stp) (hN : ixO N (.int 2) = some (.tuple (ss.map stE))) (hss : ∀ s ∈ ss, StpOk s) (hsl : ss.length ≤ 60) (row : List Mom) (hr : ∀ m ∈ row, MomOk m) (hrl : row.length ≤ 100) :
    f_table_has [.d N, .d (rowE row)] = some (.ok (.d (.bool (isNone (natE (brk ss [0] 0 row))))), []) := by
  have h := breaks38 N ss hN hss hsl row hr hrl
  have go : f_table_has [.d N, .d (rowE row)] = fin 0 (b_table_has ⟨[some (.d N), some (.d (rowE row))], []⟩) := run_eq e_table_has rfl rfl (by decide)
  rw [go]
  unfold b_table_has
  clear go hss hN hr
  generalize natE (brk ss [0] 0 row) = B at *
  generalize rowE row = R at *
  walk_at "ev"
/-! ### the law's own -/
abbrev lbrS (N R : D) (st : List Int) (z3 : Option D) : PSt := ⟨[some (.d N), some (.d R), some (.d (.tuple (st.map PyData.int))), z3.map C.d], []⟩
theorem lbr_loop (N : D) (row : List Mom) (ss : List Stp) (hN : ixO N (.int 2) = some (.tuple (ss.map stE))) (hss : ∀ s ∈ ss, StpOk s) (hsl : ss.length ≤ 60) : ∀ (ms : List Mom) (_ : ∀ m ∈ ms, MomOk m) (n : Nat) (_ : row.drop n = ms) (st : List Int) (_ : st.length ≤ 60) (z3 : Option D),
    ∃ (s : PSt), forL (tgN 3) l__law_breaks_1 (fromL n ms.length) (lbrS N (rowE row) st z3) = some (.ok (match brk ss st n ms with | none => .nx | some k => .rt (.c (.d (.int (k : Int))))), s) ∧ (brk ss st n ms = none → ∃ st' z3', s = lbrS N (rowE row) st' z3') ∧ s.L = []
  | [], _, n, _, st, _, z3 => ⟨lbrS N (rowE row) st z3, rfl, fun _ => ⟨st, z3, rfl⟩, rfl⟩
  | m :: r, hok, n, hd, st, hst, z3 => by
    have hb := law_behind38 N ss hN hss hsl st hst m (hok m (.head _))
    have he := eq_ints (nx ss st m) []
    have hix : ixO (rowE row) (.int (n : Int)) = some (momE m) := by
      unfold rowE
      refine ix_tup_at ?_
      have : row[n]? = some m := by
        have := congrArg List.head? hd
        rw [List.head?_drop] at this
        simpa using this
      rw [List.getElem?_map, this]
      rfl
    have hstep : ∀ z : Bool, decide (nx ss st m = []) = z → M.bind (tgN 3 (.int (n : Int))) (fun _ => l__law_breaks_1) (lbrS N (rowE row) st z3) = some (.ok (if z then .rt (.c (.d (.int (n : Int)))) else .nx), lbrS N (rowE row) (nx ss st m) (some (.int (n : Int)))) := fun z hz => by
      rw [hz] at he
      unfold l__law_breaks_1
      simp only [lbrS, Option.map_some]
      clear hss hz hok hN hd
      generalize nx ss st m = ZS at *
      generalize momE m = MM at *
      generalize rowE row = R at *
      generalize ZS.map PyData.int = ZZ at *
      generalize st.map PyData.int = ST at *
      rw [List.map_nil] at he
      cases z <;> walk_at "ev"
    have e0 : fromL n (m :: r).length = .int (n : Int) :: fromL (n + 1) r.length := rfl
    rw [e0, forL_cons]
    unfold brk
    by_cases h : nx ss st m = []
    · rw [hstep true (decide_eq_true h)]
      simp only [h, if_true]
      exact ⟨_, rfl, (fun z => nomatch z), rfl⟩
    · rw [hstep false (decide_eq_false h)]
      simp only [h, if_false, Bool.false_eq_true]
      have hd2 : row.drop (n + 1) = r := by
        rw [← List.drop_drop, hd]
        rfl
      exact lbr_loop N row ss hN hss hsl r (fun y my => hok y (.tail _ my)) (n + 1) hd2 (nx ss st m) (by have := nx_len ss st m; omega) _
theorem law_breaks38 (N : D) (ss : List Stp) (hN : ixO N (.int 2) = some (.tuple (ss.map stE))) (hss : ∀ s ∈ ss, StpOk s) (hsl : ss.length ≤ 60) (row : List Mom) (hr : ∀ m ∈ row, MomOk m) (hrl : row.length ≤ 100) :
    f__law_breaks [.d N, .d (rowE row)] = some (.ok (.d (natE (brk ss [0] 0 row))), []) := by
  obtain ⟨s, e, h1, h2⟩ := lbr_loop N row ss hN hss hsl row hr 0 List.drop_zero [0] (by decide) none
  have hlen : bltO .len [rowE row] = some (.d (.int (row.length : Nat))) := by
    show some (OpO.d (.int ((row.map momE).length : Nat))) = _
    rw [List.length_map]
  have hra := rangeL_from row.length
  have go : f__law_breaks [.d N, .d (rowE row)] = fin 0 (b__law_breaks ⟨[some (.d N), some (.d (rowE row)), none, none], []⟩) := run_eq e__law_breaks rfl rfl (by decide)
  rw [go]
  unfold b__law_breaks
  have e00 : [(0 : Int)].map PyData.int = [.int 0] := rfl
  cases hb : brk ss [0] 0 row with
  | none =>
    rw [hb] at e
    obtain ⟨st', z3', rfl⟩ := h1 hb
    simp only [lbrS, Option.map_none, e00] at e
    clear go hss hN hr h1 h2 hb e00
    generalize fromL 0 row.length = EL at *
    generalize rowE row = R at *
    generalize st'.map PyData.int = ST at *
    unfold natE
    walk_at "ev"
  | some k =>
    rw [hb] at e
    obtain ⟨env, L⟩ := s
    have h2 : L = [] := h2
    subst h2
    simp only [lbrS, Option.map_none, e00] at e
    clear go hss hN hr h1 hb e00
    generalize fromL 0 row.length = EL at *
    generalize rowE row = R at *
    unfold natE
    walk_at "ev"
end K38

set_option Elab.async false
set_option linter.all false
set_option maxRecDepth 100000
namespace K38
open PySem L2 Pd
local macro_rules | `(tactic| walk_at "sz") => `(tactic| (first | omega | ((try simp only [List.length_append, List.length_map, List.length_replicate, List.length_cons, List.length_nil, List.length_range, List.length_take, List.length_drop, List.length_eraseIdx, List.length_set]) ; omega)))
local macro_rules | `(tactic| walk_at "ev") => `(tactic| simp -implicitDefEqProofs (disch := walk_at "sz") only [z_fin_n, z_fin_d, z_fin_f, z_fin_r, z_rtO, z_rtK, ↓z_bind, ↓z_pure, ↓z_fail, ↓z_ret, ↓z_cst, ↓z_nm, ↓z_toC_c, ↓z_toC_f, ↓z_asC, ↓z_asD, z_fzR_d, z_fzR_f, z_fzR_r, z_rdM_d, z_rdM_r, z_optM_some, z_optM_none, z_opM, z_blM, z_rv_d, z_rv_f, ↓z_bin, ↓z_cmp, ↓z_chain, ↓z_ix, z_part_n, ↓z_part_s, ↓z_sl, ↓z_intM, ↓z_boolM, ↓z_and1, ↓z_and2, ↓z_or1, ↓z_or2, z_allT0, ↓z_allT1, ↓z_allT, z_anyT0, ↓z_anyT1, ↓z_anyT, ↓z_notT, ↓z_valT, ↓z_notM, ↓z_negM, ↓z_iteM, ↓z_ifRV, ↓z_ifM, z_seq0, ↓z_seq, ↓z_tup, ↓z_lst, z_rdAll0, ↓z_rdAll, ↓z_blt, ↓z_def, ↓z_lrg, ↓z_range1, ↓z_range2, ↓z_iter, ↓z_zip, ↓z_enum, z_args0, ↓z_args, ↓z_av_f, ↓z_av_t, z_kOf, z_call_0, z_call_1, z_call_2, z_call_3, z_call_4, z_call_5, z_out1, z_out1x, z_callk0, z_callk1, z_callk2, z_callk3, z_callk4, z_frv_d, z_frv_f, z_frv_g, z_ptrM, z_ptrO, ↓z_app, ↓z_ext, z_setL, z_appO, z_appR, z_extO, z_extR, ↓z_pop, z_popS, z_popR, z_blk0, ↓z_blk, z_seqK_n, z_seqK_r, z_seqK_b, z_seqK_c, ↓z_okF, ↓z_chk, z_chkK, ↓z_set, z_sto_c, z_sto_f, z_sto_o, z_sto_g, ↓z_item, z_setO, z_setR, z_setRd, z_optrM, z_key_s, z_key_i, ↓z_isi, z_isT_si, z_isT_st, z_isT_sl, z_isT_sn, z_isT_sb, z_isT_s0, z_isT_ts, z_isT_tt, z_isT_tl, z_isT_tn, z_isT_tb, z_isT_t0, z_isT_is, z_isT_it, z_isT_il, z_isT_in, z_isT_ib, z_isT_i0, z_isT_bs, z_isT_bt, z_isT_bl, z_isT_bn, z_isT_bb, z_isT_b0, z_isT_ls, z_isT_lt, z_isT_ll, z_isT_ln, z_isT_lb, z_isT_l0, ↓z_srtSet, ↓z_lenSet, ↓z_newd, ↓z_dct, ↓z_revM, z_rev_l, z_rev_t, z_add_bi, z_add_ib, z_sub_bi, z_sub_ib, z_lt_s, z_sl_s, z_ix_s, z_srt_d, z_len_d, z_lst_d, z_in_d, z_ix_d, ↓z_unp, z_tgN, z_tgS_t, z_tgS_l, z_each0, ↓z_each, ↓z_expr, ↓z_retS, z_retM_d, z_retM_r, z_retM_f, ↓z_if, ↓z_for, z_for0, z_gc, z_hi_d, z_hi_n, z_hi_m, z_hi_r, z_add_i, z_sub_i, z_add_t, z_add_l, z_add_s, z_mul_i, z_mul_t, z_mul_l, z_cmp_eq, z_cmp_ne, z_cmp_in, z_cmp_ni, z_is, z_isnt, z_lt, z_le, z_gt, z_ge, z_isn_n, z_isn_i, z_isn_s, z_isn_t, z_isn_l, z_isn_b, z_ix_l0, z_ix_l1, z_ix_l2, z_ix_l3, z_ix_t0, z_ix_t1, z_ix_t2, z_ix_t3, z_ix_t4, z_sl_l, z_sl_t, z_map_s, z_map_n, z_len_l, z_len_t, z_tup_l, z_tup_t, z_lst_l, z_lst_t, z_min2, z_max2, z_int_b, z_int_i, z_srt, z_seq_l, z_seq_t, List.getElem?_cons_zero, List.getElem?_cons_succ, List.set_cons_zero, List.set_cons_succ, List.map_cons, List.map_nil, List.foldl_cons, List.foldl_nil, List.take_succ_cons, List.take_zero, List.take_nil, List.length_cons, List.length_nil, Nat.reduceAdd, Nat.reduceLeDiff, Nat.zero_le, Nat.le_refl, ↓reduceIte, Bool.false_eq_true, Bool.not_true, Bool.not_false, Bool.true_and, Bool.and_true, Bool.false_and, Bool.and_false, Bool.true_or, Bool.or_true, Bool.false_or, Bool.or_false, List.cons_append, List.nil_append, List.append_nil, z_max, Nat.reduceEqDiff, Nat.reduceBEq, beq_self_eq_true, List.getElem?_nil, eqO_lit, inO_litU2, inO_litU4, lk_net, lk_copy, lk_merge, lk_both, lk_loose, lk_drain, lk_either, lk_only, lk_place, lk_last, decide_false, decide_true, decide_eq_true_eq, Int.natAbs_natCast, Option.map_some, Option.map_none, z_hi_m, String.reduceEq, Int.toNat_natCast, Int.reduceToNat, Int.cast_ofNat_Int, z_repf, List.replicate_succ, List.replicate_zero, List.flatten_cons, List.flatten_nil, fits_c, small_c, mulOk_c, ixN_c, *])
/-! ### the law's look at the sets -/
theorem eq_self (z : Str) : eqO (.str z) (.str z) = some true := by
  rw [eqO_str, decide_eq_true rfl]
theorem uniq_in {α : Type} [DecidableEq α] {acc : List α} {k : α} (h : k ∈ acc) (r : List α) : Ps.uniqK acc (k :: r) = Ps.uniqK acc r := by
  show Ps.uniqK (if k ∈ acc then acc else acc ++ [k]) r = _
  rw [if_pos h]
theorem uniq_out {α : Type} [DecidableEq α] {acc : List α} {k : α} (h : k ∉ acc) (r : List α) : Ps.uniqK acc (k :: r) = Ps.uniqK (acc ++ [k]) r := by
  show Ps.uniqK (if k ∈ acc then acc else acc ++ [k]) r = _
  rw [if_neg h]
abbrev sr0 (o : MO) (N : D) (z2 z8 : Option D) : PSt := ⟨[some (.r 0), some (.d N), z2.map C.d, none, none, none, none, none, z8.map C.d], [o]⟩
theorem stands38 (ns : List Int) (k : Nat) (o : MO) (N : D) (n : Nat) (hn : n ≤ 8) (hN : ixO N (.int 1) = some (.int (n : Int))) (hf : FdT ns (k + n) o) :
    ∃ (st : List Int) (o' : MO), lcM 1 [8] (tgN 8) t__law_sets_right_1 x__law_sets_right_1 (rangeM [ixM (nm 1) (ret (.int 1))]) (sr0 o N none none) = some (.ok (.f (st.map PyData.int)), sr0 o' N none none) ∧ FdT ns k o' ∧ st.length ≤ n := by
  have hit : rangeM [ixM (nm 1) (ret (.int 1))] (sr0 o N none none) = some (.ok ((List.range n).map fun j : Nat => PyData.int (j : Int)), sr0 o N none none) := by
    rw [← rangeL0]
    clear hf
    simp only [sr0, Option.map_none]
    walk_at "ev"
  obtain ⟨ys, L', e, qs, rr, o', rfl, e1, rfl, f', hl⟩ := lc_ex (m := 1) (vs := [8]) (tg := tgN 8) (test := t__law_sets_right_1) (elt := x__law_sets_right_1) (fun rest ys L => ∃ (qs rr : List Int) (o : MO), ys = qs.map PyData.int ∧ rest = rr.map PyData.int ∧ L = [o] ∧ FdT ns (k + rr.length) o ∧ qs.length + rr.length ≤ n) hit rfl
    (fun y r ys L ⟨qs, rr, o, e1, e2, e3, f, hl⟩ => by
      subst e1
      subst e3
      cases rr with
      | nil => cases e2
      | cons q rr =>
        cases e2
        rw [List.length_cons] at f hl
        obtain ⟨r, o2, er, r1, r2, f2⟩ := draw38 ns (k + rr.length) o 3 (f.less (by omega)) (by decide) (by decide)
        have hne := f.ne
        have he := eq_int r 0
        by_cases h : r = 0
        · rw [decide_eq_true h] at he
          refine ⟨some (.int q), (sr0 o N none (some (.int q))).env, [o2], ?_, rfl, qs ++ [q], rr, o2, by rw [List.map_append]; rfl, rfl, rfl, f2, by rw [List.length_append, List.length_cons, List.length_nil]; omega⟩
          clear hf hit f f2 hl r1 r2 h
          simp only [sr0, wipeE, List.foldl_cons, List.foldl_nil, t__law_sets_right_1, x__law_sets_right_1, Option.map_some, Option.map_none]
          walk_at "ev"
        · rw [decide_eq_false h] at he
          refine ⟨none, (sr0 o N none (some (.int q))).env, [o2], ?_, rfl, qs, rr, o2, (List.append_nil _), rfl, rfl, f2, by omega⟩
          clear hf hit f f2 hl r1 r2 h
          simp only [sr0, wipeE, List.foldl_cons, List.foldl_nil, t__law_sets_right_1, x__law_sets_right_1, Option.map_some, Option.map_none]
          walk_at "ev") ⟨[], (List.range n).map fun j : Nat => (j : Int), o, rfl, by rw [List.map_map]; rfl, rfl, by rw [List.length_map, List.length_range]; exact hf, by rw [List.length_map, List.length_range]; simp⟩
    (fun ys L ⟨qs, rr, o, e1, e2, e3, f, hl⟩ => by
      subst e1
      exact decide_eq_true (by rw [List.length_map]; omega))
  have : rr = [] := by cases rr with | nil => rfl | cons a b => cases e1
  subst this
  exact ⟨qs, o', e, by simpa using f', by simpa using hl⟩
abbrev sr1 (o : MO) (N : D) (st : List D) (due : List D) (z4 z5 z6 : Option D) : PSt := ⟨[some (.r 0), some (.d N), some (.d (.tuple st)), some (.r 1), z4.map C.d, z5.map C.d, z6.map C.d, none, none], [o, .lst due]⟩
theorem due38 (o : MO) (N : D) (ss : List Stp) (hss : ∀ s ∈ ss, StpOk s) (hsl : ss.length ≤ 60) (st : List Int) :
    ∃ z4, forL (tgN 4) l__law_sets_right_1 (ss.map stE) (sr1 o N (st.map PyData.int) [] none none none) = some (.ok .nx, sr1 o N (st.map PyData.int) ((once (ons ss st)).map momE) z4 none none) := by
  obtain ⟨s', e, qs, acc, z4, e1, e2, e3, _, _⟩ := forL_inv (tg := tgN 4) (b := l__law_sets_right_1) (fun rest s => ∃ (qs : List Stp) (acc : List Mom) (z : Option D), rest = qs.map stE ∧ s = sr1 o N (st.map PyData.int) (acc.map momE) z none none ∧ Ps.uniqK acc (ons qs st) = once (ons ss st) ∧ (acc.length + qs.length ≤ 60 ∧ ∀ m ∈ acc, MomOk m) ∧ ∀ q ∈ qs, StpOk q)
    (fun x r s ⟨qs, acc, z, e1, e2, e3, ⟨e4, e6⟩, e5⟩ => by
      cases qs with
      | nil => cases e1
      | cons q qs =>
        cases e1
        subst e2
        rw [List.length_cons] at e4
        have ok := e5 q (.head _)
        have h0 : ixO (stE q) (.int 0) = some (.int q.a) := rfl
        have h1 : ixO (stE q) (.int 1) = some (momE q.m) := rfl
        have hi := in_int q.a st
        have hm := in_mom ok.2.2.2.2 e6
        have hfl : (acc.map momE).length ≤ 1000 := by rw [List.length_map]; omega
        by_cases c1 : q.a ∈ st
        · have co : ons (q :: qs) st = q.m :: ons qs st := by
            unfold ons
            rw [List.filter_cons_of_pos (p := fun s : Stp => decide (s.a ∈ st)) (by simpa using c1)]
            rfl
          rw [decide_eq_true c1] at hi
          by_cases c2 : q.m ∈ acc
          · rw [decide_eq_true c2] at hm
            refine ⟨sr1 o N (st.map PyData.int) (acc.map momE) (some (stE q)) none none, ?_, qs, acc, _, rfl, rfl, ?_, ⟨by omega, e6⟩, fun y my => e5 y (.tail _ my)⟩
            · clear e3 e4 e5 e6 hss ok c1 c2 co
              unfold l__law_sets_right_1
              generalize stE q = Q at *
              generalize momE q.m = MQ at *
              generalize acc.map momE = AC at *
              generalize st.map PyData.int = ST at *
              cases z <;> simp only [sr1, Option.map_some, Option.map_none] <;> walk_at "ev"
            · rw [← e3, co]
              exact (uniq_in c2 _).symm
          · rw [decide_eq_false c2] at hm
            refine ⟨sr1 o N (st.map PyData.int) ((acc ++ [q.m]).map momE) (some (stE q)) none none, ?_, qs, acc ++ [q.m], _, rfl, rfl, ?_, ⟨by rw [List.length_append, List.length_cons, List.length_nil]; omega, fun y my => ?_⟩, fun y my => e5 y (.tail _ my)⟩
            · have e9 : (acc ++ [q.m]).map momE = acc.map momE ++ [momE q.m] := by rw [List.map_append]; rfl
              rw [e9]
              clear e3 e4 e5 e6 hss ok c1 c2 co e9
              unfold l__law_sets_right_1
              generalize stE q = Q at *
              generalize momE q.m = MQ at *
              generalize acc.map momE = AC at *
              generalize st.map PyData.int = ST at *
              cases z <;> simp only [sr1, Option.map_some, Option.map_none] <;> walk_at "ev"
            · rw [← e3, co]
              exact (uniq_out c2 _).symm
            · rcases List.mem_append.mp my with my | my
              · exact e6 y my
              · rw [List.mem_singleton.mp my]; exact ok.2.2.2.2
        · rw [decide_eq_false c1] at hi
          refine ⟨sr1 o N (st.map PyData.int) (acc.map momE) (some (stE q)) none none, ?_, qs, acc, _, rfl, rfl, ?_, ⟨by omega, e6⟩, fun y my => e5 y (.tail _ my)⟩
          · clear e3 e4 e5 e6 hss ok c1 hm
            unfold l__law_sets_right_1
            generalize stE q = Q at *
            generalize momE q.m = MQ at *
            generalize acc.map momE = AC at *
            generalize st.map PyData.int = ST at *
            cases z <;> simp only [sr1, Option.map_some, Option.map_none] <;> walk_at "ev"
          · rw [← e3]
            have co : ons (q :: qs) st = ons qs st := by
              unfold ons
              rw [List.filter_cons_of_neg (p := fun s : Stp => decide (s.a ∈ st)) (by simpa using c1)]
            rw [co]) (ss.map stE) (sr1 o N (st.map PyData.int) [] none none none) ⟨ss, [], none, rfl, rfl, rfl, ⟨by simpa using hsl, fun _ m => nomatch m⟩, hss⟩
  cases qs with
  | cons a b => cases e1
  | nil =>
    subst e2
    have e3 : acc = once (ons ss st) := e3
    subst e3
    exact ⟨z4, e⟩
theorem ons_ok {ss : List Stp} (hss : ∀ s ∈ ss, StpOk s) (st : List Int) : ∀ m ∈ ons ss st, MomOk m := fun m mm => by
  obtain ⟨s, hs, rfl⟩ := List.mem_map.mp mm
  exact (hss s (List.mem_filter.mp hs).1).2.2.2.2
abbrev sr2 (o : MO) (N : D) (st : List D) (due : List D) (found : List D) (z4 z5 z6 : Option D) : PSt := ⟨[some (.r 0), some (.d N), some (.d (.tuple st)), some (.r 1), z4.map C.d, z5.map C.d, z6.map C.d, some (.r 2), none], [o, .lst due, .lst found]⟩
theorem goes_turn (o : MO) (ho : o ≠ .dead) (N : D) (ss : List Stp) (hN : ixO N (.int 2) = some (.tuple (ss.map stE))) (hss : ∀ s ∈ ss, StpOk s) (hsl : ss.length ≤ 60) (st : List Int) (x : D) (z4 z5 : Option D) :
    ∃ found, M.bind (tgN 5 x) (fun _ => l__law_sets_right_2) (sr1 o N (st.map PyData.int) ((once (ons ss st)).map momE) z4 z5 none) = some (.ok .nx, sr2 o N (st.map PyData.int) ((once (ons ss st)).map momE) found z4 (some x) none) ∧
      ∀ f0 : List D, M.bind (tgN 5 x) (fun _ => l__law_sets_right_2) (sr2 o N (st.map PyData.int) ((once (ons ss st)).map momE) f0 z4 z5 none) = some (.ok .nx, sr2 o N (st.map PyData.int) ((once (ons ss st)).map momE) found z4 (some x) none) := by
  have hg := goes38 N ss hN hss hsl st
  have hol := once_len (ons ss st)
  have hll := ons_len ss st
  have hso := ok_moms (once (ons ss st)) (by omega)
  have hse := srtE_eq momE (once (ons ss st))
  have hpm := srtE_perm momE (once (ons ss st))
  have hok : ∀ m ∈ srtE momE (once (ons ss st)), MomOk m := fun m mm => ons_ok hss st m (mem_once.mp (hpm.mem_iff.mp mm))
  have hlen : (srtE momE (once (ons ss st))).length ≤ 60 := by rw [hpm.length_eq]; omega
  have sm : Sm 4 70000 (.list ((srtE momE (once (ons ss st))).map momE)) := by
    have a := sm_moms hok
    have b : (srtE momE (once (ons ss st))).length * (1059 + 2) ≤ 60 * (1059 + 2) := Nat.mul_le_mul_right _ hlen
    exact (Sm.list a).mono (by decide) (by omega)
  have hr := rep_ok (sm.mono (by decide) (by decide))
  have hq := eq_self (PyData.shown (.list ((srtE momE (once (ons ss st))).map momE)))
  have hfl : ((srtE momE (once (ons ss st))).map momE).length ≤ 1000 := by rw [List.length_map]; omega
  refine ⟨(srtE momE (once (ons ss st))).map momE ++ [.tuple []], ?_, fun f0 => ?_⟩
  · unfold l__law_sets_right_2
    clear hN hss hok hpm hlen sm hol hll
    generalize (srtE momE (once (ons ss st))).map momE = ZZ at *
    generalize (once (ons ss st)).map momE = OO at *
    generalize st.map PyData.int = ST at *
    cases z4 <;> cases z5 <;> simp only [sr1, sr2, Option.map_some, Option.map_none] <;> walk_at "ev"
  · unfold l__law_sets_right_2
    clear hN hss hok hpm hlen sm hol hll
    generalize (srtE momE (once (ons ss st))).map momE = ZZ at *
    generalize (once (ons ss st)).map momE = OO at *
    generalize st.map PyData.int = ST at *
    cases z4 <;> cases z5 <;> simp only [sr1, sr2, Option.map_some, Option.map_none] <;> walk_at "ev"
theorem both_loop (o : MO) (N : D) (ss : List Stp) (hN : ixO N (.int 2) = some (.tuple (ss.map stE))) (hss : ∀ s ∈ ss, StpOk s) (hsl : ss.length ≤ 60) (st : List Int) (hst : st.length ≤ 60) (due found : List D) (z4 z5 : Option D) (ms : List Mom) (hms : ∀ m ∈ ms, MomOk m) :
    ∃ z6, forL (tgN 6) l__law_sets_right_3 (ms.map momE) (sr2 o N (st.map PyData.int) due found z4 z5 none) = some (.ok .nx, sr2 o N (st.map PyData.int) due found z4 z5 z6) := by
  obtain ⟨s', e, qs, z6, e1, e2, _⟩ := forL_inv (tg := tgN 6) (b := l__law_sets_right_3) (fun rest s => ∃ (qs : List Mom) (z : Option D), rest = qs.map momE ∧ s = sr2 o N (st.map PyData.int) due found z4 z5 z ∧ ∀ q ∈ qs, MomOk q)
    (fun x r s ⟨qs, z, e1, e2, e3⟩ => by
      cases qs with
      | nil => cases e1
      | cons q qs =>
        cases e1
        subst e2
        have h1 := behind38 N ss hN hss hsl st q (e3 q (.head _))
        have h2 := law_behind38 N ss hN hss hsl st hst q (e3 q (.head _))
        have hnx : ∀ i ∈ nx ss st q, i.natAbs < 10 ^ 40 := fun i mi => by
          have := mem_once.mp ((srtE_perm PyData.int (once (tos ss st q))).mem_iff.mp mi)
          obtain ⟨s, hs, rfl⟩ := List.mem_map.mp this
          have := hss s (List.mem_filter.mp hs).1
          have := this.2.2.1
          have := (hss s (List.mem_filter.mp hs).1).2.2.2.1
          omega
        have sm : Sm 2 10000 (.tuple ((nx ss st q).map PyData.int)) := by
          have a := sm_ints hnx
          have b : (nx ss st q).length * (41 + 2) ≤ 60 * (41 + 2) := Nat.mul_le_mul_right _ (Nat.le_trans (nx_len ss st q) hsl)
          exact (Sm.tup a).mono (by decide) (by omega)
        have hr := rep_ok (sm.mono (by decide) (by decide))
        have hq := eq_self (PyData.shown (.tuple ((nx ss st q).map PyData.int)))
        refine ⟨sr2 o N (st.map PyData.int) due found z4 z5 (some (momE q)), ?_, qs, _, rfl, rfl, fun y my => e3 y (.tail _ my)⟩
        clear hN hss hnx sm e3 hms
        unfold l__law_sets_right_3
        generalize (nx ss st q).map PyData.int = ZZ at *
        generalize st.map PyData.int = ST at *
        generalize momE q = MQ at *
        simp only [sr2, Option.map_some]
        walk_at "ev") (ms.map momE) (sr2 o N (st.map PyData.int) due found z4 z5 none) ⟨ms, none, rfl, rfl, hms⟩
  subst e2
  exact ⟨z6, e⟩
end K38

set_option Elab.async false
set_option linter.all false
set_option maxRecDepth 100000
namespace K38
open PySem L2 Pd
local macro_rules | `(tactic| walk_at "sz") => `(tactic| (first | omega | ((try simp only [List.length_append, List.length_map, List.length_replicate, List.length_cons, List.length_nil, List.length_range, List.length_take, List.length_drop, List.length_eraseIdx, List.length_set]) ; omega)))
local macro_rules | `(tactic| walk_at "ev") => `(tactic| simp -implicitDefEqProofs (disch := walk_at "sz") only [z_fin_n, z_fin_d, z_fin_f, z_fin_r, z_rtO, z_rtK, ↓z_bind, ↓z_pure, ↓z_fail, ↓z_ret, ↓z_cst, ↓z_nm, ↓z_toC_c, ↓z_toC_f, ↓z_asC, ↓z_asD, z_fzR_d, z_fzR_f, z_fzR_r, z_rdM_d, z_rdM_r, z_optM_some, z_optM_none, z_opM, z_blM, z_rv_d, z_rv_f, ↓z_bin, ↓z_cmp, ↓z_chain, ↓z_ix, z_part_n, ↓z_part_s, ↓z_sl, ↓z_intM, ↓z_boolM, ↓z_and1, ↓z_and2, ↓z_or1, ↓z_or2, z_allT0, ↓z_allT1, ↓z_allT, z_anyT0, ↓z_anyT1, ↓z_anyT, ↓z_notT, ↓z_valT, ↓z_notM, ↓z_negM, ↓z_iteM, ↓z_ifRV, ↓z_ifM, z_seq0, ↓z_seq, ↓z_tup, ↓z_lst, z_rdAll0, ↓z_rdAll, ↓z_blt, ↓z_def, ↓z_lrg, ↓z_range1, ↓z_range2, ↓z_iter, ↓z_zip, ↓z_enum, z_args0, ↓z_args, ↓z_av_f, ↓z_av_t, z_kOf, z_call_0, z_call_1, z_call_2, z_call_3, z_call_4, z_call_5, z_out1, z_out1x, z_callk0, z_callk1, z_callk2, z_callk3, z_callk4, z_frv_d, z_frv_f, z_frv_g, z_ptrM, z_ptrO, ↓z_app, ↓z_ext, z_setL, z_appO, z_appR, z_extO, z_extR, ↓z_pop, z_popS, z_popR, z_blk0, ↓z_blk, z_seqK_n, z_seqK_r, z_seqK_b, z_seqK_c, ↓z_okF, ↓z_chk, z_chkK, ↓z_set, z_sto_c, z_sto_f, z_sto_o, z_sto_g, ↓z_item, z_setO, z_setR, z_setRd, z_optrM, z_key_s, z_key_i, ↓z_isi, z_isT_si, z_isT_st, z_isT_sl, z_isT_sn, z_isT_sb, z_isT_s0, z_isT_ts, z_isT_tt, z_isT_tl, z_isT_tn, z_isT_tb, z_isT_t0, z_isT_is, z_isT_it, z_isT_il, z_isT_in, z_isT_ib, z_isT_i0, z_isT_bs, z_isT_bt, z_isT_bl, z_isT_bn, z_isT_bb, z_isT_b0, z_isT_ls, z_isT_lt, z_isT_ll, z_isT_ln, z_isT_lb, z_isT_l0, ↓z_srtSet, ↓z_lenSet, ↓z_newd, ↓z_dct, ↓z_revM, z_rev_l, z_rev_t, z_add_bi, z_add_ib, z_sub_bi, z_sub_ib, z_lt_s, z_sl_s, z_ix_s, z_srt_d, z_len_d, z_lst_d, z_in_d, z_ix_d, ↓z_unp, z_tgN, z_tgS_t, z_tgS_l, z_each0, ↓z_each, ↓z_expr, ↓z_retS, z_retM_d, z_retM_r, z_retM_f, ↓z_if, ↓z_for, z_for0, z_gc, z_hi_d, z_hi_n, z_hi_m, z_hi_r, z_add_i, z_sub_i, z_add_t, z_add_l, z_add_s, z_mul_i, z_mul_t, z_mul_l, z_cmp_eq, z_cmp_ne, z_cmp_in, z_cmp_ni, z_is, z_isnt, z_lt, z_le, z_gt, z_ge, z_isn_n, z_isn_i, z_isn_s, z_isn_t, z_isn_l, z_isn_b, z_ix_l0, z_ix_l1, z_ix_l2, z_ix_l3, z_ix_t0, z_ix_t1, z_ix_t2, z_ix_t3, z_ix_t4, z_sl_l, z_sl_t, z_map_s, z_map_n, z_len_l, z_len_t, z_tup_l, z_tup_t, z_lst_l, z_lst_t, z_min2, z_max2, z_int_b, z_int_i, z_srt, z_seq_l, z_seq_t, List.getElem?_cons_zero, List.getElem?_cons_succ, List.set_cons_zero, List.set_cons_succ, List.map_cons, List.map_nil, List.foldl_cons, List.foldl_nil, List.take_succ_cons, List.take_zero, List.take_nil, List.length_cons, List.length_nil, Nat.reduceAdd, Nat.reduceLeDiff, Nat.zero_le, Nat.le_refl, ↓reduceIte, Bool.false_eq_true, Bool.not_true, Bool.not_false, Bool.true_and, Bool.and_true, Bool.false_and, Bool.and_false, Bool.true_or, Bool.or_true, Bool.false_or, Bool.or_false, List.cons_append, List.nil_append, List.append_nil, z_max, Nat.reduceEqDiff, Nat.reduceBEq, beq_self_eq_true, List.getElem?_nil, eqO_lit, inO_litU2, inO_litU4, lk_net, lk_copy, lk_merge, lk_both, lk_loose, lk_drain, lk_either, lk_only, lk_place, lk_last, decide_false, decide_true, decide_eq_true_eq, Int.natAbs_natCast, Option.map_some, Option.map_none, z_hi_m, String.reduceEq, Int.toNat_natCast, Int.reduceToNat, Int.cast_ofNat_Int, z_repf, List.replicate_succ, List.replicate_zero, List.flatten_cons, List.flatten_nil, fits_c, small_c, mulOk_c, ixN_c, *])
theorem sets38 (ns : List Int) (k : Nat) (o : MO) (seen : List Str) (n : Nat) (hn : n ≤ 8) (ss : List Stp) (ok : TblOk seen (n : Int) ss) (hf : FdT ns (k + 40) o) :
    ∃ (o' : MO), f__law_sets_right [.m o, .d (tblE seen (n : Int) ss)] = some (.ok (.d (.bool true)), [o']) ∧ FdT ns k o' := by
  obtain ⟨h1, h2, h3, h4, h5, h6⟩ := ok
  have i0 : ixO (tblE seen (n : Int) ss) (.int 0) = some (.tuple (seen.map PyData.str)) := rfl
  have i1 : ixO (tblE seen (n : Int) ss) (.int 1) = some (.int (n : Int)) := rfl
  have i2 : ixO (tblE seen (n : Int) ss) (.int 2) = some (.tuple (ss.map stE)) := rfl
  generalize tblE seen (n : Int) ss = N at *
  obtain ⟨st, o1, e1, f1, l1⟩ := stands38 ns (k + 30) o N n hn i1 (hf.less (by omega))
  obtain ⟨m, o2, e2, f2, hm⟩ := moment38 ns k o1 (.tuple (seen.map PyData.str)) seen rfl h1 h2 2 (f1.less (by omega))
  have hne := hf.ne
  have hne1 := f1.ne
  obtain ⟨z4, ed⟩ := due38 o1 N ss h6 h5 st
  obtain ⟨found, eg, eg2⟩ := goes_turn o1 hne1 N ss i2 h6 h5 st (.int 0) z4 none
  obtain ⟨found2, _, eg2⟩ := goes_turn o1 hne1 N ss i2 h6 h5 st (.int 1) z4 (some (.int 0))
  have eg3 := eg2 found
  have r2 : rangeL 0 2 = [.int 0, .int 1] := by kernel_rfl
  have hgl : forL (tgN 5) l__law_sets_right_2 [.int 0, .int 1] (sr1 o1 N (st.map PyData.int) ((once (ons ss st)).map momE) z4 none none) = some (.ok .nx, sr2 o1 N (st.map PyData.int) ((once (ons ss st)).map momE) found2 z4 (some (.int 1)) none) := by
    rw [forL_cons, eg]
    show forL _ _ _ _ = _
    rw [forL_cons, eg3]
    rfl
  have okd : ∀ y ∈ once (ons ss st), MomOk y := fun y my => ons_ok h6 st y (mem_once.mp my)
  obtain ⟨z6, eb⟩ := both_loop o2 N ss i2 h6 h5 st (by omega) ((once (ons ss st)).map momE) found2 z4 (some (.int 1)) ((once (ons ss st)).take 4 ++ [m, []]) (fun y my => by
    rcases List.mem_append.mp my with my | my
    · exact okd y (List.mem_of_mem_take my)
    · simp only [List.mem_cons, List.not_mem_nil, or_false] at my
      rcases my with rfl | rfl
      · exact hm
      · exact ⟨Nat.zero_le _, fun _ z => nomatch z⟩)
  have c4 : cutD ((once (ons ss st)).map momE) none (some 4) = ((once (ons ss st)).take 4).map momE := by
    have := cut_hi ((once (ons ss st)).map momE) 4
    rw [show ((4 : Nat) : Int) = 4 from rfl] at this
    rw [this, List.map_take]
  have e9 : ((once (ons ss st)).take 4 ++ [m, []]).map momE = ((once (ons ss st)).take 4).map momE ++ [momE m, .tuple []] := by
    rw [List.map_append]
    rfl
  have ol := once_len (ons ss st)
  have sl := ons_len ss st
  have lt4 : (((once (ons ss st)).take 4).map momE).length ≤ 1000 := by
    rw [List.length_map, List.length_take]
    omega
  rw [e9] at eb
  refine ⟨o2, ?_, f2⟩
  have go : f__law_sets_right [.m o, .d N] = fin 1 (b__law_sets_right (sr0 o N none none)) := run_eq e__law_sets_right rfl rfl (by decide)
  rw [go]
  unfold b__law_sets_right
  clear go hf f1 f2 h1 h2 h3 h4 h6 hm okd e9 eg eg2 eg3 ol sl
  generalize ((once (ons ss st)).take 4).map momE = D4 at *
  generalize (once (ons ss st)).map momE = DU at *
  generalize st.map PyData.int = ST at *
  generalize momE m = MM at *
  generalize ss.map stE = SS at *
  generalize seen.map PyData.str = SE at *
  simp only [sr0, sr1, sr2, Option.map_none, Option.map_some] at e1 ed hgl eb ⊢
  walk_at "ev"
/-! ### the law -/
theorem brk_lt (ss : List Stp) : ∀ (ms : List Mom) (st : List Int) (n k : Nat), brk ss st n ms = some k → k < n + ms.length
  | [], _, _, _, h => nomatch h
  | m :: r, st, n, k, h => by
    unfold brk at h
    split at h
    · cases h
      rw [List.length_cons]
      omega
    · have := brk_lt ss r _ _ _ h
      rw [List.length_cons]
      omega
theorem sm_nat {b : Option Nat} (h : ∀ k, b = some k → k < 1000) : Sm 0 41 (natE b) := by
  cases b with
  | none => exact Sm.none.mono (Nat.le_refl _) (by decide)
  | some k =>
    have := h k rfl
    exact Sm.int (i := (k : Int)) (by omega)
theorem cut_last (xs : List D) : cutD xs none (some (-1)) = xs.dropLast := by
  unfold cutD
  have e : HT.sIx xs.length xs.length (some (-1)) = xs.length - 1 := by
    show (if (-1 : Int) < 0 then ((-1 : Int) + (xs.length : Int)).toNat else min (-1 : Int).toNat xs.length) = _
    rw [if_pos (by decide)]
    omega
  rw [e, HT.sIx_none, List.drop_zero, Nat.sub_zero, List.dropLast_eq_take]
abbrev lwS (ns : List Int) (o : MO) (z2 z3 z4 z5 z6 z7 z8 z9 : Option D) : PSt := ⟨[some (.d (.list (ns.map PyData.int))), some (.r 0), z2.map C.d, z3.map C.d, z4.map C.d, z5.map C.d, z6.map C.d, z7.map C.d, z8.map C.d, z9.map C.d], [o]⟩
theorem row_turn (ns : List Int) (o : MO) (ho : o ≠ .dead) (seen : List Str) (n : Int) (ss : List Stp) (ok : TblOk seen n ss) (row : List Mom) (hr : ∀ m ∈ row, MomOk m) (hrl : row.length ≤ 31) (z2 z4 z5 z6 z7 z8 z9 : Option D) :
    ∃ (a b c d e : Option D), M.bind (tgN 5 (rowE row)) (fun _ => l_law_2) (lwS ns o z2 (some (tblE seen n ss)) z4 z5 z6 z7 z8 z9) = some (.ok .nx, lwS ns o z2 (some (tblE seen n ss)) z4 a b c d e) := by
  obtain ⟨h1, h2, h3, h4, h5, h6⟩ := ok
  have h6' : ∀ s ∈ ss.dropLast, StpOk s := fun s ms => h6 s ((List.dropLast_sublist _).mem ms)
  have h5' : ss.dropLast.length ≤ 60 := by rw [List.length_dropLast]; omega
  have b1 := breaks38 (tblE seen n ss) ss rfl h6 h5 row hr (by omega)
  have b2 := has38 (tblE seen n ss) ss rfl h6 h5 row hr (by omega)
  have b3 := law_breaks38 (tblE seen n ss) ss rfl h6 h5 row hr (by omega)
  have c1 := breaks38 (tblE seen n ss.dropLast) ss.dropLast rfl h6' h5' row hr (by omega)
  have c2 := has38 (tblE seen n ss.dropLast) ss.dropLast rfl h6' h5' row hr (by omega)
  have c3 := law_breaks38 (tblE seen n ss.dropLast) ss.dropLast rfl h6' h5' row hr (by omega)
  have s1 : Sm 0 41 (natE (brk ss [0] 0 row)) := sm_nat fun k hk => by have := brk_lt ss row _ _ _ hk; omega
  have s2 : Sm 0 41 (natE (brk ss.dropLast [0] 0 row)) := sm_nat fun k hk => by have := brk_lt ss.dropLast row _ _ _ hk; omega
  have rp1 := rep_ok (s1.mono (by decide) (by decide))
  have q1 := eq_self (PyData.shown (natE (brk ss [0] 0 row)))
  have rp2 : bltO .rep [.bool (isNone (natE (brk ss [0] 0 row)))] = some (.d (.str (PyData.shown (.bool (isNone (natE (brk ss [0] 0 row))))))) := rep_ok ((Sm.bool _).mono (by decide) (by decide))
  have q2 := eq_self (PyData.shown (.bool (isNone (natE (brk ss [0] 0 row)))))
  have rp3 : bltO .rep [.list [natE (brk ss.dropLast [0] 0 row), natE (brk ss [0] 0 row), .bool (isNone (natE (brk ss.dropLast [0] 0 row))), .bool (isNone (natE (brk ss [0] 0 row)))]] = some (.d (.str (PyData.shown (.list [natE (brk ss.dropLast [0] 0 row), natE (brk ss [0] 0 row), .bool (isNone (natE (brk ss.dropLast [0] 0 row))), .bool (isNone (natE (brk ss [0] 0 row)))])))) :=
    rep_ok ((Sm.list (.cons s2 (.cons s1 (.cons (Sm.bool _) (.cons (Sm.bool _) .nil))))).mono (by decide) (by decide))
  have q3 := eq_self (PyData.shown (.list [natE (brk ss.dropLast [0] 0 row), natE (brk ss [0] 0 row), .bool (isNone (natE (brk ss.dropLast [0] 0 row))), .bool (isNone (natE (brk ss [0] 0 row)))]))
  have i2 : ixO (tblE seen n ss) (.int 2) = some (.tuple (ss.map stE)) := rfl
  have cl : cutD (ss.map stE) none (some (-1)) = ss.dropLast.map stE := by rw [cut_last, List.map_dropLast]
  have sl2 : slO (tblE seen n ss) none (some 2) = some (.d (.tuple [.tuple (seen.map PyData.str), .int n])) := by
    show some (OpO.d (.tuple (cutD [.tuple (seen.map PyData.str), .int n, .tuple (ss.map stE)] none (some 2)))) = _
    have := cut_hi [PyData.tuple (seen.map PyData.str), .int n, .tuple (ss.map stE)] 2
    rw [show ((2 : Nat) : Int) = 2 from rfl] at this
    rw [this]
    rfl
  have ef : PyData.tuple [.tuple (seen.map PyData.str), .int n, .tuple (ss.dropLast.map stE)] = tblE seen n ss.dropLast := rfl
  refine ⟨some (rowE row), some (natE (brk ss [0] 0 row)), some (tblE seen n ss.dropLast), some (natE (brk ss.dropLast [0] 0 row)), some (.list [natE (brk ss.dropLast [0] 0 row), natE (brk ss [0] 0 row), .bool (isNone (natE (brk ss.dropLast [0] 0 row))), .bool (isNone (natE (brk ss [0] 0 row)))]), ?_⟩
  unfold l_law_2
  clear h1 h2 h3 h4 h5 h6 h6' h5' hr hrl s1 s2
  generalize natE (brk ss [0] 0 row) = B at *
  generalize natE (brk ss.dropLast [0] 0 row) = B' at *
  generalize hS1 : PyData.shown B = S1 at *
  generalize hS2 : PyData.shown (.bool (isNone B)) = S2 at *
  generalize hS3 : PyData.shown (.list [B', B, .bool (isNone B'), .bool (isNone B)]) = S3 at *
  clear hS1 hS2 hS3
  generalize tblE seen n ss.dropLast = N' at *
  generalize tblE seen n ss = N at *
  generalize rowE row = R at *
  generalize ss.dropLast.map stE = SD at *
  generalize ss.map stE = SS at *
  generalize seen.map PyData.str = SE at *
  simp only [lwS, Option.map_some]
  walk_at "ev"
theorem law_turn (ns : List Int) (k : Nat) (o : MO) (x : D) (z2 z3 z4 z5 z6 z7 z8 z9 : Option D) (hf : FdT ns (k + 900) o) :
    ∃ (o' : MO) (a b c d e f g : Option D), M.bind (tgN 2 x) (fun _ => l_law_1) (lwS ns o z2 z3 z4 z5 z6 z7 z8 z9) = some (.ok .nx, lwS ns o' (some x) a b c d e f g) ∧ FdT ns k o' := by
  obtain ⟨a, o1, e1, a1, a2, f1⟩ := draw38 ns (k + 890) o 5 (hf.less (by omega)) (by decide) (by decide)
  obtain ⟨a, rfl⟩ := Int.eq_ofNat_of_zero_le a1
  obtain ⟨names, o2, e2, f2, ln, okn⟩ := names38 ns (k + 880) o1 a (by omega) (f1.less (by omega))
  obtain ⟨n, ss, o3, e3, f3, n1, n8, lss, oks⟩ := table38 ns (k + 180) o2 names (by omega) okn (f2.less (by omega))
  have ok : TblOk names (n : Int) ss := ⟨by omega, okn, by omega, by omega, by omega, oks⟩
  obtain ⟨o4, e4, f4⟩ := sets38 ns (k + 140) o3 names n n8 ss ok (f3.less (by omega))
  obtain ⟨rows, o5, e5, f5, lr, okr⟩ := rows38 ns k o4 names (n : Int) ss ok (f4.less (by omega))
  have hne := hf.ne
  have hne1 := f1.ne
  have hne2 := f2.ne
  have hne3 := f3.ne
  have hne4 := f4.ne
  have hne5 := f5.ne
  have rp := rep_ok ((sm_tbl ok).mono (by decide) (by decide))
  have q := eq_self (PyData.shown (tblE names (n : Int) ss))
  obtain ⟨s, el, rr, y5, y6, y7, y8, y9, q0, q1, q2⟩ := forL_inv (tg := tgN 5) (b := l_law_2) (fun rest s => ∃ (rr : List (List Mom)) (y5 y6 y7 y8 y9 : Option D), rest = rr.map rowE ∧ s = lwS ns o5 (some x) (some (tblE names (n : Int) ss)) (some (.str (PyData.shown (tblE names (n : Int) ss)))) y5 y6 y7 y8 y9 ∧ ∀ r ∈ rr, r.length ≤ 31 ∧ ∀ m ∈ r, MomOk m)
    (fun x' r s ⟨rr, y5, y6, y7, y8, y9, q0, q1, q2⟩ => by
      cases rr with
      | nil => cases q0
      | cons w rr =>
        cases q0
        subst q1
        obtain ⟨a, b, c, d, e, h⟩ := row_turn ns o5 hne5 names (n : Int) ss ok w (q2 w (.head _)).2 (q2 w (.head _)).1 (some x) (some (.str (PyData.shown (tblE names (n : Int) ss)))) y5 y6 y7 y8 y9
        exact ⟨_, h, rr, a, b, c, d, e, rfl, rfl, fun y my => q2 y (.tail _ my)⟩) (rows.map rowE) (lwS ns o5 (some x) (some (tblE names (n : Int) ss)) (some (.str (PyData.shown (tblE names (n : Int) ss)))) z5 z6 z7 z8 z9) ⟨rows, z5, z6, z7, z8, z9, rfl, rfl, okr⟩
  subst q1
  refine ⟨o5, some (tblE names (n : Int) ss), some (.str (PyData.shown (tblE names (n : Int) ss))), y5, y6, y7, y8, y9, ?_, f5⟩
  unfold l_law_1
  clear hf f1 f2 f3 f4 f5 ok okn oks okr a1 a2 n1 n8 lss q0 q2
  generalize PyData.shown (tblE names (n : Int) ss) = S at *
  generalize tblE names (n : Int) ss = N at *
  generalize rows.map rowE = RS at *
  generalize names.map PyData.str = NM at *
  cases z3 <;> cases z4 <;> simp only [lwS, Option.map_some, Option.map_none] at el ⊢ <;> walk_at "ev"
theorem law7 (ns : List Int) (hn : ns.length ≤ 63) : f_law [.d (.list (ns.map PyData.int))] = some (.ok (.d (.bool true)), []) := by
  have hfd := tape38 ns hn
  have f0 : FdT ns (4 * 900) (.lst [.list (ns.map PyData.int), .int 0, .int 0]) := ⟨0, 0, rfl, by decide, by decide, by decide⟩
  obtain ⟨s, e, o', z2, z3, z4, z5, z6, z7, z8, z9, q2, q3⟩ := forL_inv (tg := tgN 2) (b := l_law_1) (fun rest s => ∃ (o : MO) (z2 z3 z4 z5 z6 z7 z8 z9 : Option D), s = lwS ns o z2 z3 z4 z5 z6 z7 z8 z9 ∧ FdT ns (900 * rest.length) o)
    (fun x r s ⟨o, z2, z3, z4, z5, z6, z7, z8, z9, q2, q3⟩ => by
      subst q2
      obtain ⟨o', a, b, c, d, e, f, g, h, f'⟩ := law_turn ns (900 * r.length) o x z2 z3 z4 z5 z6 z7 z8 z9 (q3.less (by simp; omega))
      exact ⟨_, h, o', some x, a, b, c, d, e, f, g, rfl, f'⟩) [.int 0, .int 1, .int 2, .int 3] (lwS ns _ none none none none none none none none) ⟨_, none, none, none, none, none, none, none, none, rfl, f0⟩
  subst q2
  have go : f_law [.d (.list (ns.map PyData.int))] = fin 0 (b_law ⟨[some (.d (.list (ns.map PyData.int))), none, none, none, none, none, none, none, none, none], []⟩) := run_eq e_law rfl rfl (by decide)
  rw [go]
  unfold b_law
  have r6 : rangeL 0 4 = [.int 0, .int 1, .int 2, .int 3] := by kernel_rfl
  simp only [lwS, Option.map_none] at e
  clear go q3 f0
  walk_at "ev"
end K38

set_option Elab.async false
set_option linter.all false
set_option maxRecDepth 100000
namespace K38
open PySem L2 Pd
/-! ### the end -/
theorem sc__law_tape : FnScope d__law_tape.N ["_law_script"] (defScope (top 6)) := ⟨rfl, rfl, rfl, by decide +kernel, rfl, by decide +kernel, by decide +kernel⟩
theorem sc__law_draw : FnScope d__law_draw.N ["_law_tape_here", "_law_many"] (defScope (top 7)) := ⟨rfl, rfl, rfl, by decide +kernel, rfl, by decide +kernel, by decide +kernel⟩
theorem sc__law_moment : FnScope d__law_moment.N ["_law_tape_here", "_law_seen", "_law_few"] (defScope (top 9)) := ⟨rfl, rfl, rfl, by decide +kernel, rfl, by decide +kernel, by decide +kernel⟩
theorem sc__law_table : FnScope d__law_table.N ["_law_tape_here", "_law_seen", "_law_most", "_law_steps"] (defScope (top 10)) := ⟨rfl, rfl, rfl, by decide +kernel, rfl, by decide +kernel, by decide +kernel⟩
theorem sc__law_walked : FnScope d__law_walked.N ["_law_tape_here", "_law_table_here", "_law_many"] (defScope (top 11)) := ⟨rfl, rfl, rfl, by decide +kernel, rfl, by decide +kernel, by decide +kernel⟩
theorem sc__law_rows : FnScope d__law_rows.N ["_law_tape_here", "_law_table_here"] (defScope (top 15)) := ⟨rfl, rfl, rfl, by decide +kernel, rfl, by decide +kernel, by decide +kernel⟩
theorem sc__law_names : FnScope d__law_names.N ["_law_tape_here", "_law_many"] (defScope (top 8)) := ⟨rfl, rfl, rfl, by decide +kernel, rfl, by decide +kernel, by decide +kernel⟩
theorem sc_goes_on : FnScope d_goes_on.N ["table", "stands"] (defScope (top 2)) := ⟨rfl, rfl, rfl, by decide +kernel, rfl, by decide +kernel, by decide +kernel⟩
theorem sc_stands_behind : FnScope d_stands_behind.N ["table", "stands", "moment"] (defScope (top 1)) := ⟨rfl, rfl, rfl, by decide +kernel, rfl, by decide +kernel, by decide +kernel⟩
theorem sc__law_behind : FnScope d__law_behind.N ["_law_table_here", "_law_stands", "_law_moment_here"] (defScope (top 12)) := ⟨rfl, rfl, rfl, by decide +kernel, rfl, by decide +kernel, by decide +kernel⟩
theorem sc__law_sets_right : FnScope d__law_sets_right.N ["_law_tape_here", "_law_table_here"] (defScope (top 14)) := ⟨rfl, rfl, rfl, by decide +kernel, rfl, by decide +kernel, by decide +kernel⟩
theorem sc__law_breaks : FnScope d__law_breaks.N ["_law_table_here", "_law_row"] (defScope (top 13)) := ⟨rfl, rfl, rfl, by decide +kernel, rfl, by decide +kernel, by decide +kernel⟩
theorem sc_table_breaks : FnScope d_table_breaks.N ["table", "row"] (defScope (top 3)) := ⟨rfl, rfl, rfl, by decide +kernel, rfl, by decide +kernel, by decide +kernel⟩
theorem sc_table_has : FnScope d_table_has.N ["table", "row"] (defScope (top 4)) := ⟨rfl, rfl, rfl, by decide +kernel, rfl, by decide +kernel, by decide +kernel⟩
theorem sc_law : FnScope d_law.N ["_law_script"] (defScope (top 16)) := ⟨rfl, rfl, rfl, by decide +kernel, rfl, by decide +kernel, by decide +kernel⟩
theorem ends {P : Program} {w : World} {K : PySem.W.Frag} {h : Heap} {mg : Str → Option Value} {fa f1 f2 f3 f4 f5 f6 f7 f8 f9 f10 f11 f12 f13 f14 f15  : Addr} (X : K.In h) (G : h.Ns mainGlobals mg) (hfa : mg "law" = some (.ref fa))
    {od1 an1 od2 an2 od3 an3 od4 an4 od5 an5 od6 an6 od7 an7 od8 an8 od9 an9 od10 an10 od11 an11 od12 an12 od13 an13 od14 an14 od15 an15 : Option Addr} {sl1 sl2 sl3 sl4 sl5 sl6 sl7 sl8 sl9 sl10 sl11 sl12 sl13 sl14 sl15 : Array (Option Value)} {oc1 kV1 dc1 pm1 cd1 ct1 oc2 kV2 dc2 pm2 cd2 ct2 oc3 kV3 dc3 pm3 cd3 ct3 oc4 kV4 dc4 pm4 cd4 ct4 oc5 kV5 dc5 pm5 cd5 ct5 oc6 kV6 dc6 pm6 cd6 ct6 oc7 kV7 dc7 pm7 cd7 ct7 oc8 kV8 dc8 pm8 cd8 ct8 oc9 kV9 dc9 pm9 cd9 ct9 oc10 kV10 dc10 pm10 cd10 ct10 oc11 kV11 dc11 pm11 cd11 ct11 oc12 kV12 dc12 pm12 cd12 ct12 oc13 kV13 dc13 pm13 cd13 ct13 oc14 kV14 dc14 pm14 cd14 ct14 oc15 kV15 dc15 pm15 cd15 ct15 : Value}
    (a1 : PySem.W.nsIn K mainGlobals "_law_tape" = some (some (.ref f1))) (l1 : K.lookup f1 = some ⟨oc1, od1, .func (PySem.W.fnOf "_law_tape" "_law_tape" (defArgs (top 6)) (defBody (top 6)) (defScope (top 6)) .none kV1 dc1 pm1 an1 cd1 ct1), sl1⟩) (c1 : PySem.W.codeIn K cd1 "_law_tape" = true) (k1 : PySem.W.keepIn K (.ref f1) = true)
    (a2 : PySem.W.nsIn K mainGlobals "_law_draw" = some (some (.ref f2))) (l2 : K.lookup f2 = some ⟨oc2, od2, .func (PySem.W.fnOf "_law_draw" "_law_draw" (defArgs (top 7)) (defBody (top 7)) (defScope (top 7)) .none kV2 dc2 pm2 an2 cd2 ct2), sl2⟩) (c2 : PySem.W.codeIn K cd2 "_law_draw" = true) (k2 : PySem.W.keepIn K (.ref f2) = true)
    (a3 : PySem.W.nsIn K mainGlobals "_law_moment" = some (some (.ref f3))) (l3 : K.lookup f3 = some ⟨oc3, od3, .func (PySem.W.fnOf "_law_moment" "_law_moment" (defArgs (top 9)) (defBody (top 9)) (defScope (top 9)) .none kV3 dc3 pm3 an3 cd3 ct3), sl3⟩) (c3 : PySem.W.codeIn K cd3 "_law_moment" = true) (k3 : PySem.W.keepIn K (.ref f3) = true)
    (a4 : PySem.W.nsIn K mainGlobals "_law_table" = some (some (.ref f4))) (l4 : K.lookup f4 = some ⟨oc4, od4, .func (PySem.W.fnOf "_law_table" "_law_table" (defArgs (top 10)) (defBody (top 10)) (defScope (top 10)) .none kV4 dc4 pm4 an4 cd4 ct4), sl4⟩) (c4 : PySem.W.codeIn K cd4 "_law_table" = true) (k4 : PySem.W.keepIn K (.ref f4) = true)
    (a5 : PySem.W.nsIn K mainGlobals "_law_walked" = some (some (.ref f5))) (l5 : K.lookup f5 = some ⟨oc5, od5, .func (PySem.W.fnOf "_law_walked" "_law_walked" (defArgs (top 11)) (defBody (top 11)) (defScope (top 11)) .none kV5 dc5 pm5 an5 cd5 ct5), sl5⟩) (c5 : PySem.W.codeIn K cd5 "_law_walked" = true) (k5 : PySem.W.keepIn K (.ref f5) = true)
    (a6 : PySem.W.nsIn K mainGlobals "_law_rows" = some (some (.ref f6))) (l6 : K.lookup f6 = some ⟨oc6, od6, .func (PySem.W.fnOf "_law_rows" "_law_rows" (defArgs (top 15)) (defBody (top 15)) (defScope (top 15)) .none kV6 dc6 pm6 an6 cd6 ct6), sl6⟩) (c6 : PySem.W.codeIn K cd6 "_law_rows" = true) (k6 : PySem.W.keepIn K (.ref f6) = true)
    (a7 : PySem.W.nsIn K mainGlobals "_law_names" = some (some (.ref f7))) (l7 : K.lookup f7 = some ⟨oc7, od7, .func (PySem.W.fnOf "_law_names" "_law_names" (defArgs (top 8)) (defBody (top 8)) (defScope (top 8)) .none kV7 dc7 pm7 an7 cd7 ct7), sl7⟩) (c7 : PySem.W.codeIn K cd7 "_law_names" = true) (k7 : PySem.W.keepIn K (.ref f7) = true)
    (a8 : PySem.W.nsIn K mainGlobals "goes_on" = some (some (.ref f8))) (l8 : K.lookup f8 = some ⟨oc8, od8, .func (PySem.W.fnOf "goes_on" "goes_on" (defArgs (top 2)) (defBody (top 2)) (defScope (top 2)) .none kV8 dc8 pm8 an8 cd8 ct8), sl8⟩) (c8 : PySem.W.codeIn K cd8 "goes_on" = true) (k8 : PySem.W.keepIn K (.ref f8) = true)
    (a9 : PySem.W.nsIn K mainGlobals "stands_behind" = some (some (.ref f9))) (l9 : K.lookup f9 = some ⟨oc9, od9, .func (PySem.W.fnOf "stands_behind" "stands_behind" (defArgs (top 1)) (defBody (top 1)) (defScope (top 1)) .none kV9 dc9 pm9 an9 cd9 ct9), sl9⟩) (c9 : PySem.W.codeIn K cd9 "stands_behind" = true) (k9 : PySem.W.keepIn K (.ref f9) = true)
    (a10 : PySem.W.nsIn K mainGlobals "_law_behind" = some (some (.ref f10))) (l10 : K.lookup f10 = some ⟨oc10, od10, .func (PySem.W.fnOf "_law_behind" "_law_behind" (defArgs (top 12)) (defBody (top 12)) (defScope (top 12)) .none kV10 dc10 pm10 an10 cd10 ct10), sl10⟩) (c10 : PySem.W.codeIn K cd10 "_law_behind" = true) (k10 : PySem.W.keepIn K (.ref f10) = true)
    (a11 : PySem.W.nsIn K mainGlobals "_law_sets_right" = some (some (.ref f11))) (l11 : K.lookup f11 = some ⟨oc11, od11, .func (PySem.W.fnOf "_law_sets_right" "_law_sets_right" (defArgs (top 14)) (defBody (top 14)) (defScope (top 14)) .none kV11 dc11 pm11 an11 cd11 ct11), sl11⟩) (c11 : PySem.W.codeIn K cd11 "_law_sets_right" = true) (k11 : PySem.W.keepIn K (.ref f11) = true)
    (a12 : PySem.W.nsIn K mainGlobals "_law_breaks" = some (some (.ref f12))) (l12 : K.lookup f12 = some ⟨oc12, od12, .func (PySem.W.fnOf "_law_breaks" "_law_breaks" (defArgs (top 13)) (defBody (top 13)) (defScope (top 13)) .none kV12 dc12 pm12 an12 cd12 ct12), sl12⟩) (c12 : PySem.W.codeIn K cd12 "_law_breaks" = true) (k12 : PySem.W.keepIn K (.ref f12) = true)
    (a13 : PySem.W.nsIn K mainGlobals "table_breaks" = some (some (.ref f13))) (l13 : K.lookup f13 = some ⟨oc13, od13, .func (PySem.W.fnOf "table_breaks" "table_breaks" (defArgs (top 3)) (defBody (top 3)) (defScope (top 3)) .none kV13 dc13 pm13 an13 cd13 ct13), sl13⟩) (c13 : PySem.W.codeIn K cd13 "table_breaks" = true) (k13 : PySem.W.keepIn K (.ref f13) = true)
    (a14 : PySem.W.nsIn K mainGlobals "table_has" = some (some (.ref f14))) (l14 : K.lookup f14 = some ⟨oc14, od14, .func (PySem.W.fnOf "table_has" "table_has" (defArgs (top 4)) (defBody (top 4)) (defScope (top 4)) .none kV14 dc14 pm14 an14 cd14 ct14), sl14⟩) (c14 : PySem.W.codeIn K cd14 "table_has" = true) (k14 : PySem.W.keepIn K (.ref f14) = true)
    (a15 : PySem.W.nsIn K mainGlobals "law" = some (some (.ref f15))) (l15 : K.lookup f15 = some ⟨oc15, od15, .func (PySem.W.fnOf "law" "law" (defArgs (top 16)) (defBody (top 16)) (defScope (top 16)) .none kV15 dc15 pm15 an15 cd15 ct15), sl15⟩) (c15 : PySem.W.codeIn K cd15 "law" = true) (k15 : PySem.W.keepIn K (.ref f15) = true)
    (z1 : PySem.W.nsIn K mainGlobals "enumerate" = some none)
    (z2 : PySem.W.nsIn K mainGlobals "isinstance" = some none)
    (z3 : PySem.W.nsIn K mainGlobals "len" = some none)
    (z4 : PySem.W.nsIn K mainGlobals "list" = some none)
    (z5 : PySem.W.nsIn K mainGlobals "range" = some none)
    (z6 : PySem.W.nsIn K mainGlobals "repr" = some none)
    (z7 : PySem.W.nsIn K mainGlobals "set" = some none)
    (z8 : PySem.W.nsIn K mainGlobals "sorted" = some none)
    (z9 : PySem.W.nsIn K mainGlobals "tuple" = some none)
    : ∃ fd : FuncData, (∀ (s : Shared) (u : Value), BindsTo s fd ⟨[u], []⟩ [("_law_script", u)]) ∧ ∀ base : Heap, K.In base → base.Ns mainGlobals mg → FnG P w K mg base 15 fa fd ["_law_script"] (spF K 1 f_law) := by
  have e := hfa.symm.trans (PySem.W.mg_of X G a15)
  cases e
  have F1 := fun_mk (st := top 6) l1 c1 k1
  have F2 := fun_mk (st := top 7) l2 c2 k2
  have F3 := fun_mk (st := top 9) l3 c3 k3
  have F4 := fun_mk (st := top 10) l4 c4 k4
  have F5 := fun_mk (st := top 11) l5 c5 k5
  have F6 := fun_mk (st := top 15) l6 c6 k6
  have F7 := fun_mk (st := top 8) l7 c7 k7
  have F8 := fun_mk (st := top 2) l8 c8 k8
  have F9 := fun_mk (st := top 1) l9 c9 k9
  have F10 := fun_mk (st := top 12) l10 c10 k10
  have F11 := fun_mk (st := top 14) l11 c11 k11
  have F12 := fun_mk (st := top 13) l12 c12 k12
  have F13 := fun_mk (st := top 3) l13 c13 k13
  have F14 := fun_mk (st := top 4) l14 c14 k14
  have F15 := fun_mk (st := top 16) l15 c15 k15
  refine ⟨PySem.W.fnOf "law" "law" (defArgs (top 16)) (defBody (top 16)) (defScope (top 16)) .none kV15 dc15 pm15 an15 cd15 ct15, fun s v => .of_eq rfl, fun base _ _ => ?_⟩
  have T0 : Top P w K mg base G0 0 := by
    refine ⟨fun x d hx => ?_, fun x hx => ?_, fun x md ft hx => nomatch hx⟩
    · have hx : ([] : List (Str × D)).lookup x = some d := hx
      cases hx
    · have hx : (["enumerate", "isinstance", "len", "list", "range", "repr", "set", "sorted", "tuple"] : List Str).elem x = true := hx
      simp only [List.elem_eq_mem, decide_eq_true_eq, List.mem_cons, List.not_mem_nil, or_false] at hx
      rcases hx with rfl | rfl | rfl | rfl | rfl | rfl | rfl | rfl | rfl
      · exact PySem.W.mg_none_of X G z1
      · exact PySem.W.mg_none_of X G z2
      · exact PySem.W.mg_none_of X G z3
      · exact PySem.W.mg_none_of X G z4
      · exact PySem.W.mg_none_of X G z5
      · exact PySem.W.mg_none_of X G z6
      · exact PySem.W.mg_none_of X G z7
      · exact PySem.W.mg_none_of X G z8
      · exact PySem.W.mg_none_of X G z9
  have T1 : Top P w K mg base G__law_tape 1 := Top.add (n := 60) (d := d__law_tape) (ps := ["_law_script"]) (md := [false]) T0 F1 (PySem.W.mg_of X G a1) (sc__law_tape) rfl (F1.binds (ps := ["_law_script"]) fun _ _ _ _ _ _ us hl => match us, hl with | [_], _ => rfl)
  have T2 : Top P w K mg base G__law_draw 2 := Top.add (n := 60) (d := d__law_draw) (ps := ["_law_tape_here", "_law_many"]) (md := [true, false]) T1 F2 (PySem.W.mg_of X G a2) (sc__law_draw) rfl (F2.binds (ps := ["_law_tape_here", "_law_many"]) fun _ _ _ _ _ _ us hl => match us, hl with | [_, _], _ => rfl)
  have T3 : Top P w K mg base G__law_moment 3 := Top.add (n := 60) (d := d__law_moment) (ps := ["_law_tape_here", "_law_seen", "_law_few"]) (md := [true, false, false]) T2 F3 (PySem.W.mg_of X G a3) (sc__law_moment) rfl (F3.binds (ps := ["_law_tape_here", "_law_seen", "_law_few"]) fun _ _ _ _ _ _ us hl => match us, hl with | [_, _, _], _ => rfl)
  have T4 : Top P w K mg base G__law_table 4 := Top.add (n := 60) (d := d__law_table) (ps := ["_law_tape_here", "_law_seen", "_law_most", "_law_steps"]) (md := [true, false, false, false]) T3 F4 (PySem.W.mg_of X G a4) (sc__law_table) rfl (F4.binds (ps := ["_law_tape_here", "_law_seen", "_law_most", "_law_steps"]) fun _ _ _ _ _ _ us hl => match us, hl with | [_, _, _, _], _ => rfl)
  have T5 : Top P w K mg base G__law_walked 5 := Top.add (n := 60) (d := d__law_walked) (ps := ["_law_tape_here", "_law_table_here", "_law_many"]) (md := [true, false, false]) T4 F5 (PySem.W.mg_of X G a5) (sc__law_walked) rfl (F5.binds (ps := ["_law_tape_here", "_law_table_here", "_law_many"]) fun _ _ _ _ _ _ us hl => match us, hl with | [_, _, _], _ => rfl)
  have T6 : Top P w K mg base G__law_rows 6 := Top.add (n := 60) (d := d__law_rows) (ps := ["_law_tape_here", "_law_table_here"]) (md := [true, false]) T5 F6 (PySem.W.mg_of X G a6) (sc__law_rows) rfl (F6.binds (ps := ["_law_tape_here", "_law_table_here"]) fun _ _ _ _ _ _ us hl => match us, hl with | [_, _], _ => rfl)
  have T7 : Top P w K mg base G__law_names 7 := Top.add (n := 60) (d := d__law_names) (ps := ["_law_tape_here", "_law_many"]) (md := [true, false]) T6 F7 (PySem.W.mg_of X G a7) (sc__law_names) rfl (F7.binds (ps := ["_law_tape_here", "_law_many"]) fun _ _ _ _ _ _ us hl => match us, hl with | [_, _], _ => rfl)
  have T8 : Top P w K mg base G_goes_on 8 := Top.add (n := 60) (d := d_goes_on) (ps := ["table", "stands"]) (md := [false, false]) T7 F8 (PySem.W.mg_of X G a8) (sc_goes_on) rfl (F8.binds (ps := ["table", "stands"]) fun _ _ _ _ _ _ us hl => match us, hl with | [_, _], _ => rfl)
  have T9 : Top P w K mg base G_stands_behind 9 := Top.add (n := 60) (d := d_stands_behind) (ps := ["table", "stands", "moment"]) (md := [false, false, false]) T8 F9 (PySem.W.mg_of X G a9) (sc_stands_behind) rfl (F9.binds (ps := ["table", "stands", "moment"]) fun _ _ _ _ _ _ us hl => match us, hl with | [_, _, _], _ => rfl)
  have T10 : Top P w K mg base G__law_behind 10 := Top.add (n := 60) (d := d__law_behind) (ps := ["_law_table_here", "_law_stands", "_law_moment_here"]) (md := [false, false, false]) T9 F10 (PySem.W.mg_of X G a10) (sc__law_behind) rfl (F10.binds (ps := ["_law_table_here", "_law_stands", "_law_moment_here"]) fun _ _ _ _ _ _ us hl => match us, hl with | [_, _, _], _ => rfl)
  have T11 : Top P w K mg base G__law_sets_right 11 := Top.add (n := 60) (d := d__law_sets_right) (ps := ["_law_tape_here", "_law_table_here"]) (md := [true, false]) T10 F11 (PySem.W.mg_of X G a11) (sc__law_sets_right) rfl (F11.binds (ps := ["_law_tape_here", "_law_table_here"]) fun _ _ _ _ _ _ us hl => match us, hl with | [_, _], _ => rfl)
  have T12 : Top P w K mg base G__law_breaks 12 := Top.add (n := 60) (d := d__law_breaks) (ps := ["_law_table_here", "_law_row"]) (md := [false, false]) T11 F12 (PySem.W.mg_of X G a12) (sc__law_breaks) rfl (F12.binds (ps := ["_law_table_here", "_law_row"]) fun _ _ _ _ _ _ us hl => match us, hl with | [_, _], _ => rfl)
  have T13 : Top P w K mg base G_table_breaks 13 := Top.add (n := 60) (d := d_table_breaks) (ps := ["table", "row"]) (md := [false, false]) T12 F13 (PySem.W.mg_of X G a13) (sc_table_breaks) rfl (F13.binds (ps := ["table", "row"]) fun _ _ _ _ _ _ us hl => match us, hl with | [_, _], _ => rfl)
  have T14 : Top P w K mg base G_table_has 14 := Top.add (n := 60) (d := d_table_has) (ps := ["table", "row"]) (md := [false, false]) T13 F14 (PySem.W.mg_of X G a14) (sc_table_has) rfl (F14.binds (ps := ["table", "row"]) fun _ _ _ _ _ _ us hl => match us, hl with | [_, _], _ => rfl)
  exact def_ok (n := 60) (d := d_law) (ps := ["_law_script"]) T14 F15 sc_law
end K38

open PySem PySem.W PyProof.Rows in
set_option maxRecDepth 100000 in
set_option maxHeartbeats 0 in
theorem PySem.Challenge.cw_mannerports_k38_rows_of_tables_holds : PySem.Challenge.rw_mannerports_k38_rows_of_tables.Holds := by
  w_on; o_law; k_head; (case hw => w_witness2)
  k_fill
  refine Pd.walk_data (l := PySem.Challenge.rw_mannerports_k38_rows_of_tables) (n := 63) (k := 15) (x := "_law_script") (ft := K38.f_law) rfl (by decide) rfl ⟨rfl, by decide, by decide⟩ rfl (fun w h Y => PySem.W.kIn_of Y) ?F (fun ns hn => K38.law7 ns hn)
  case F =>
    intro w mg fa h KX G hmg
    refine' K38.ends KX G hmg ?a1 ?l1 ?c1 ?k1 ?a2 ?l2 ?c2 ?k2 ?a3 ?l3 ?c3 ?k3 ?a4 ?l4 ?c4 ?k4 ?a5 ?l5 ?c5 ?k5 ?a6 ?l6 ?c6 ?k6 ?a7 ?l7 ?c7 ?k7 ?a8 ?l8 ?c8 ?k8 ?a9 ?l9 ?c9 ?k9 ?a10 ?l10 ?c10 ?k10 ?a11 ?l11 ?c11 ?k11 ?a12 ?l12 ?c12 ?k12 ?a13 ?l13 ?c13 ?k13 ?a14 ?l14 ?c14 ?k14 ?a15 ?l15 ?c15 ?k15 ?z1 ?z2 ?z3 ?z4 ?z5 ?z6 ?z7 ?z8 ?z9
    (case a1 => k_is)
    (case l1 => k_is)
    (case c1 => k_is)
    (case k1 => k_is)
    (case a2 => k_is)
    (case l2 => k_is)
    (case c2 => k_is)
    (case k2 => k_is)
    (case a3 => k_is)
    (case l3 => k_is)
    (case c3 => k_is)
    (case k3 => k_is)
    (case a4 => k_is)
    (case l4 => k_is)
    (case c4 => k_is)
    (case k4 => k_is)
    (case a5 => k_is)
    (case l5 => k_is)
    (case c5 => k_is)
    (case k5 => k_is)
    (case a6 => k_is)
    (case l6 => k_is)
    (case c6 => k_is)
    (case k6 => k_is)
    (case a7 => k_is)
    (case l7 => k_is)
    (case c7 => k_is)
    (case k7 => k_is)
    (case a8 => k_is)
    (case l8 => k_is)
    (case c8 => k_is)
    (case k8 => k_is)
    (case a9 => k_is)
    (case l9 => k_is)
    (case c9 => k_is)
    (case k9 => k_is)
    (case a10 => k_is)
    (case l10 => k_is)
    (case c10 => k_is)
    (case k10 => k_is)
    (case a11 => k_is)
    (case l11 => k_is)
    (case c11 => k_is)
    (case k11 => k_is)
    (case a12 => k_is)
    (case l12 => k_is)
    (case c12 => k_is)
    (case k12 => k_is)
    (case a13 => k_is)
    (case l13 => k_is)
    (case c13 => k_is)
    (case k13 => k_is)
    (case a14 => k_is)
    (case l14 => k_is)
    (case c14 => k_is)
    (case k14 => k_is)
    (case a15 => k_is)
    (case l15 => k_is)
    (case c15 => k_is)
    (case k15 => k_is)
    (case z1 => k_is)
    (case z2 => k_is)
    (case z3 => k_is)
    (case z4 => k_is)
    (case z5 => k_is)
    (case z6 => k_is)
    (case z7 => k_is)
    (case z8 => k_is)
    (case z9 => k_is)
