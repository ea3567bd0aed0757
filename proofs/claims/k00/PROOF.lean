import PyProof.Rows.All
import Wide.All
import OpenK.AllK
import Wide.FinOn
import HandS.ForMost
import HandS.SetKeys
import HandS.SetFor
import HandS.SetBool
import HandS.Deep
import KE.SortData
import HandS.Exc
import HandS.ExcIs
import HandS.Lambda
import HandS.CallLocal
import HandS.Evl
import HandS.Walk
import HandS.IsInst
import HandS.Zip
import HandS.TupAny
import HandS.TupMul
import HandS.TupLe
import HandS.Style
import PySem.Challenge.RW_queryshown_k00_schemas_and_words
import HandS.WordsExc
import HandS.Codes
import KE.Datum
import KE.KDictPairs
import HandS.Conv
import PyProof.ListStr
import PyProof.StrOps2
import KE.KRevSl
import HandS.Wide
import HandS.EndOwn
set_option Elab.async false
set_option linter.all false
set_option maxRecDepth 100000
set_option maxHeartbeats 4000000
/-! Sets of ints and texts that can be walked: set(xs), len, sorted. -/
namespace Qs
open PySem PySem.Spec PyProof.Rows L2
/-- the key that a value is -/
def kof (v : Value) : Key := match v with
  | .int k _ => .inl k
  | .str x _ => .inr x
  | _ => .inl 0
/-- an entry of such a set -/
def Ent (w : World) (e : Int × Value) : Prop := ∃ k u, e.2 = u ∧ RelV (kV k) u ∧ e.1 = keyH w k
theorem kof_rel {k : Key} {u : Value} (r : RelV (kV k) u) : kof u = k := by
  cases k with
  | inl i => obtain ⟨t, rfl⟩ := r; rfl
  | inr x => obtain ⟨t, rfl⟩ := r; rfl
def ent1 (e : Int × Value) : Key := kof e.2
/-- at a stands the set of the keys L (each once), its table fit to be walked -/
def SetM (w : World) (h : Heap) (a : Addr) (L : List Key) : Prop :=
  ∃ o es ep t, h.get? a = some o ∧ o.ExactSet ∧ o.data = .set es ep t ∧ (∀ e ∈ es.toList, Ent w e) ∧ (es.toList.map ent1).Perm L ∧ L.Nodup ∧
    es.size < scanBound ∧ t.fits es.size = true ∧ Ris t.place.toList ∧ (w.params.followText "set-order" = true ∨ t.led = true)
section
variable {P : Program} {w : World} {h h' : Heap} {a : Addr} {L L' : List Key}
theorem SetM.move (R : SetM w h a L) (k : ∀ o, h.get? a = some o → h'.get? a = some o) : SetM w h' a L := by
  obtain ⟨o, es, ep, t, ho, r⟩ := R
  exact ⟨o, es, ep, t, k o ho, r⟩
theorem ent_elems {l : List (Int × Value)} (g : ∀ e ∈ l, Ent w e) : ElemsOf (mixKind P w) l := fun e he => by
  obtain ⟨k, u, h1, r, h2⟩ := g e he
  subst h1
  exact ⟨⟨k, kV_is r, h2⟩, key_scan r⟩
theorem ent_is {e : Int × Value} (g : Ent w e) (k : Key) : (mixKind P w).is k e.2 = true ↔ ent1 e = k := by
  obtain ⟨k0, u, h1, r, _⟩ := g
  subst h1
  have e0 : ent1 e = k0 := kof_rel r
  rw [e0]
  constructor
  · intro q
    exact (mixKind P w).inj _ _ _ (kV_is r) q
  · intro q
    subst q
    exact kV_is r
theorem SetM.len (R : SetM w h a L) : ∃ o es ep t, h.get? a = some o ∧ o.ExactSet ∧ o.data = .set es ep t ∧ t.fits es.size = true ∧ es.size = L.length ∧ es.size < scanBound := by
  obtain ⟨o, es, ep, t, ho, hx, hd, g, pm, nd, hb, hf, _⟩ := R
  refine ⟨o, es, ep, t, ho, hx, hd, hf, ?_, hb⟩
  have q := pm.length_eq
  rw [List.length_map, Array.length_toList] at q
  exact q
end
section
variable {P : Program} {w : World} {A : Around} {E : Value → Shared → Prop} {s : Shared} {a : Addr} {L : List Key}
/-- the table is laid anew behind an entry more, if it has to be -/
theorem grow_tail {g : Bool → Sem Unit} (hg : ∀ (b : Bool) (s1 : Shared) (Q' : Unit → Shared → Prop), Q' () s1 → wpAny (model P w) A (g b) Q' E s1)
    {o : Obj} {es : Array (Int × Value)} {ep : Nat} {t : SetTable} (ho : s.heap.get? a = some o) (hex : o.ExactSet) (hd : o.data = .set es ep t)
    {fs : Array (Int × Value)} {u : SetTable} (g1 : ∀ e ∈ fs.toList, Ent w e) (pm : (fs.toList.map ent1).Perm L) (nd : L.Nodup)
    (hb : fs.size < scanBound) (hf : u.fits fs.size = true) (hr : Ris u.place.toList) (hl : w.params.followText "set-order" = true ∨ u.led = true) {was : Bool} {R : Option Bool → Shared → Prop}
    (hR : ∀ h', Heap.SameBut a s.heap h' → SetM w h' a L → R (some true) { s with heap := h' }) :
    wpAny (model P w) A (do
        storeSet a fs u
        if (!was && u.tooFull) = true then do
            g (relayAll u fs (SetTable.grown fs.size)).2.2
            storeSet a (relayAll u fs (SetTable.grown fs.size)).1 (relayAll u fs (SetTable.grown fs.size)).2.1
            pure (some true)
          else pure (some true)) R E s := by
  refine wpAny_bind (wpAny_storeSet_of ho hd ?_ (fits_of_scanBound hb))
  have hq := PpSet.storeB_at (es' := fs) (t' := u) ho hd
  have sb := Heap.SameBut.update s.heap a (Obj.putSet fs u)
  split
  · have p3 := relayAll_perm u fs (SetTable.grown fs.size)
    have f3 := relayAll_fits u fs (SetTable.grown fs.size)
    have r3 := relayAll_ris u fs (SetTable.grown fs.size)
    have l3 := relayAll_led u fs (SetTable.grown fs.size)
    generalize relayAll u fs (SetTable.grown fs.size) = Z at p3 f3 r3 l3 ⊢
    obtain ⟨fs2, u3, gv⟩ := Z
    dsimp only at p3 f3 r3 l3 ⊢
    have hz : fs2.size = fs.size := by rw [← Array.length_toList, p3.length_eq, Array.length_toList]
    have hb2 : fs2.size < scanBound := by rw [hz]; exact hb
    refine wpAny_bind (hg _ _ _ (wpAny_bind (wpAny_storeSet_of hq rfl ?_ (fits_of_scanBound hb2))))
    have hq2 := PpSet.storeB_at (es' := fs2) (t' := u3) hq rfl
    refine wpAny_pure (hR _ (sb.trans (Heap.SameBut.update _ a _)) ⟨_, fs2, _, u3, hq2, hex, rfl, fun e he => g1 e (p3.mem_iff.mp he), (p3.map ent1).trans pm, nd, hb2, f3, r3, ?_⟩)
    rcases hl with z | z
    · exact .inl z
    · exact .inr (by rw [l3]; exact z)
  · exact wpAny_pure (hR _ sb ⟨_, fs, _, u, hq, hex, rfl, g1, pm, nd, hb, hf, hr, hl⟩)
/-- a key is put in -/
theorem put_key {k : Key} {v : Value} (rv : RelV (kV k) v) {Q : Bool → Shared → Prop} (R : SetM w s.heap a L) (room : L.length + 1 < scanBound)
    (hQ : ∀ b h' L', Heap.SameBut a s.heap h' → SetM w h' a L' → (∀ j, j ∈ L' ↔ j = k ∨ j ∈ L) → L'.length ≤ L.length + 1 → Q b { s with heap := h' }) :
    wpAny (model P w) A (setAddHashed a v ((mixKind P w).hash k)) Q E s := by
  obtain ⟨o, es, ep, t, ho, hex, hd, g, pL, nd, hb, hf, hr, hl⟩ := R
  have hkey : (mixKind P w).is k v = true := kV_is rv
  have hsc : v.scannable = true := key_scan rv
  have hel : ElemsOf (mixKind P w) es.toList := ent_elems g
  have hin : ∀ j : Key, j ∈ L ↔ ∃ e ∈ es.toList, (mixKind P w).is j e.2 = true := fun j => by
    rw [← pL.mem_iff, List.mem_map]
    constructor
    · rintro ⟨e, he, q⟩; exact ⟨e, he, (ent_is (g e he) j).2 q⟩
    · rintro ⟨e, he, q⟩; exact ⟨e, he, (ent_is (g e he) j).1 q⟩
  unfold setAddHashed setAddHashedIn
  refine wpAny_holding (wpAny_bind (wpAny_setState_of ho hd hf ?_))
  dsimp only
  rw [byScan_of hsc hb hel, if_pos rfl]
  unfold setAddByScan
  refine wpAny_bind (wpAny_bind (wpAny_rule (wpAny_bind (wpAny_setScan_of hkey ho hd hf hel ?_))))
  cases hfi : List.findIdx? (fun e => (mixKind P w).is k e.2) es.toList with
  | some j =>
    dsimp only
    obtain ⟨hj, pj, _⟩ := List.findIdx?_eq_some_iff_getElem.mp hfi
    have hk : k ∈ L := (hin k).2 ⟨es.toList[j], List.getElem_mem hj, pj⟩
    exact wpAny_pure (wpAny_pure (hQ _ s.heap L (Heap.SameBut.refl a s.heap) ⟨o, es, ep, t, ho, hex, hd, g, pL, nd, hb, hf, hr, hl⟩ (fun j => ⟨.inr, fun z => z.elim (fun e => e ▸ hk) id⟩) (Nat.le_succ _)))
  | none =>
    dsimp only
    have hk : k ∉ L := fun z => by
      obtain ⟨e, he, q⟩ := (hin k).1 z
      have c := List.findIdx?_eq_none_iff.mp hfi e he
      rw [q] at c
      cases c
    have hgw : ∀ (b : Bool) (s1 : Shared) (Q' : Unit → Shared → Prop), Q' () s1 → wpAny (model P w) A (match b with | true => rule "set.scan.the-table-gave-way" | false => pure ()) Q' E s1 :=
      fun b s1 Q' q => by cases b <;> first | exact wpAny_pure q | exact wpAny_rule q
    have p1 := layNew_perm t es ((mixKind P w).hash k) v
    have f1 := layNew_fits t es ((mixKind P w).hash k) v
    have r1 := layNew_ris t es ((mixKind P w).hash k) v hr
    have l1 := layNew_led t es ((mixKind P w).hash k) v
    generalize layNew t es ((mixKind P w).hash k) v = Z at p1 f1 r1 l1 ⊢
    obtain ⟨fs, u, was, gv⟩ := Z
    dsimp only at p1 f1 r1 l1 ⊢
    rw [Array.toList_push] at p1
    have pc : fs.toList.Perm (((mixKind P w).hash k, v) :: es.toList) := p1.trans (List.perm_append_singleton _ _)
    have ek : ent1 ((mixKind P w).hash k, v) = k := kof_rel rv
    have pk : (fs.toList.map ent1).Perm (k :: L) := by
      have q := pc.map ent1
      rw [List.map_cons, ek] at q
      exact q.trans (pL.cons k)
    have g1 : ∀ e ∈ fs.toList, Ent w e := fun e he => by
      rcases List.mem_cons.mp (pc.mem_iff.mp he) with z | z
      · rw [z]; exact ⟨k, v, rfl, rv, rfl⟩
      · exact g e z
    have nd1 : (k :: L).Nodup := List.nodup_cons.mpr ⟨hk, nd⟩
    have hsz : fs.size = L.length + 1 := by
      have q := pk.length_eq
      rw [List.length_map, Array.length_toList, List.length_cons] at q
      exact q
    have hb1 : fs.size < scanBound := by rw [hsz]; exact room
    have hled : w.params.followText "set-order" = true ∨ u.led = true := by
      rcases hl with z | z
      · exact .inl z
      · exact .inr (by rw [l1]; exact z)
    have fin : ∀ h', Heap.SameBut a s.heap h' → SetM w h' a (k :: L) → Q true { s with heap := h' } := fun h' sb r => hQ _ h' _ sb r (fun j => List.mem_cons) (Nat.le_refl _)
    refine wpAny_bind (hgw _ _ _ ?_)
    split
    · refine wpAny_bind ?_
      rw [hashByValue_scannable 8 hsc]
      refine wpAny_pure (grow_tail (L := k :: L) hgw ho hex hd g1 pk nd1 hb1 ?_ ?_ ?_ fun h' sb r => ?_)
      · first | (split <;> first | exact f1 | exact SetTable.fits_plain_off f1) | exact f1
      · first | (split <;> exact r1) | exact r1
      · first | (split <;> exact hled) | exact hled
      · dsimp only; exact wpAny_pure (fin h' sb r)
    · refine wpAny_bind (wpAny_pure ?_)
      rw [if_pos rfl]
      refine grow_tail (L := k :: L) hgw ho hex hd g1 pk nd1 hb1 f1 r1 hled fun h' sb r => ?_
      dsimp only; exact wpAny_pure (fin h' sb r)
/-- a new set, without members -/
theorem setM_new {h : Heap} (ho : h.get? a = some { cls := .type "set", dict := none, data := .set #[] 0 (.fresh 0 0 (!w.params.followText "set-order")) }) : SetM w h a [] := by
  refine ⟨_, #[], 0, _, ho, ⟨rfl, rfl, rfl⟩, rfl, (fun e he => by simp at he), List.Perm.refl _, List.nodup_nil, (by decide), (by rfl), List.Pairwise.nil, ?_⟩
  show _ ∨ (!w.params.followText "set-order") = true
  cases w.params.followText "set-order"
  · exact .inr rfl
  · exact .inl rfl
/-- all that an iterator gives is put in -/
theorem fill_loop {I : Addr} {fp wr : List Addr} {G : Array GenState → Array GenState → Prop} {n : Nat} {Pv : Nat → Value → Prop} {St : Nat → Shared → Prop} {R : Result → Shared → Prop}
    (W : WalksS P w A.in1 I fp wr G n Pv St) (S : Addr) (hSf : S ∉ fp) (ks : List Key) (hn : n = ks.length) (hb : ks.length + 1 < scanBound) (hval : ∀ i v, Pv i v → ∃ k, ks[i]? = some k ∧ RelV (kV k) v) :
    ∀ (m i : Nat) (s : Shared), n - i = m → i ≤ n → St i s → (∃ L, L.length ≤ i ∧ SetM w s.heap S L ∧ ∀ j, j ∈ L ↔ j ∈ ks.take i) →
      (∀ s' L, Moved (S :: wr) G s s' → SetM w s'.heap S L → (∀ j, j ∈ L ↔ j ∈ ks) → R (.ok (.ret .none)) s') →
      codeAny (model P w) A (.builtin "set.update.loop" ⟨[.ref S, .ref I], []⟩) R s := by
  have hSw : S ∉ wr := fun h => hSf (W.sub _ h)
  have hsub : ∀ b ∈ wr, b ∈ S :: wr := fun b hb => List.mem_cons_of_mem _ hb
  intro m
  induction m with
  | zero =>
    intro i s hm hi hst ⟨L, hl, hS, hL⟩ hR
    obtain rfl : i = n := by omega
    refine codeAny_builtin F.entry_set_update_loop ?_
    rw [Around.under_plainId F.plain_set_update_loop _]
    show wpAny _ A.in1 (pyNext (.ref I) >>= _) _ _ s
    refine wpAny_bind (W.done s _ _ hst fun s' mv => ?_)
    show wpAny _ A.in1 (ret Value.none) _ _ s'
    rw [List.take_of_length_le (by omega)] at hL
    exact wpAny_pure (hR s' L (mv.mono hsub) (hS.move fun o e => mv.heap S o hSw e) hL)
  | succ m ih =>
    intro i s hm hi hst ⟨L, hl, hS, hL⟩ hR
    have hlt : i < n := by omega
    refine codeAny_builtin F.entry_set_update_loop ?_
    rw [Around.under_plainId F.plain_set_update_loop _]
    show wpAny _ A.in1 (pyNext (.ref I) >>= _) _ _ s
    refine wpAny_bind (W.item i s _ _ hlt hst fun v s' hP hst' mv => ?_)
    obtain ⟨k, hk, rv⟩ := hval i v hP
    have hS' : SetM w s'.heap S L := hS.move fun o e => mv.heap S o hSw e
    show wpAny _ A.in1 (holding [v] (setAdd S v) >>= _) _ _ s'
    refine wpAny_bind (wpAny_holding ?_)
    unfold setAdd
    refine wpAny_holding (wpAny_bind ((mixKind P w).pyHash (k := k) (kV_is rv) ?_))
    refine put_key (s := { s' with toks := s'.toks + 1 }) rv hS' (by omega) fun b h' L' hsb hS2 hL' hlen => ?_
    refine wpAny_pure ⟨plainId_quiet F.plain_set_update_loop _, ih (i + 1) _ (by omega) hlt (W.frame _ s' _ _ hst' (Nat.le_succ _) fun b hb o e => ?_) ⟨L', by omega, hS2, fun j => ?_⟩ fun s'' L2 mv2 hS3 hL3 => ?_⟩
    · rw [hsb.2 b (fun h : b = S => hSf (by rw [← h]; exact hb))]; exact e
    · rw [hL', hL, List.take_add_one, hk, List.mem_append]
      show _ ↔ _ ∨ j ∈ [k]
      rw [List.mem_singleton]
      exact Or.comm
    · refine hR s'' L2 (Moved.trans W.gtrans ((mv.mono hsub).then_heap (Nat.le_succ _) fun b o hb e => ?_) mv2) hS3 hL3
      rw [hsb.2 b (fun h : b = S => hb (by rw [h]; exact List.mem_cons_self))]; exact e
set_option maxRecDepth 100000 in
theorem set_of_list {l : Addr} {items : Array Value} (ks : List Key) {Q : Value → Shared → Prop} (hh : A.handled = none) (hl : s.heap.IsList l items) (hit : Vals (ks.map kV) items.toList) (hb : ks.length + 1 < scanBound)
    (h : ∀ (h' : Heap) (tk : Nat) (L : List Key), SetM w h' s.heap.objs.size L → (∀ j, j ∈ L ↔ j ∈ ks) → (∀ b o, s.heap.get? b = some o → h'.get? b = some o) → Q (.ref s.heap.objs.size) { s with heap := h', toks := tk }) :
    wpAny (model P w) A (call (.type "set") [.ref l]) Q E s := by
  have hz : items.size = ks.length := by
    have q := hit.length
    rw [List.length_map, Array.length_toList] at q
    exact q.symm
  let fresh : Obj := { cls := .type "set", dict := none, data := .set #[] 0 (.fresh 0 0 (!w.params.followText "set-order")) }
  obtain ⟨c, tl, hmro⟩ := F.called_set.mro
  have hmade := F.called_set.made
  have hsub := F.called_set.sub
  refine wpAny_call (codeAny_of_tree ?_)
  show wpAny _ _ (callAny (.type "set") _) _ _ _
  refine wpAny_pure ⟨Code.quiet_builtin _ (by decide +kernel), codeAny_builtin F.entry_type_call ?_⟩
  rw [Around.under_plain (weight_type_call_type "set" [.ref l] []) rfl]
  have h1 := F.called_set.notType
  have h2 := F.called_set.canCreate
  have hct := F.typeCall_set_1 (.ref l)
  repeat (any_goals (first | assumption | wp_step))
  refine codeAny_mono (code_set_led1 (.ref l) (E := E) (Q₁ := fun obj s1 => obj = .ref s.heap.objs.size ∧ s1 = { s with heap := s.heap.push fresh }) ⟨rfl, rfl⟩) fun r s1 hr => ?_
  cases r with
  | error e => exact hr
  | ok fl =>
    cases fl with
    | ret obj =>
      obtain ⟨rfl, rfl⟩ := hr
      have hS : (s.heap.push fresh).get? s.heap.objs.size = some fresh := Heap.get?_push_size _ rfl
      have hT : Shared.TypeIs { s with heap := s.heap.push fresh } (.ref s.heap.objs.size) "set" := ⟨_, hS, rfl⟩
      have hli := F.called_set.init.lookup
      have hbi := F.called_set.init.bind (.ref s.heap.objs.size)
      repeat (any_goals (first | assumption | wp_step))
      refine codeAny_mono (codeAny_call_builtin (R := wants (fun r s2 => r = .none ∧ ∃ h' tk L, s2 = { s with heap := h', toks := tk } ∧ SetM w h' s.heap.objs.size L ∧ (∀ j, j ∈ L ↔ j ∈ ks) ∧
          (∀ b o, s.heap.get? b = some o → h'.get? b = some o)) E) F.called_set.init.plain F.entry_set_init (check_set_init_1 hT ?_)) fun r2 s2 hr2 => ?_
      · obtain ⟨ol, hol, hcl, nl, hdl⟩ := hl
        obtain ⟨ocls, odict, odata, oslots⟩ := ol
        simp only at hcl hdl
        subst hcl; subst hdl
        have hol' : (s.heap.push fresh).get? l = some { cls := .type "list", dict := odict, data := .seq items nl, slots := oslots } := Heap.get?_push_of_some _ hol
        have hsls := F.sub_list_set
        have hslf := F.sub_list_frozenset
        have hne : (Value.type "list" == Value.type "dict") = false := by decide
        have hl1 : (s.heap.push fresh).IsList l items := ⟨_, hol', rfl, nl, rfl⟩
        unfold Builtin.«set.__init__» noKeywords Builtin.Frozenset.updateFrom
        generalize hPI : pyIter = PI
        wp_walk
        subst hPI
        refine wpAny_pyIter_list hl1 (wpAny_bind (wpAny_runValue ?_))
        have hlS : l < s.heap.objs.size := Heap.lt_size hol
        have hh3 : A.in1.in1.in1.handled = none := by simp [hh]
        have hneI : l ≠ (s.heap.push fresh).objs.size := by
          rw [Heap.size_push]; exact Nat.ne_of_lt (Nat.lt_succ_of_lt hlS)
        have hSf : s.heap.objs.size ∉ [(s.heap.push fresh).objs.size, l] := by
          rw [Heap.size_push]; simp only [List.mem_cons, List.mem_singleton, List.not_mem_nil, or_false, not_or]
          exact ⟨Nat.ne_of_lt (Nat.lt_succ_self _), Nat.ne_of_gt hlS⟩
        have hval : ∀ (i : Nat) (v : Value), items[i]? = some v → ∃ k, ks[i]? = some k ∧ RelV (kV k) v := fun i v hv => by
          have hi : i < ks.length := by rw [← hz]; exact (Array.getElem?_eq_some_iff.mp hv).1
          obtain ⟨u, hu, r⟩ := hit.get (i := i) (x := kV ks[i]) (by rw [List.getElem?_map, List.getElem?_eq_getElem hi] <;> rfl)
          rw [Array.getElem?_toList, hv] at hu
          cases hu
          exact ⟨ks[i], List.getElem?_eq_getElem hi, r⟩
        refine fill_loop ((Walks.list hh3 _ l hneI items).toS) s.heap.objs.size hSf ks hz hb hval (items.size - 0) 0 _ (by omega) (Nat.zero_le _)
          ⟨⟨_, Heap.get?_push_size _ rfl, rfl, rfl⟩, (hl1.push _)⟩ ⟨[], Nat.le_refl 0, setM_new (Heap.get?_push_of_some _ hS), fun j => by simp⟩ fun s' L hm hS' hL => ?_
        obtain ⟨h', g2, d', tk', os'⟩ := s'
        have eg : g2 = s.gens := hm.gens
        have ed : d' = s.drawn := hm.drawn
        have eo : os' = s.os := hm.os
        subst eg; subst ed; subst eo
        show wpAny _ _ _ _ _ _
        refine wpAny_pure ?_
        show wpAny _ _ (ret Value.none) _ _ _
        refine wpAny_pure ⟨rfl, h', tk', L, rfl, hS', hL, fun b o e => ?_⟩
        have hb0 : b < s.heap.objs.size := Heap.lt_size e
        have hb1 : b ≠ s.heap.objs.size := Nat.ne_of_lt hb0
        have hb2 : b ≠ (s.heap.push fresh).objs.size := by
          rw [Heap.size_push]; exact Nat.ne_of_lt (Nat.lt_succ_of_lt hb0)
        exact hm.heap b o (by simp only [List.mem_cons, List.mem_singleton, List.not_mem_nil, or_false, not_or]; exact ⟨hb1, hb2⟩) (Heap.get?_push_of_some _ (Heap.get?_push_of_some _ e))
      · cases r2 with
        | error e => exact hr2
        | ok fl2 =>
          cases fl2 with
          | ret r =>
            obtain ⟨rfl, h', tk, L, rfl, hS', hL, hk⟩ := hr2
            repeat (any_goals (first | assumption | wp_step))
            exact h _ _ _ hS' hL hk
          | _ => exact hr2.elim
    | _ => exact hr.elim
set_option maxRecDepth 100000 in
theorem set_of_tup {l : Addr} {items : Array Value} (ks : List Key) {Q : Value → Shared → Prop} (hh : A.handled = none) (hl : s.heap.IsTuple l items) (hit : Vals (ks.map kV) items.toList) (hb : ks.length + 1 < scanBound)
    (h : ∀ (h' : Heap) (tk : Nat) (L : List Key), SetM w h' s.heap.objs.size L → (∀ j, j ∈ L ↔ j ∈ ks) → (∀ b o, s.heap.get? b = some o → h'.get? b = some o) → Q (.ref s.heap.objs.size) { s with heap := h', toks := tk }) :
    wpAny (model P w) A (call (.type "set") [.ref l]) Q E s := by
  have hz : items.size = ks.length := by
    have q := hit.length
    rw [List.length_map, Array.length_toList] at q
    exact q.symm
  let fresh : Obj := { cls := .type "set", dict := none, data := .set #[] 0 (.fresh 0 0 (!w.params.followText "set-order")) }
  obtain ⟨c, tl, hmro⟩ := F.called_set.mro
  have hmade := F.called_set.made
  have hsub := F.called_set.sub
  refine wpAny_call (codeAny_of_tree ?_)
  show wpAny _ _ (callAny (.type "set") _) _ _ _
  refine wpAny_pure ⟨Code.quiet_builtin _ (by decide +kernel), codeAny_builtin F.entry_type_call ?_⟩
  rw [Around.under_plain (weight_type_call_type "set" [.ref l] []) rfl]
  have h1 := F.called_set.notType
  have h2 := F.called_set.canCreate
  have hct := F.typeCall_set_1 (.ref l)
  repeat (any_goals (first | assumption | wp_step))
  refine codeAny_mono (code_set_led1 (.ref l) (E := E) (Q₁ := fun obj s1 => obj = .ref s.heap.objs.size ∧ s1 = { s with heap := s.heap.push fresh }) ⟨rfl, rfl⟩) fun r s1 hr => ?_
  cases r with
  | error e => exact hr
  | ok fl =>
    cases fl with
    | ret obj =>
      obtain ⟨rfl, rfl⟩ := hr
      have hS : (s.heap.push fresh).get? s.heap.objs.size = some fresh := Heap.get?_push_size _ rfl
      have hT : Shared.TypeIs { s with heap := s.heap.push fresh } (.ref s.heap.objs.size) "set" := ⟨_, hS, rfl⟩
      have hli := F.called_set.init.lookup
      have hbi := F.called_set.init.bind (.ref s.heap.objs.size)
      repeat (any_goals (first | assumption | wp_step))
      refine codeAny_mono (codeAny_call_builtin (R := wants (fun r s2 => r = .none ∧ ∃ h' tk L, s2 = { s with heap := h', toks := tk } ∧ SetM w h' s.heap.objs.size L ∧ (∀ j, j ∈ L ↔ j ∈ ks) ∧
          (∀ b o, s.heap.get? b = some o → h'.get? b = some o)) E) F.called_set.init.plain F.entry_set_init (check_set_init_1 hT ?_)) fun r2 s2 hr2 => ?_
      · obtain ⟨ol, hol, hcl, nl, hdl⟩ := hl
        obtain ⟨ocls, odict, odata, oslots⟩ := ol
        simp only at hcl hdl
        subst hcl; subst hdl
        have hol' : (s.heap.push fresh).get? l = some { cls := .type "tuple", dict := odict, data := .seq items nl, slots := oslots } := Heap.get?_push_of_some _ hol
        have hsls := F.sub_tuple_set
        have hslf := F.sub_tuple_frozenset
        have hne : (Value.type "tuple" == Value.type "dict") = false := by decide
        have hl1 : (s.heap.push fresh).IsTuple l items := ⟨_, hol', rfl, nl, rfl⟩
        unfold Builtin.«set.__init__» noKeywords Builtin.Frozenset.updateFrom
        generalize hPI : pyIter = PI
        wp_walk
        subst hPI
        refine wpAny_pyIter_tuple hl1 (wpAny_bind (wpAny_runValue ?_))
        have hlS : l < s.heap.objs.size := Heap.lt_size hol
        have hh3 : A.in1.in1.in1.handled = none := by simp [hh]
        have hneI : l ≠ (s.heap.push fresh).objs.size := by
          rw [Heap.size_push]; exact Nat.ne_of_lt (Nat.lt_succ_of_lt hlS)
        have hSf : s.heap.objs.size ∉ [(s.heap.push fresh).objs.size, l] := by
          rw [Heap.size_push]; simp only [List.mem_cons, List.mem_singleton, List.not_mem_nil, or_false, not_or]
          exact ⟨Nat.ne_of_lt (Nat.lt_succ_self _), Nat.ne_of_gt hlS⟩
        have hval : ∀ (i : Nat) (v : Value), items[i]? = some v → ∃ k, ks[i]? = some k ∧ RelV (kV k) v := fun i v hv => by
          have hi : i < ks.length := by rw [← hz]; exact (Array.getElem?_eq_some_iff.mp hv).1
          obtain ⟨u, hu, r⟩ := hit.get (i := i) (x := kV ks[i]) (by rw [List.getElem?_map, List.getElem?_eq_getElem hi] <;> rfl)
          rw [Array.getElem?_toList, hv] at hu
          cases hu
          exact ⟨ks[i], List.getElem?_eq_getElem hi, r⟩
        refine fill_loop ((Walks.tuple hh3 _ l hneI items).toS) s.heap.objs.size hSf ks hz hb hval (items.size - 0) 0 _ (by omega) (Nat.zero_le _)
          ⟨⟨_, Heap.get?_push_size _ rfl, rfl, rfl⟩, (hl1.push _)⟩ ⟨[], Nat.le_refl 0, setM_new (Heap.get?_push_of_some _ hS), fun j => by simp⟩ fun s' L hm hS' hL => ?_
        obtain ⟨h', g2, d', tk', os'⟩ := s'
        have eg : g2 = s.gens := hm.gens
        have ed : d' = s.drawn := hm.drawn
        have eo : os' = s.os := hm.os
        subst eg; subst ed; subst eo
        show wpAny _ _ _ _ _ _
        refine wpAny_pure ?_
        show wpAny _ _ (ret Value.none) _ _ _
        refine wpAny_pure ⟨rfl, h', tk', L, rfl, hS', hL, fun b o e => ?_⟩
        have hb0 : b < s.heap.objs.size := Heap.lt_size e
        have hb1 : b ≠ s.heap.objs.size := Nat.ne_of_lt hb0
        have hb2 : b ≠ (s.heap.push fresh).objs.size := by
          rw [Heap.size_push]; exact Nat.ne_of_lt (Nat.lt_succ_of_lt hb0)
        exact hm.heap b o (by simp only [List.mem_cons, List.mem_singleton, List.not_mem_nil, or_false, not_or]; exact ⟨hb1, hb2⟩) (Heap.get?_push_of_some _ (Heap.get?_push_of_some _ e))
      · cases r2 with
        | error e => exact hr2
        | ok fl2 =>
          cases fl2 with
          | ret r =>
            obtain ⟨rfl, h', tk, L, rfl, hS', hL, hk⟩ := hr2
            repeat (any_goals (first | assumption | wp_step))
            exact h _ _ _ hS' hL hk
          | _ => exact hr2.elim
    | _ => exact hr.elim
end
end Qs
set_option maxRecDepth 100000
set_option maxHeartbeats 4000000
namespace Qs
open PySem PySem.Spec PyProof.Rows L2
open PySem.W (EachIs AllAlike Sortable dataLe)
/-! ### data of any form, with the values that bear them -/
abbrev enc2 (b : V × PyData) : PyData := b.2
/-- what the items are known to stand for -/
abbrev bears (v : Value) (b : V × PyData) : Prop := RelV b.1 v
section
variable {X : Cx} {pins : List (Addr × Obj)} {σ : L2.St} {H : Hp} {s : Shared}
theorem dpAll_len {K : PySem.W.Frag} {H : Hp} : ∀ {vs : List V} {ds : List PyData}, DpAll K H vs ds → vs.length = ds.length
  | _, _, .nil => rfl
  | _, _, .cons _ t => congrArg Nat.succ (dpAll_len t)
theorem dpAll_zip {K : PySem.W.Frag} {H : Hp} : ∀ {vs : List V} {ds : List PyData}, DpAll K H vs ds → ∀ b ∈ vs.zip ds, Dp K H b.1 b.2
  | _, _, .nil, b, hb => by simp at hb
  | _, _, .cons h t, b, hb => by
    rw [List.zip_cons_cons] at hb
    rcases List.mem_cons.mp hb with e | e
    · rw [e]; exact h
    · exact dpAll_zip t b e
theorem dpAll_of {K : PySem.W.Frag} {H : Hp} : ∀ {bs : List (V × PyData)}, (∀ b ∈ bs, Dp K H b.1 b.2) → DpAll K H (bs.map (·.1)) (bs.map (·.2))
  | [], _ => .nil
  | b :: bs, h => .cons (h b List.mem_cons_self) (dpAll_of fun c hc => h c (List.mem_cons_of_mem _ hc))
theorem each_bears : ∀ {vs : List V} {ds : List PyData} {us : List Value}, vs.length = ds.length → Vals vs us → EachIs bears us (vs.zip ds)
  | [], _, _, _, .nil => .nil
  | v :: vs, [], _, e, _ => by simp at e
  | v :: vs, d :: ds, _, e, .cons r t => .cons r (each_bears (by simpa using e) t)
theorem vals_each : ∀ {us : List Value} {bs : List (V × PyData)}, EachIs bears us bs → Vals (bs.map (·.1)) us
  | _, _, .nil => .nil
  | _, _, .cons r t => .cons r (vals_each t)
theorem each_reads (I : Inv X pins σ H s) : ∀ {us : List Value} {bs : List (V × PyData)}, EachIs bears us bs → (∀ b ∈ bs, Dp X.K H b.1 b.2) → EachIs (fun v b => ∃ as, Reads s.heap v (enc2 b) as) us bs
  | _, _, .nil, _ => .nil
  | _, _, .cons (b := b) r t, h => .cons (Dp.reads I b.2 b.1 _ (h b List.mem_cons_self) r) (each_reads I t fun c hc => h c (List.mem_cons_of_mem _ hc))
theorem zip_snd : ∀ {vs : List V} {ds : List PyData}, vs.length = ds.length → (vs.zip ds).map (·.2) = ds
  | [], [], _ => rfl
  | [], _ :: _, e => by simp at e
  | _ :: _, [], e => by simp at e
  | v :: vs, d :: ds, e => by rw [List.zip_cons_cons, List.map_cons, zip_snd (by simpa using e)]
end
/-- data in their order -/
def srt (ds : List PyData) : List PyData := ds.mergeSort (dataLe false id)
theorem srt_map (bs : List (V × PyData)) : (bs.mergeSort (dataLe false enc2)).map (·.2) = srt (bs.map (·.2)) :=
  PySem.W.sort_maps (r := dataLe false enc2) (s := dataLe false id) (·.2) fun _ _ _ _ => rfl
theorem srt_perm (ds : List PyData) : (srt ds).Perm ds := List.mergeSort_perm _ _
theorem srt_len (ds : List PyData) : (srt ds).length = ds.length := (srt_perm ds).length_eq
/-- sorted(xs), xs a list of data that can be compared, of at most 60 levels -/
def rSortedD (K : PySem.W.Frag) : List V → Hp → VK → Prop := fun xs H Q => ∃ (a : Addr) (vs : List V) (ds : List PyData), xs = [.ref a] ∧ SqL K H a vs ∧ DpAll K H vs ds ∧ AllAlike ds ∧ Sortable ds ∧ (∀ d ∈ ds, d.depth ≤ 60) ∧
  ∀ p ys, H p = none → ys.Perm vs → DpAll K H ys (srt ds) → Q (.ref p) (upd H p (.lst ys))
section
variable {X : Cx}
theorem cr_sortedD (hu : X.A.units + 64 < cLine) : CallR X (.builtin "sorted") (rSortedD X.K) := by
  intro pins s σ H xs us Q I r h
  obtain ⟨a, vs, ds, rfl, hs, hd, al, so, dp, q⟩ := h
  obtain ⟨its, rv, hl, hz⟩ := I.list hs
  rw [Vals.ref1 r]
  have hlen := dpAll_len hd
  have hb := each_bears hlen rv
  have ez := zip_snd hlen
  have zl : (vs.zip ds).length = vs.length := by rw [List.length_zip, hlen, Nat.min_self]
  have hD := dpAll_zip hd
  refine PySem.W.sorted_data (vs := its) (bs := vs.zip ds) (enc := enc2) (R := bears) hl.isList hb (each_reads I hb hD) (by rw [show (vs.zip ds).map enc2 = ds from ez]; exact al) (by rw [show (vs.zip ds).map enc2 = ds from ez]; exact so)
    (by rw [zl]; exact hz) (fun b hbm => ?_) fun out ho eo => ?_
  · have hm : b.2 ∈ ds := by rw [← ez]; exact List.mem_map.mpr ⟨b, hbm, rfl⟩
    have := dp _ hm
    show X.A.units + 2 + b.2.depth < cLine
    omega
  · obtain ⟨ep, he'⟩ := PyProof.Rows.sortedAll_at s.heap its out.toArray
    have pm := List.mergeSort_perm (vs.zip ds) (dataLe false enc2)
    have pv : (((vs.zip ds).mergeSort (dataLe false enc2)).map (·.1)).Perm vs := by
      have q1 := pm.map (·.1)
      rw [List.map_fst_zip (by omega)] at q1
      exact q1
    have hlen2 : (((vs.zip ds).mergeSort (dataLe false enc2)).map (·.1)).length ≤ sizeLine := by rw [pv.length_eq]; exact hz
    have D2 : DpAll X.K H (((vs.zip ds).mergeSort (dataLe false enc2)).map (·.1)) (srt ds) := by
      have := dpAll_of (bs := (vs.zip ds).mergeSort (dataLe false enc2)) fun b hbm => hD b (pm.mem_iff.mp hbm)
      rw [srt_map, ez] at this
      exact this
    exact ⟨.ref _, upd H (s.heap.objs.size + 1) (.lst (((vs.zip ds).mergeSort (dataLe false enc2)).map (·.1))), I.laid (t' := s.toks) (fun _ _ => PyProof.Rows.sortedAll_old) (Nat.le_succ _) ⟨hlen2, out, ep, vals_each eo, he'⟩, rfl,
      q _ _ (I.hok.fresh (Nat.le_succ _)) pv D2⟩
end
/-! ### sets of ints and texts as tracked things -/
def SetMO (w : World) (a : Addr) (L : List Key) : HO := .ext fun h => SetM w h a L
theorem setMO_new {w : World} {P : Program} {H : Hp} {h : Heap} {a : Addr} {L : List Key} (R : SetM w h a L) : ObjOk P w H h a (SetMO w a L) := by
  have ⟨o, _, _, _, ho, _⟩ := R
  exact ⟨R, ⟨o, ho⟩, fun h1 h2 p k => SetM.move p k⟩
def rSetOf (K : PySem.W.Frag) (w : World) : List V → Hp → VK → Prop := fun xs H Q => ∃ (l : Addr) (ks : List Key), xs = [.ref l] ∧ (SqL K H l (ks.map kV) ∨ SqT K H l (ks.map kV)) ∧ ks.length ≤ 1000 ∧
  ∀ p L, H p = none → L.Nodup → (∀ j, j ∈ L ↔ j ∈ ks) → Q (.ref p) (upd H p (SetMO w p L))
section
variable {X : Cx}
theorem setM_nd {w : World} {h : Heap} {a : Addr} {L : List Key} (R : SetM w h a L) : L.Nodup := by
  obtain ⟨_, _, _, _, _, _, _, _, _, nd, _⟩ := R
  exact nd
theorem cr_setOf (hc : X.calm = true) : CallR X (.type "set") (rSetOf X.K X.w) := by
  intro pins s σ H xs us Q I r h
  obtain ⟨l, ks, rfl, hs, hk, q⟩ := h
  rw [Vals.ref1 r]
  have hb : ks.length + 1 < scanBound := Nat.lt_of_le_of_lt (Nat.succ_le_succ hk) (by decide)
  have fin : ∀ (h' : Heap) (tk : Nat) (L : List Key), SetM X.w h' s.heap.objs.size L → (∀ j, j ∈ L ↔ j ∈ ks) → (∀ b o, s.heap.get? b = some o → h'.get? b = some o) → EP X pins σ Q (.ref s.heap.objs.size) { s with heap := h', toks := tk } :=
    fun h' tk L hS hL hk => ⟨.ref _, upd H s.heap.objs.size (SetMO X.w s.heap.objs.size L), I.laid (t' := tk) hk (Nat.le_refl _) (setMO_new hS), rfl, q _ L (I.hok.fresh (Nat.le_refl _)) (setM_nd hS) hL⟩
  rcases hs with hs | hs
  · obtain ⟨its, rv, pl, hz⟩ := I.list hs
    exact set_of_list ks (I.ok.hd hc) pl.isList rv hb fin
  · obtain ⟨its, rv, pl, hz⟩ := I.tuple hs
    exact set_of_tup ks (I.ok.hd hc) pl rv hb fin
/-- len of such a set -/
def rLenM (w : World) : List V → Hp → VK → Prop := fun xs H Q => ∃ (a : Addr) (L : List Key), xs = [.ref a] ∧ H a = some (SetMO w a L) ∧ Q (.int L.length) H
theorem cr_lenM : CallR X (.builtin "len") (rLenM X.w) := by
  intro pins s σ H xs us Q I r h
  obtain ⟨a, L, rfl, ha, q⟩ := h
  rw [Vals.ref1 r]
  obtain ⟨o, es, ep, t, ho, hx, hd, hf, hn, hb⟩ := SetM.len (I.hok a _ ha).1
  have hfit : (es.size : Int) < 2 ^ 63 := by
    have : es.size < 2 ^ 63 := Nat.lt_trans hb (by decide)
    exact_mod_cast this
  exact call_len_set ho hx hd hf hfit ⟨.int L.length, H, I.tok _, ⟨_, by rw [hn]⟩, q⟩
/-- the datum of a key -/
def kD : Key → PyData
  | .inl i => .int i
  | .inr x => .str x
def dOfV : V → PyData
  | .int i => .int i
  | .str x => .str x
  | _ => .none
/-- sorted(set): texts alone, or ints alone -/
def rSortedM (w : World) : List V → Hp → VK → Prop := fun xs H Q => ∃ (a : Addr) (L : List Key), xs = [.ref a] ∧ H a = some (SetMO w a L) ∧ L.length ≤ 1000 ∧ AllAlike (L.map kD) ∧
  ∀ p (ys : List Key), H p = none → ys.Perm L → ys.map kD = srt (L.map kD) → Q (.ref p) (upd H p (.lst (ys.map kV)))
end
end Qs
set_option maxRecDepth 100000
set_option maxHeartbeats 4000000
namespace Qs
open PySem PySem.Spec PyProof.Rows L2
open PySem.W (EachIs AllAlike Sortable dataLe)
abbrev enck (k : Key) : PyData := kD k
abbrev bearsK (v : Value) (k : Key) : Prop := RelV (kV k) v
theorem kD_ok (k : Key) : (kD k ≠ .none ∧ ∀ xs, kD k ≠ .tuple xs) ∧ (kD k).depth = 0 := by
  cases k with
  | inl i => exact ⟨⟨(fun z => nomatch z), (fun _ z => nomatch z)⟩, by simp [kD, PyData.depth]⟩
  | inr x => exact ⟨⟨(fun z => nomatch z), (fun _ z => nomatch z)⟩, by simp [kD, PyData.depth]⟩
theorem each_k {w : World} : ∀ {es : List (Int × Value)}, (∀ e ∈ es, Ent w e) → EachIs bearsK (es.map (·.2)) (es.map ent1)
  | [], _ => .nil
  | e :: es, g => by
    refine .cons ?_ (each_k fun c hc => g c (List.mem_cons_of_mem _ hc))
    obtain ⟨k, u, h1, r, _⟩ := g e List.mem_cons_self
    have e0 : ent1 e = k := by
      unfold ent1
      rw [h1]
      exact kof_rel r
    show RelV (kV (ent1 e)) e.2
    rw [e0, h1]
    exact r
theorem each_kof : ∀ {vs : List Value}, (∀ v ∈ vs, ∃ k, RelV (kV k) v) → EachIs bearsK vs (vs.map kof)
  | [], _ => .nil
  | v :: vs, g => by
    refine .cons ?_ (each_kof fun c hc => g c (List.mem_cons_of_mem _ hc))
    obtain ⟨k, r⟩ := g v List.mem_cons_self
    show RelV (kV (kof v)) v
    rw [kof_rel r]
    exact r
theorem each_kr {h : Heap} {a : Addr} : ∀ {vs : List Value} {ks : List Key}, EachIs bearsK vs ks → EachIs (fun v b => ∃ as, Reads h v (enck b) as ∧ a ∉ as) vs ks
  | _, _, .nil => .nil
  | _, _, .cons (b := k) r t => by
    refine .cons ?_ (each_kr t)
    cases k with
    | inl i => obtain ⟨t, rfl⟩ := r; exact ⟨[], .int _ _, by simp⟩
    | inr x => obtain ⟨t, rfl⟩ := r; exact ⟨[], .str _ _, by simp⟩
theorem each_kv : ∀ {vs : List Value} {ks : List Key}, EachIs bearsK vs ks → Vals (ks.map kV) vs
  | _, _, .nil => .nil
  | _, _, .cons r t => .cons r (each_kv t)
theorem allAlike_perm {xs ys : List PyData} (h : AllAlike xs) (p : ys.Perm xs) : AllAlike ys := fun d hd d' hd' => h d (p.mem_iff.mp hd) d' (p.mem_iff.mp hd')
theorem toks_inj_k : ∀ (a b : Key), PySem.W.alike (kD a) (kD b) = true → PySem.W.keyToks (kD a) = PySem.W.keyToks (kD b) → a = b
  | .inl i, .inl j, _, e => by
    have : i = j := by simpa [kD, PySem.W.keyToks] using e
    rw [this]
  | .inr x, .inr y, _, e => by
    have : x.cps.toList = y.cps.toList := by simpa [kD, PySem.W.keyToks] using e
    rw [PySem.W.str_of_cps this]
  | .inl i, .inr y, h, _ => by simp [kD, PySem.W.alike] at h
  | .inr x, .inl j, h, _ => by simp [kD, PySem.W.alike] at h
section
variable {P : Program} {w : World} {A : Around} {E : Value → Shared → Prop} {s : Shared} {a : Addr} {L : List Key}
theorem sorted_setM {Q : Value → Shared → Prop} (R : SetM w s.heap a L) (hh : A.handled = none) (hl : L.length ≤ 1000) (al : AllAlike (L.map kD)) (hu : A.units + 64 < cLine)
    (hQ : ∀ s' p (out : List Value) (c : Nat) (ks : List Key), (∀ b o, s.heap.get? b = some o → s'.heap.get? b = some o) → s'.gens = s.gens → s'.os = s.os → s.heap.objs.size ≤ p →
      s'.heap.get? p = some (seqObj "list" out.toArray c) → Vals (ks.map kV) out → ks.Perm L → ks.map kD = srt (ks.map kD) → Q (.ref p) s') :
    wpAny (model P w) A (call (.builtin "sorted") [.ref a]) Q E s := by
  obtain ⟨o, es, ep, t, ho, hex, hd, g, pm, nd, hb, hf, hr, hled⟩ := R
  refine Calls.call_function_entry kind_sorted plain_sorted entry_sorted (args_sorted1 _) ?_
  unfold Builtin.«sorted»
  refine wpAny_bind (m := checkCount "sorted" 1 1 _) (wpAny_pure ?_)
  refine wpAny_bind (collect_set (A := A.in1) hh ⟨o, ho, hex.1, hd⟩ hf hb hr hled fun s1 vs k1 hz g1 o1 pv => ?_)
  have hk : ∀ v ∈ vs, ∃ k, RelV (kV k) v := fun v hv => by
    obtain ⟨e, he, q⟩ := List.mem_map.mp (pv.mem_iff.mp hv)
    obtain ⟨k, u, h1, r, _⟩ := g e he
    exact ⟨k, by rw [← q, h1]; exact r⟩
  have e1 := each_kof hk
  have pk : (vs.map kof).Perm L := by
    have q := pv.map kof
    rw [List.map_map] at q
    exact q.trans pm
  have hvl : (vs.map kof).length ≤ 1000 := by rw [pk.length_eq]; exact hl
  have hv1 : vs.length ≤ 1000 := by rw [List.length_map] at hvl; exact hvl
  have hL : (vs.map kof).length ≤ sizeLine := Nat.le_trans hvl (by decide)
  refine wpAny_bind (wpAny_newList ?_ (Nat.le_trans hv1 (by decide)))
  have hoL : (s1.heap.push (seqObj "list" vs.toArray 0)).get? s1.heap.objs.size = some (seqObj "list" vs.toArray 0) := Heap.get?_push_size _ rfl
  have alv : AllAlike ((vs.map kof).map enck) := allAlike_perm al (pk.map kD)
  refine wpAny_bind (wpAny_holding (PySem.W.list_sort_data (s := { s1 with heap := s1.heap.push (seqObj "list" vs.toArray 0) }) (bs := vs.map kof) (enc := enck) (R := bearsK) hoL e1 (each_kr e1) alv (Sortable.others fun b => (kD_ok b).1) hL (fun b _ => ?_) fun out hlen eo => ?_))
  · have : (enck b).depth = 0 := (kD_ok b).2
    rw [this]
    show (A.units + 1) + 1 + 0 < cLine
    omega
  · obtain ⟨c, hc⟩ := sortedHeap_at (vs := vs) (out := out.toArray) hoL
    have pq := List.mergeSort_perm (vs.map kof) (dataLe false enck)
    refine wpAny_pure ⟨_, rfl, hQ _ s1.heap.objs.size out c ((vs.map kof).mergeSort (dataLe false enck)) (fun b u e => ?_) g1 o1 hz hc (each_kv eo) (pq.trans pk) ?_⟩
    · have q := k1 b u e
      have hlt := Heap.lt_size q
      show (sortedHeap (s1.heap.push (seqObj "list" vs.toArray 0)) s1.heap.objs.size vs out.toArray).get? b = some u
      rw [sortedHeap_old (Nat.ne_of_lt hlt) (by rw [size_push']; exact Nat.lt_succ_of_lt hlt)]
      exact Heap.get?_push_of_some _ q
    · have q := PySem.W.sort_maps (r := dataLe false enck) (s := dataLe false id) kD (l := vs.map kof) fun _ _ _ _ => rfl
      rw [q]
      unfold srt
      refine (List.mergeSort_of_pairwise ?_).symm
      exact PySem.W.sort_pairwise (PySem.W.sortLe_total _ _ _) _
end
section
variable {X : Cx}
theorem srt_same {xs ys : List PyData} (p : xs.Perm ys) (al : AllAlike xs) (inj : ∀ a ∈ xs, ∀ b ∈ xs, PySem.W.keyToks a = PySem.W.keyToks b → a = b) : srt xs = srt ys := by
  have T : PySem.W.TotalLe (dataLe false (id : PyData → PyData)) := PySem.W.sortLe_total _ _ _
  have tot : ∀ a b : PyData, (dataLe false id a b || dataLe false id b a) = true := fun a b => by
    rcases T.total a b with h | h <;> simp [h]
  have tr : ∀ a b c : PyData, dataLe false id a b = true → dataLe false id b c = true → dataLe false id a c = true := fun a b c h1 h2 => T.trans a b c h1 h2
  refine List.Perm.eq_of_pairwise (le := fun a b => dataLe false id a b = true) (fun a b ha hb h1 h2 => ?_) (List.pairwise_mergeSort tr tot xs) (List.pairwise_mergeSort tr tot ys) ((srt_perm xs).trans (p.trans (srt_perm ys).symm))
  have ha' : a ∈ xs := (srt_perm xs).mem_iff.mp ha
  have hb' : b ∈ xs := p.mem_iff.mpr ((srt_perm ys).mem_iff.mp hb)
  refine inj a ha' b hb' ?_
  rw [PySem.W.dataLe_eq] at h1 h2
  simp only [cond_false, id] at h1 h2
  unfold PySem.W.dataLt at h1 h2
  exact PyProof.Rows.lex_total _ _ (by simpa using h2) (by simpa using h1)
theorem cr_sortedM (hc : X.calm = true) (hu : X.A.units + 64 < cLine) : CallR X (.builtin "sorted") (rSortedM X.w) := by
  intro pins s σ H xs us Q I r h
  obtain ⟨a, L, rfl, ha, hl, al, q⟩ := h
  rw [Vals.ref1 r]
  refine sorted_setM (I.hok a _ ha).1 (I.ok.hd hc) hl al hu fun s' p out c ks k g o hp hg hv pk hs => ?_
  have hlen : (ks.map kV).length ≤ sizeLine := by rw [List.length_map, pk.length_eq]; exact Nat.le_trans hl (by decide)
  have hn : H p = none := I.hok.fresh hp
  have J : Inv X pins σ (upd H p (.lst (ks.map kV))) { s with heap := s'.heap, gens := s'.gens, drawn := s'.drawn, toks := s'.toks } :=
    I.call (ch := []) (Un.laid k hp hn) (I.hok.laid k hp ⟨hlen, out, c, hv, hg⟩) (by rw [g]; exact I.bare) (fun _ z => nomatch z)
  have e : s' = { s with heap := s'.heap, gens := s'.gens, drawn := s'.drawn, toks := s'.toks } := by
    cases s'
    cases s
    cases o
    rfl
  rw [e]
  refine ⟨.ref p, _, J, rfl, q p ks hn pk ?_⟩
  rw [hs]
  refine srt_same (pk.map kD) (allAlike_perm al (pk.map kD)) fun x hx y hy e => ?_
  obtain ⟨i, hi, rfl⟩ := List.mem_map.mp hx
  obtain ⟨j, hj, rfl⟩ := List.mem_map.mp hy
  rw [toks_inj_k i j (al _ (List.mem_map.mpr ⟨i, pk.mem_iff.mp hi, rfl⟩) _ (List.mem_map.mpr ⟨j, pk.mem_iff.mp hj, rfl⟩)) e]
end
end Qs
set_option maxRecDepth 100000
set_option maxHeartbeats 4000000
/-! An error that is caught and held: tracked behind the try. -/
namespace Qx
open PySem PySem.Spec PyProof.Rows L2
/-- an error of the class cls stands at a -/
def ExH (cls : Value) (d : Option Addr) (a : Addr) : HO := .ext fun h => ∃ (oe : Obj) (vs : Array Value), h.get? a = some oe ∧ Zc cls d oe ∧ oe.data = .fields vs
theorem exH_ok {P : Program} {w : World} {H : Hp} {h : Heap} {a : Addr} {cls : Value} {d : Option Addr} {oe : Obj} {vs : Array Value} (e : h.get? a = some oe) (z : Zc cls d oe) (q : oe.data = .fields vs) : ObjOk P w H h a (ExH cls d a) :=
  ⟨⟨oe, vs, e, z, q⟩, ⟨oe, e⟩, fun _ _ ⟨o, v, p, r⟩ k => ⟨o, v, k o p, r⟩⟩
section
variable {X : Cx} {pins : List (Addr × Obj)} {σ : L2.St} {H : Hp} {s : Shared}
/-- what was made behind the entry and is not tracked may be tracked from now on -/
theorem track {a : Addr} {o : HO} {oe : Obj} {vs : Array Value} (I : Inv X pins σ H s) (ha : s.heap.get? a = some oe) (hd : oe.data = .fields vs) (na : H a = none) (n0 : X.s_0.heap.get? a = none) (nL : a ≠ X.env.locals)
    (np : ∀ p ∈ X.pn ++ pins, p.1 ≠ a) (new : ObjOk X.prog X.w (upd H a o) s.heap a o) : Inv X pins σ (upd H a o) s := by
  have ne0 : ∀ b ob, X.s_0.heap.get? b = some ob → b ≠ a := fun b ob e z => by
    rw [z, n0] at e
    cases e
  have sm : ∀ b u, H b = some u → upd H a o b = some u := fun b u e => by
    rw [upd_ne (ne_of_none e na)]
    exact e
  refine ⟨I.ok, I.os, I.bare, ⟨I.base.keep, I.base.slot, fun b ob e n hx => ?_, I.base.there, fun b xs e => sm b _ (I.base.tups b xs e), fun b ob u e => sm b _ (I.base.frzs b ob u e), fun b ps e => ?_⟩, I.loc, I.cell, ?_, fun x c e => ?_, fun p hp => ?_, fun b u e => ?_, I.len⟩
  · rw [upd_ne (ne0 b ob e)]
    exact I.base.free b ob e n hx
  · obtain ⟨m, q⟩ := I.base.tbls b ps e
    exact ⟨m, sm b _ q⟩
  · rw [upd_ne (Ne.symm nL)]
    exact I.free
  · rw [upd_ne (fun z => ?_)]
    · exact I.freeC x c e
    · obtain ⟨v, oc, h1, h2⟩ := I.cell x c e
      rw [z, ha] at h1
      cases h1
      rw [hd] at h2
      cases h2
  · obtain ⟨h1, h2, h3, h4, h5⟩ := I.pin p hp
    refine ⟨h1, ?_, h3, h4, h5⟩
    rw [upd_ne (np p hp)]
    exact h2
  · by_cases hb : b = a
    · subst hb
      rw [upd_same] at e
      cases e
      exact new
    · rw [upd_ne hb] at e
      exact (I.hok b u e).stay (fun _ _ _ q => q) (fun c q => sm c _ q) fun c xs q => sm c _ q
end
/-- what the clause «except x as n: suite» wishes: behind the suite the error is held -/
def wHold (K : PySem.W.Frag) (c : Value) (i : Nat) (ts : Addr → Value → Option Addr → TS) (Wout : WX) (D : Ends) : WX := fun cls d σ H =>
  ∃ b, PySem.W.exmOne K cls c = some b ∧ (b = true → ∀ a, H a = none → ts a cls d { nx := fun σ' H' => H' a = none → D.nx (σ'.set i none) (upd H' a (ExH cls d a)), rt := fun _ _ => False, bk := fun _ _ => False, ct := fun _ _ => False } (σ.set i (some (.ref a))) H) ∧
    (b = false → Wout cls d σ H)
section
variable {X : Cx} {x n : Str} {c : Value} {i : Nat} {body suite : List Stmt} {b0 : Stmt} {np pos pos' : Pos} {tb : WX → TS} {ts : Addr → Value → Option Addr → TS} {Wout : WX}
theorem ps_try_hold (hs : X.stack = X.env :: X.outer) (hf : X.env.frame = some X.env.locals) (hex : X.ex = []) (hN : X.N.Nodup) (hi : X.N[i]? = some n) (hln : X.env.kindOf n = some .local) (hc : Names X x c) (tk : Takes X Wout)
    (hb : ∀ (W : WX) (pn : List (Addr × Obj)) (xe : Value → Shared → Prop), Takes (X.tr pn xe) W → PassesOwn (model X.prog X.w) X.A X.env xe → PSs (X.tr pn xe) body (tb W))
    (hsu : ∀ (a : Addr) (oe : Obj) (cls : Value) (d : Option Addr) (pn : List (Addr × Obj)), Zc cls d oe → (∃ vs, oe.data = .fields vs) → PSs (X.suite a ((a, oe) :: pn)) (b0 :: suite) (ts a cls d)) :
    PS X (.Try body [.ExceptHandler (some (.Name x np)) (some n) (b0 :: suite) pos'] [] [] pos) (fun D σ H => tb (fun cls d σ' H' => σ'.length = X.N.length → wHold X.K c i ts Wout D cls d σ' H') D σ H) := by
  refine ⟨fun pins s σ H D I h => ?_⟩
  have ok := I.ok
  have hfr : X.A.frames = some (X.env :: X.outer) := by rw [ok.frames, hs]
  refine wpAny_Try_except ?_
  refine wpAny_mono ((hb (fun cls d σ' H' => σ'.length = X.N.length → wHold X.K c i ts Wout D cls d σ' H') (X.pn ++ pins) (fun e s1 => wpAny (model X.prog X.w) X.A (noteFrame e X.env) (fun _ s2 => wpAny (model X.prog X.w) X.A (setFlight e none) (fun _ s3 =>
    wpAny (model X.prog X.w) X.A (handleBy e X.env [.ExceptHandler (some (.Name x np)) (some n) (b0 :: suite) pos']) (SP X pins D) X.xe s3) X.xe s2) X.xe s1) (fun u s' xx => ?_) PassesOwn.looking).run [] s σ H D (I.toTry _) h) (fun f s1 hsp => ?_) (fun e s1 he => he)
  · obtain ⟨a, B, sI, pins', σ', H', cls, d, rfl, J', nb, up, sky, na, os, ag, hw⟩ := xx
    obtain ⟨b, hb1, hyes, hno⟩ := hw J'.len
    have J : Inv X pins σ' H' sI := J'.ofTry ok
    have sky' : Sky B (X.env :: X.outer) a (Zc cls d) X.env.locals s'.heap := by rw [← hs]; exact sky
    show wpAny (model X.prog X.w) X.A (noteFrame (.ref a) X.env) _ _ _
    refine Sky.land Zc.steady hfr hf sky' fun h3 fl3 up3 => ?_
    have J3 : Inv X pins σ' H' { s' with heap := h3 } := J.landed nb fl3.1 (up.trans up3) os ag
    obtain ⟨oe3, vs3, he3, hz3, hd3⟩ := fl3.there
    have nfr : a ∉ frs (X.env :: X.outer) := fun hm => by
      obtain ⟨_, o', e', hnf⟩ := fl3.2.2.1.mem hm
      rw [he3] at e'
      cases e'
      exact hnf _ hd3
    have nL : a ≠ X.env.locals := fun z => nfr (List.mem_filterMap.mpr ⟨X.env, List.mem_cons_self, by rw [hf, z]⟩)
    have nF : a ∉ X.fs := fun hm => by
      obtain ⟨e, he, q⟩ := List.mem_filterMap.mp hm
      exact nfr (List.mem_filterMap.mpr ⟨e, List.mem_cons_of_mem _ he, q⟩)
    have nI : sI.heap.get? a = none := by
      cases q : sI.heap.get? a with
      | none => rfl
      | some o =>
        have z := nb a o q (by rw [hs]; exact nfr)
        have z2 := fl3.2.1
        rw [z] at z2
        cases z2
    have n0 : X.s_0.heap.get? a = none := by
      cases q : X.s_0.heap.get? a with
      | none => rfl
      | some o =>
        obtain ⟨o', z⟩ := J.base.there a o q (by rw [hex]; exact fun z => nomatch z)
        rw [nI] at z
        cases z
    have npin : ∀ p ∈ X.pn ++ pins, p.1 ≠ a := fun p hp z => by
      have q := (J.pin p hp).1
      rw [z, nI] at q
      cases q
    have S3 := J3.suite he3 hd3 na nL nF
    refine wpAny_handleBy_cons (codeAny_handlers_test ?_) (by intro q; cases q)
    have LT : PySem.W.Looks (model X.prog X.w) h3 (typeOf (.ref a)) cls := fun A Q E s k q => wpAny_typeOf_ref (k _ _ he3) (by rw [hz3.1]; exact q)
    have LM := PySem.W.exm_one (M := model X.prog X.w) (J3.kIn) LT hb1
    have test : ∀ {Q : Value → Shared → Prop} {E : Value → Shared → Prop}, Q c { s' with heap := h3 } → wpAny (model X.prog X.w) (X.A.mark (some (.ref a))) (eval (.Name x np) X.env) Q E { s' with heap := h3 } := fun {Q E} q => by
      obtain ⟨hg, hdbg, hm | ⟨hm, hv, hnn⟩⟩ := hc
      · exact ld_glob (X := X.suite a ((a, oe3) :: (X.pn ++ pins))) S3 hg hm q hdbg
      · exact ld_blt (X := X.suite a ((a, oe3) :: (X.pn ++ pins))) S3 hg hm hv q hnn hdbg
    refine test (LM.here ?_)
    cases b with
    | true =>
      refine codeAny_handlers_suite_as (HandSPX.lands_againZ fl3 fun h4 fl4 up4 => ?_)
      have J4 : Inv X pins σ' H' { s' with heap := h4 } := J.landed nb fl4.1 ((up.trans up3).trans up4) os ag
      obtain ⟨oe4, vs4, he4, hz4, hd4⟩ := fl4.there
      have S4 := J4.suite he4 hd4 na nL nF
      refine store_ok (X := X.suite a ((a, oe4) :: (X.pn ++ pins))) (v := .ref a) S4 hN hi (.inl hln) rfl (fun s5 S5 => ?_) (.inr hln)
      refine wpAny_mono ((hsu a oe4 cls d (X.pn ++ pins) hz4 ⟨_, hd4⟩).run [] s5 _ H' _ S5 (hyes rfl a na)) (fun f s6 hsp => ?_) (fun _ _ z => False.elim z)
      cases f with
      | next =>
        obtain ⟨σ6, H6, S6, q6⟩ := hsp
        obtain ⟨ga, gn, _⟩ := S6.pin (a, oe4) (List.mem_append.mpr (.inl List.mem_cons_self))
        have J6 : Inv X pins σ6 H6 s6 := S6.unsuite ok
        have T6 : Inv X pins σ6 (upd H6 a (ExH cls d a)) s6 := track J6 ga hd4 gn n0 nL npin (exH_ok ga hz4 hd4)
        exact gone_ok T6 hN hi hln fun s7 J7 => ⟨_, _, J7, q6 gn⟩
      | brk => obtain ⟨_, _, _, q6⟩ := hsp; exact False.elim q6
      | cont => obtain ⟨_, _, _, q6⟩ := hsp; exact False.elim q6
      | ret u => obtain ⟨_, _, _, _, _, q6⟩ := hsp; exact False.elim q6
    | false =>
      show wpAny _ X.A (handleBy (.ref a) X.env []) _ _ _
      refine wpAny_handleBy_nil ?_
      obtain ⟨k1, k2, k3, oe, vs, T, oT, ts', he, hz, hd, h1, hr⟩ := id fl3
      unfold PySem.passOn
      refine wpAny_bind (wpAny_field he hd h1 ?_)
      rw [if_neg (show ¬ ((Value.ref T == Value.none) = true) from by simp)]
      have fin : wpAny (model X.prog X.w) X.A (setFlight (.ref a) X.env.frame) (fun _ s4 => wpAny (model X.prog X.w) X.A (throw (.ref a) : Sem Flow) (SP X pins D) X.xe s4) X.xe { s' with heap := h3 } := by
        rw [hf]
        refine HandSPX.setFlight_upZ fl3 fun h4 hh4 up4 => wpAny_throw (tk _ _ ?_)
        exact ⟨a, B, sI, pins, σ', H', cls, d, rfl, J, nb, (up.trans up3).trans up4, .inr (.inr (by rw [hs]; exact hh4)), na, os, ag, hno rfl⟩
      first
        | exact wpAny_bind (wpAny_pure (wpAny_bind fin))
        | exact wpAny_bind fin
  · cases f with
    | next =>
      obtain ⟨σ', H', J', q⟩ := hsp
      exact wpAny_execs_nil ⟨σ', H', J'.ofTry ok, q⟩
    | brk =>
      obtain ⟨σ', H', J', q⟩ := hsp
      exact ⟨σ', H', J'.ofTry ok, q⟩
    | cont =>
      obtain ⟨σ', H', J', q⟩ := hsp
      exact ⟨σ', H', J'.ofTry ok, q⟩
    | ret u =>
      obtain ⟨v, σ', H', J', r, q⟩ := hsp
      exact ⟨v, σ', H', J'.ofTry ok, r, q⟩
end
/-- isinstance(e, c), e an error that is held -/
def rIsH (K : PySem.W.Frag) : List V → Hp → VK → Prop := fun xs H Q => ∃ (a D : Addr) (c : V) (cv : Value) (b : Bool), xs = [.ref a, c] ∧ H a = some (ExH (.ref D) none a) ∧ ExcC K D ∧ (∀ u, RelV c u → u = cv) ∧ PySem.W.kitOne K (.ref D) cv = some b ∧ Q (.bl b) H
theorem call_isH {X : Cx} : CallR X (.builtin "isinstance") (rIsH X.K) := by
  intro pins s σ H xs us Q I r h
  obtain ⟨a, D, c, cv, b, rfl, ha, C, hcv, e, q⟩ := h
  cases r with
  | cons rx rr =>
    cases rr with
    | cons rt rr =>
      cases rr
      cases rx
      have ec := hcv _ rt
      subst ec
      obtain ⟨oe, vs, hget, hz, hv⟩ := (I.hok a _ ha).1
      have J : PySem.W.InstAt s.heap a oe D none := by
        obtain ⟨oc, od, oda, osl⟩ := oe
        obtain ⟨h1, h2⟩ := hz
        dsimp only at h1 h2 hv
        subst h1 h2 hv
        exact ⟨hget, rfl, rfl, trivial⟩
      exact PySem.W.kia_one (PySem.W.handS_kitx_exc C.hg C.hk C.hs C.hd C.ha C.hn C.ht C.hm) I.kIn J e (fun z => nomatch z) fun tk => ⟨.bl b, H, I.kept (t' := tk) fun _ _ z => z, rfl, q⟩
end Qx
set_option maxRecDepth 100000
set_option maxHeartbeats 4000000
/-! Lambdas with parameters, held by a name; calls of a name that holds one of several things. -/
namespace Ql
open PySem PySem.Spec PyProof.Rows L2 LamX Qx
/-- a lambda that captures nothing stands at f, its code object at c -/
def LamO (q : Str) (params : Arguments) (body : Expr) (scope : Scope) (f c : Addr) : HO := .ext fun h => ∃ pm ctv, h.get? f = some (PySem.W.kla_obj "<lambda>" q params body scope [] pm c ctv)
theorem lamO_ok {P : Program} {w : World} {H : Hp} {h : Heap} {q : Str} {params : Arguments} {body : Expr} {scope : Scope} {f c : Addr} {pm ctv : Value} (e : h.get? f = some (PySem.W.kla_obj "<lambda>" q params body scope [] pm c ctv)) : ObjOk P w H h f (LamO q params body scope f c) :=
  ⟨⟨pm, ctv, e⟩, ⟨_, e⟩, fun _ _ ⟨pm, ctv, p⟩ k => ⟨pm, ctv, k _ p⟩⟩
section
variable {X : Cx} {pins : List (Addr × Obj)} {σ : L2.St} {H : Hp} {s : Shared}
/-- a new object may be tracked from now on -/
theorem track_new {a : Addr} {o : HO} {oe : Obj} (I : Inv X pins σ H s) (ha : s.heap.get? a = some oe) (hd : ∀ v, oe.data ≠ .cell v) (na : H a = none) (n0 : X.s_0.heap.get? a = none) (nL : a ≠ X.env.locals)
    (np : ∀ p ∈ X.pn ++ pins, p.1 ≠ a) (new : ObjOk X.prog X.w (upd H a o) s.heap a o) : Inv X pins σ (upd H a o) s := by
  have ne0 : ∀ b ob, X.s_0.heap.get? b = some ob → b ≠ a := fun b ob e z => by
    rw [z, n0] at e
    cases e
  have sm : ∀ b u, H b = some u → upd H a o b = some u := fun b u e => by
    rw [upd_ne (ne_of_none e na)]
    exact e
  refine ⟨I.ok, I.os, I.bare, ⟨I.base.keep, I.base.slot, fun b ob e n hx => ?_, I.base.there, fun b xs e => sm b _ (I.base.tups b xs e), fun b ob u e => sm b _ (I.base.frzs b ob u e), fun b ps e => ?_⟩, I.loc, I.cell, ?_, fun x c e => ?_, fun p hp => ?_, fun b u e => ?_, I.len⟩
  · rw [upd_ne (ne0 b ob e)]
    exact I.base.free b ob e n hx
  · obtain ⟨m, q⟩ := I.base.tbls b ps e
    exact ⟨m, sm b _ q⟩
  · rw [upd_ne (Ne.symm nL)]
    exact I.free
  · rw [upd_ne (fun z => ?_)]
    · exact I.freeC x c e
    · obtain ⟨v, oc, h1, h2⟩ := I.cell x c e
      rw [z, ha] at h1
      cases h1
      exact hd v h2
  · obtain ⟨h1, h2, h3, h4, h5⟩ := I.pin p hp
    refine ⟨h1, ?_, h3, h4, h5⟩
    rw [upd_ne (np p hp)]
    exact h2
  · by_cases hb : b = a
    · subst hb
      rw [upd_same] at e
      cases e
      exact new
    · rw [upd_ne hb] at e
      exact (I.hok b u e).stay (fun _ _ _ q => q) (fun c q => sm c _ q) fun c xs q => sm c _ q
end
/-! ### a lambda is made -/
/-- what the making asks, and what stands behind it -/
def tLamE (T : List (Addr × Str)) (q : Str) (params : Arguments) (body : Expr) (scope : Scope) : TE := fun _ H Q => Tabs T H ∧
  ∀ f c H1, H f = none → ExtN H H1 → H1 f = none → Tabs T H1 → H1 c = some (CodeO c q) → Q (.ref f) (upd H1 f (LamO q params body scope f c))
section
variable {X : Cx}
theorem pe_lam {T : List (Addr × Str)} {c P : Addr} {params : Arguments} {body : Expr} {scope : Scope} {pos : Pos} (TB : TabB X.base X.mg c P) (hcode : X.env.code = .ref c) (hmT : (P, X.env.qual ++ "<lambda>") ∈ T)
    (hu : ∀ p ∈ T, p.1 = P → p.2 = X.env.qual ++ "<lambda>") (hex : X.ex = []) (hdef : defaultsOf params X.env = ([], [])) (hcl : cloFrom X.env.cells scope.names [] = []) (hfree : ∀ y ∈ scope.names, y.2 = .free → ∃ c, X.env.cells.lookup y.1 = some c) :
    PE X (.Lambda params body scope pos) (tLamE T (X.env.qual ++ "<lambda>") params body scope) := by
  refine ⟨fun pins s σ H Q I h => ?_⟩
  obtain ⟨hT, h⟩ := h
  obtain ⟨ps, hP, ht, ha⟩ := hT _ hmT
  refine PySem.W.kla_eval hdef ?_
  have bP : s.heap.BuiltinsAt X.mg P := TB.bm.keeps I.bk
  have hP' : s.heap.get? P = some { cls := .none, data := .fields ps } := I.hok P _ hP
  have n0 : ∀ f, s.heap.objs.size ≤ f → X.s_0.heap.get? f = none := fun f hf => by
    cases q : X.s_0.heap.get? f with
    | none => rfl
    | some o => exact absurd (Nat.lt_of_lt_of_le (Heap.lt_size q) (Nat.le_trans I.sz hf)) (Nat.lt_irrefl _)
  have nL : ∀ f, s.heap.objs.size ≤ f → f ≠ X.env.locals := fun f hf z => by
    have h1 := I.lt
    rw [← z] at h1
    exact absurd (Nat.lt_of_lt_of_le h1 hf) (Nat.lt_irrefl _)
  have np : ∀ f, s.heap.objs.size ≤ f → ∀ p ∈ X.pn ++ pins, p.1 ≠ f := fun f hf p hp z => by
    have q := (I.pin p hp).1
    rw [z] at q
    exact absurd (Nat.lt_of_lt_of_le (Heap.lt_size q) hf) (Nat.lt_irrefl _)
  cases hc : codeAmong pos ps.toList with
  | none =>
    refine PySem.W.kla_makeFunction (mg := X.mg) (c := c) (P := P) (ps := ps) (closure_ok hfree) I.ok.glob (I.mod.glob.keeps I.bk) hcode (TB.code.keeps I.bk) hP' ht hc TB.gP bP fun c' ctv h' tk hx hge hlt hrec htb => ?_
    obtain ⟨c2, oc, vs, t, e2, hoc, hd, hv⟩ := hrec
    cases e2
    have hsz : s.heap.objs.size ≤ h'.objs.size := Nat.le_trans hge (Nat.le_of_lt hlt)
    have nC : H c' = none := I.hok.fresh hge
    have I1 := inv_table (t' := tk) (more := #[rawInt pos.line, rawInt pos.col, .ref c']) (h' := h'.push (PySem.W.kla_obj "<lambda>" (X.env.qual ++ "<lambda>") params body scope (cloFrom X.env.cells scope.names []) ((X.mg "__name__").getD .none) c' ctv)) I hP
      (fun b o hb e => Heap.get?_push_of_some _ (hx b o hb e)) (Heap.get?_push_of_some _ htb) hge ⟨oc, vs, t, Heap.get?_push_of_some _ hoc, hd, hv⟩
    have hE : ExtN H (upd (upd H P (.tbl (ps ++ #[rawInt pos.line, rawInt pos.col, .ref c']))) c' (CodeO c' (X.env.qual ++ "<lambda>"))) := fun b o e n => by
      rw [upd_ne (ne_of_none e nC), upd_ne (fun z => n ps (Option.some.inj (e.symm.trans (by rw [z]; exact hP))))]
      exact e
    have eL : (ps ++ #[rawInt pos.line, rawInt pos.col, .ref c']).toList = ps.toList ++ [rawInt pos.line, rawInt pos.col, .ref c'] := by simp
    have n1 : h'.objs.size ≠ c' := Nat.ne_of_gt hlt
    have n2 : h'.objs.size ≠ P := Nat.ne_of_gt (Nat.lt_of_lt_of_le (Heap.lt_size hP') hsz)
    have hfn : upd (upd H P (.tbl (ps ++ #[rawInt pos.line, rawInt pos.col, .ref c']))) c' (CodeO c' (X.env.qual ++ "<lambda>")) h'.objs.size = none := by
      rw [upd_ne n1, upd_ne n2]
      exact I.hok.fresh hsz
    have hT1 : Tabs T (upd (upd H P (.tbl (ps ++ #[rawInt pos.line, rawInt pos.col, .ref c']))) c' (CodeO c' (X.env.qual ++ "<lambda>"))) := fun p hp => by
      by_cases hb : p.1 = P
      · rw [hu p hp hb, hb]
        refine ⟨_, by rw [upd_ne (ne_of_none hP nC), upd_same], by rw [eL]; exact PySem.TriplesOk_snoc _ _ _ _ ht, fun p' cv hcv => ?_⟩
        rw [eL] at hcv
        rcases among_app _ ht hcv with z | z
        · obtain ⟨c0, e1, e2⟩ := ha p' cv z
          exact ⟨c0, e1, hE _ _ e2 codeO_ne⟩
        · exact ⟨c', z, upd_same⟩
      · obtain ⟨ps', a1, a2, a3⟩ := hT p hp
        refine ⟨ps', by rw [upd_ne (ne_of_none a1 nC), upd_ne hb]; exact a1, a2, fun p' cv hcv => ?_⟩
        obtain ⟨c0, e1, e2⟩ := a3 p' cv hcv
        exact ⟨c0, e1, hE _ _ e2 codeO_ne⟩
    rw [hcl] at I1 ⊢
    have hob : (h'.push (PySem.W.kla_obj "<lambda>" (X.env.qual ++ "<lambda>") params body scope [] ((X.mg "__name__").getD .none) c' ctv)).get? h'.objs.size = some (PySem.W.kla_obj "<lambda>" (X.env.qual ++ "<lambda>") params body scope [] ((X.mg "__name__").getD .none) c' ctv) := Heap.get?_push_size _ rfl
    have I2 := track_new I1 hob (fun v z => by cases z) hfn (n0 _ hsz) (nL _ hsz) (np _ hsz) (lamO_ok hob)
    exact ⟨.ref h'.objs.size, _, I2, rfl, h _ c' _ (I.hok.fresh hsz) hE hfn hT1 upd_same⟩
  | some cv =>
    obtain ⟨c', e, hco⟩ := ha pos cv hc
    subst e
    refine PySem.W.kla_makeFunctionHit (mg := X.mg) (c := c) (P := P) (ps := ps) (closure_ok hfree) I.ok.glob (I.mod.glob.keeps I.bk) hcode (TB.code.keeps I.bk) hP' ht hc bP fun ctv h' tk hx hsz => ?_
    rw [hcl]
    have I1 : Inv X pins σ H { s with heap := h'.push (PySem.W.kla_obj "<lambda>" (X.env.qual ++ "<lambda>") params body scope [] ((X.mg "__name__").getD .none) c' ctv), toks := tk } := I.kept fun b o e => Heap.get?_push_of_some _ (hx b o e)
    have hob : (h'.push (PySem.W.kla_obj "<lambda>" (X.env.qual ++ "<lambda>") params body scope [] ((X.mg "__name__").getD .none) c' ctv)).get? h'.objs.size = some (PySem.W.kla_obj "<lambda>" (X.env.qual ++ "<lambda>") params body scope [] ((X.mg "__name__").getD .none) c' ctv) := Heap.get?_push_size _ rfl
    have I2 := track_new I1 hob (fun v z => by cases z) (I.hok.fresh hsz) (n0 _ hsz) (nL _ hsz) (np _ hsz) (lamO_ok hob)
    exact ⟨.ref h'.objs.size, _, I2, rfl, h _ c' H (I.hok.fresh hsz) (ExtN.refl H) (I.hok.fresh hsz) hT hco⟩
end
/-! ### a lambda is called -/
theorem run_lam {P : Program} {w : World} {K : PySem.W.Frag} {mg : Str → Option Value} {base : Heap} {k : Nat} {f c : Addr} {q : Str} {params : Arguments} {body : Expr} {scope : Scope} {N ps : List Str} (S : FnScope N ps scope)
    (hbind : ∀ (pm ctv : Value) (us : List Value), us.length = ps.length → bindArgs (PySem.W.kla_fn "<lambda>" q params body scope [] pm (.ref c) ctv) ⟨us, []⟩ = pure (ps.zip us))
    {A : Around} {outer : List Env} {s : Shared} {H : Hp} {us : List Value} {vs : List V} {Q : VK} {E : XK} (hr : Room (k + 1) A) (e0 : Env0 P w K mg base A outer s H) (hf : H f = some (LamO q params body scope f c)) (hc : H c = some (CodeO c q)) (r : Vals vs us) (hl : vs.length = ps.length)
    (hbody : Room k (A.deeper (envOfC q scope s.heap.objs.size f (.ref c))) → ∃ t, PE (cxOf (L2.CX P w) P w K mg base N q scope f (.ref c) A outer s H E) body t ∧ t (L2.start N vs) H Q) :
    codeAny (model P w) A (.call (.ref f) ⟨us, []⟩) (CR (L2.CX P w) outer P w H s Q E) s := by
  have lim : s.heap.NoLimit := e0.mod.nolimit.keeps fun b o e => (e0.bs b o e).1
  obtain ⟨⟨pm, ctv, hget⟩, _, _⟩ := e0.hok f _ hf
  obtain ⟨⟨oc, vs2, t, hoc, hdc, hvc⟩, _, _⟩ := e0.hok c _ hc
  have hkind : ∀ y ∈ ps.zip us, scope.names.lookup y.1 = some .local ∨ (scope.names.lookup y.1 = some .cell ∧ ((cellsFrom (s.heap.objs.size + 1) scope.names []).lookup y.1).isSome = true) := fun ⟨n, v⟩ hy => by
    rcases S.par n (List.of_mem_zip hy).1 with q | q
    · exact .inl q
    · exact .inr ⟨q, PySem.W.cellsFrom_some _ _ _ (.inl q)⟩
  refine PySem.W.kla_callFunE hr.depth hget rfl S.co S.gen rfl ⟨c, oc, vs2, t, rfl, hoc, hdc, hvc⟩ ?_
  rw [hbind pm ctv us (by rw [← r.length]; exact hl)]
  refine wpAny_pure (wpAny_newFunctionEnv_cells S.kind hkind fun env he s1 x => ?_)
  subst he
  refine ⟨lim.keeps x.toInCall.keep, ?_⟩
  obtain ⟨t', ht, hq⟩ := hbody (hr.deeper _)
  have I : Inv (cxOf (L2.CX P w) P w K mg base N q scope f (.ref c) A outer s H E) [] (L2.start N vs) H s1 := inv_start S hr.hd e0 hl r x
  refine PySem.W.kla_codeExpr (wpAny_mono (ht.run [] s1 (L2.start N vs) H Q I hq) (fun v s' hq => ?_) fun e s' hs => hs)
  obtain ⟨w', H', J, rv, q'⟩ := hq
  exact ⟨w', H', J.os, J.bare, J.base, J.hok, rv, q'⟩
/-! ### what a name may hold -/
/-- the alternatives: f called with vs -/
abbrev TAlt := Addr → List V → Hp → VK → Prop
structure Alt (X : Cx) (alt : TAlt) : Prop where
  run : ∀ (pins : List (Addr × Obj)) (σ : L2.St) (H : Hp) (s : Shared) (f : Addr) (us : List Value) (vs : List V) (Q : VK), Inv X pins σ H s → Vals vs us → alt f vs H Q →
    wpAny (model X.prog X.w) X.A (call (.ref f) us) (EP X pins σ Q) X.xe s
def aOr (a b : TAlt) : TAlt := fun f vs H Q => a f vs H Q ∨ b f vs H Q
def aFn (f : Addr) (sp : Sp) (E : XK) : TAlt := fun g vs H Q => g = f ∧ sp vs H Q E
def aLam (q : Str) (params : Arguments) (body : Expr) (scope : Scope) (N ps : List Str) (t : TE) : TAlt := fun f vs H Q => ∃ c, H f = some (LamO q params body scope f c) ∧ H c = some (CodeO c q) ∧ vs.length = ps.length ∧ t (L2.start N vs) H Q
/-- x(e, ..), slot i holds one of the alternatives: a def of the text, or a lambda that stands in the heap -/
def tCallAlt (K : PySem.W.Frag) (i : Nat) (alt : TAlt) (t : TA) : TE := fun σ H Q => ∃ f, σ[i]? = some (some (.ref f)) ∧
  ((PySem.W.keepIn K (.ref f) = true ∧ t σ H fun vs H1 => alt f vs H1 Q) ∨
    ∃ q params body scope c, H f = some (LamO q params body scope f c) ∧ t σ H fun vs H1 => H1 f = some (LamO q params body scope f c) ∧ alt f vs H1 Q)
section
variable {X : Cx}
theorem Alt.or {a b : TAlt} (ha : Alt X a) (hb : Alt X b) : Alt X (aOr a b) := ⟨fun pins σ H s f us vs Q I r h => h.elim (ha.run pins σ H s f us vs Q I r) (hb.run pins σ H s f us vs Q I r)⟩
theorem alt_fn {CX : CXT} {k : Nat} {f : Addr} {fd : FuncData} {ps : List Str} {sp : Sp} {E : XK} (F : FnOk X.prog X.w X.K X.mg X.base CX k f fd ps sp) (hr : Room k X.A) (hb : Binds X.K fd ps []) (hx : Passes CX X E) : Alt X (aFn f sp E) := ⟨fun pins σ H s g us vs Q I r h => by
  obtain ⟨rfl, h⟩ := h
  exact run_fn (dvs := []) (ds := []) F hr hb .nil hx I r (by rw [List.append_nil]; exact h)⟩
theorem alt_lam {k : Nat} {q : Str} {params : Arguments} {body : Expr} {scope : Scope} {N ps : List Str} {t : TE} {E : XK} (S : FnScope N ps scope)
    (hbind : ∀ (pm cv ctv : Value) (us : List Value), us.length = ps.length → bindArgs (PySem.W.kla_fn "<lambda>" q params body scope [] pm cv ctv) ⟨us, []⟩ = pure (ps.zip us))
    (hr : Room (k + 1) X.A) (hx : Passes (L2.CX X.prog X.w) X E)
    (hbody : ∀ (f c : Addr) (A : Around) (outer : List Env) (s : Shared) (H : Hp), Room k (A.deeper (envOfC q scope s.heap.objs.size f (.ref c))) → PE (cxOf (L2.CX X.prog X.w) X.prog X.w X.K X.mg X.base N q scope f (.ref c) A outer s H E) body t) :
    Alt X (aLam q params body scope N ps t) := ⟨fun pins σ H s f us vs Q I r h => by
  obtain ⟨c, hf, hc, hl, ht⟩ := h
  refine wpAny_call (codeAny_mono (run_lam (k := k) S (fun pm ctv us hu => hbind pm _ ctv us hu) hr I.env0 hf hc r hl fun hr2 => ⟨t, hbody f c _ _ _ _ hr2, ht⟩) fun r s' hq => ?_)
  cases r with
  | error e => exact hx pins σ H s e s' I hq
  | ok fl =>
    cases fl with
    | ret u => exact I.after hq
    | next => exact False.elim hq
    | brk => exact False.elim hq
    | cont => exact False.elim hq⟩
variable {x : Str} {p pos : Pos} {e : Expr} {es : List Expr} {t : TA} {i : Nat} {alt : TAlt}
theorem pe_callAlt (ha : Alt X alt) (hN : X.N[i]? = some x) (hv : Vis X.env.scope x) (hp : PA X (e :: es) t)
    (hdb : (x == ("__debug__" : Str)) = false := by decide) (hcd : (x == ("__classdict__" : Str)) = false := by decide)
    (he : starEach (e :: es) X.env = (false, eval e X.env) :: starEach es X.env := by rfl) (hpl : (backTo pos (starEach es X.env)).any (·.1) = false := by rfl) : PE X (.Call (.Name x p) (e :: es) [] pos) (tCallAlt X.K i alt t) := by
  refine ⟨fun pins s σ H Q I h => ?_⟩
  obtain ⟨f, hs, ht⟩ := h
  refine wpAny_Call_Name_kw (thn ((pe_var (pos := p) hN hv hdb hcd).run pins s σ H (fun v H1 => v = .ref f ∧ H1 = H) I ⟨.ref f, hs, rfl, rfl⟩) fun u s1 ⟨v, H1, I1, r1, q1⟩ => ?_)
  obtain ⟨rfl, rfl⟩ := q1
  cases r1
  rcases ht with ⟨hk, ht⟩ | ⟨q, params, body, scope, c, hf, ht⟩
  · exact PySem.W.callWith_K (h₀ := X.base) I.ok.mod.kin hk (thn (hp.run pos pins s1 σ _ _ I1 ht) fun us s2 ⟨vs, H2, I2, r, q⟩ => ⟨I2.kIn, ha.run pins σ H2 s2 f us vs Q I2 r q⟩) he hpl
  · have at' : ∀ {s : Shared} {H : Hp}, Inv X pins σ H s → H f = some (LamO q params body scope f c) → PySem.W.FnAt f s.heap := fun {s H} I h => by
      obtain ⟨⟨pm, ctv, hget⟩, _, _⟩ := I.hok f _ h
      exact ⟨_, _, _, _, hget⟩
    exact PySem.W.callWith_F (at' I1 hf) (thn (hp.run pos pins s1 σ _ _ I1 ht) fun us s2 ⟨vs, H2, I2, r, h2, q⟩ => ⟨at' I2 h2, ha.run pins σ H2 s2 f us vs Q I2 r q⟩) he hpl
end
end Ql
set_option maxRecDepth 100000
set_option maxHeartbeats 4000000
namespace Ql
open PySem PySem.Spec PyProof.Rows L2 LamX Qx
/-- y = None; try: a() / except E as n: y = n; return y -/
def TCaught (K : PySem.W.Frag) (CS : Addr) : (XK → Hp → VK → Prop) → Hp → VK → Prop := fun tl H Q =>
  tl (fun cls d H' => ∃ b, PySem.W.exmOne K cls (.ref CS) = some b ∧ (b = true → ∀ p, H' p = none → Q (.ref p) (upd H' p (ExH cls d p))) ∧ (b = false → False)) H fun _ H' => Q .non H'
theorem caught_gives {X : Cx} {x a y n e q : Str} {sg : Scope} {g CS : Addr} {cdg : Value} {j : Nat} {p1 p2 p3 p4 p5 p6 p7 p8 p9 p10 p11 p12 p13 p14 : Pos}
    (hge : sg.names.lookup e = some .globalImplicit) (hme : X.mg e = some (.ref CS)) (hde : (e == ("__debug__" : Str)) = false) (nd : [a, y, n].Nodup)
    (hla : sg.names.lookup a = some .local) (hly : sg.names.lookup y = some .local) (hln : sg.names.lookup n = some .local)
    (hdy : (y == ("__debug__" : Str)) = false) (hcy : (y == ("__classdict__" : Str)) = false) (hdn : (n == ("__debug__" : Str)) = false) (hcn : (n == ("__classdict__" : Str)) = false) :
    GivesTo X [a, y, n] x sg g cdg [.Assign [.Name y p1] (.Constant .none j p2) p3, .Try [.Expr (.Call (.Name a p4) [] [] p5) p6] [.ExceptHandler (some (.Name e p7)) (some n) [.Assign [.Name y p8] (.Name n p9) p10] p11] [] [] p12, .Return (some (.Name y p13)) p14] a q (TCaught X.K CS) := by
  intro f c' s H Q tl act hc h
  let Z := (cxOf C8.CX0 X.prog X.w X.K X.mg X.base [a, y, n] x sg g cdg X.A X.stack s H C8.E0).nox
  have hgl : Gl Z e := hge
  have vy : PE Z (.Name y p13) (tVar 1) := pe_var (X := Z) (i := 1) rfl (.inl hly) hdy hcy
  let tb : WX → TS := fun W D σ H => ∃ Ech : XK, (∀ cls d σ' H', Ech cls d H' → W cls d σ' H') ∧ σ[0]? = some (some (.ref f)) ∧ H c' = some (CodeO c' q) ∧ tl Ech H fun _ H1 => D.nx σ H1
  refine ⟨_, pss_cons (ps_set (X := Z) (i := 1) nd rfl (.inl hly) pe_non) (pss_cons (ps_try_hold (X := Z) (c := .ref CS) (i := 2) (tb := tb) rfl rfl rfl nd rfl hln ⟨hgl, hde, .inl hme⟩ LamX.takes0 (fun W pn xe tk _ => ?_)
    (fun a' oe cls d pn _ _ => pss_one (ps_set (X := Z.suite a' ((a', oe) :: pn)) (i := 1) nd rfl (.inl hly) (pe_var (X := Z.suite a' ((a', oe) :: pn)) (i := 2) rfl (.inl hln) hdn hcn)))) (pss_one (ps_ret vy))), ?_⟩
  · refine ⟨fun pins s' σ H' D I h' => ?_⟩
    obtain ⟨Ech, hW, h1, h2, h3⟩ := h'
    have hp := act W pn xe Ech p4 p5 tk hW
    have hq := pss_one (ps_expr (pos := p6) hp)
    exact hq.run pins s' σ H' D I ⟨h1, h2, h3⟩
  · refine ⟨fun cls d H' => ∃ b, PySem.W.exmOne X.K cls (.ref CS) = some b ∧ (b = true → ∀ p, H' p = none → Q (.ref p) (upd H' p (ExH cls d p))) ∧ (b = false → False), fun cls d σ' H' ⟨b, e1, e2, e3⟩ hl => ?_, rfl, hc, ?_⟩
    · refine ⟨b, e1, fun hb p hp => ?_, fun hb => e3 hb⟩
      have hl3 : σ'.length = 3 := hl
      obtain ⟨u0, u1, u2, rfl⟩ : ∃ u0 u1 u2, σ' = [u0, u1, u2] := match σ', hl3 with | [u0, u1, u2], _ => ⟨u0, u1, u2, rfl⟩
      exact ⟨.ref p, rfl, fun np => ⟨.ref p, rfl, e2 hb p hp⟩⟩
    · have e0 : (fun _ H1 => Q .non H1 : V → Hp → Prop) = fun _ H1 => ∃ v, ((L2.start [a, y, n] [V.ref f]).set 1 (some V.non))[1]? = some (some v) ∧ Q v H1 := by
        funext _ H1
        exact propext ⟨fun z => ⟨.non, rfl, z⟩, fun ⟨v, e, z⟩ => by cases e; exact z⟩
      have h2 := h
      unfold TCaught at h2
      rw [e0] at h2
      exact h2
end Ql
set_option maxRecDepth 100000
set_option maxHeartbeats 4000000
/-! Data: what a value in the heap stands for, and what readings evaluate to as data. -/
namespace Qd
open PySem L2 Evl
/-! ### values that stand for data -/
mutual
inductive Rp (K : PySem.W.Frag) (H : Hp) : V → PyData → Prop
  | non : Rp K H .non .none
  | bl (b : Bool) : Rp K H (.bl b) (.bool b)
  | int (i : Int) : Rp K H (.int i) (.int i)
  | str (x : Str) : Rp K H (.str x) (.str x)
  | lst {a : Addr} {xs : List V} {ds : List PyData} : H a = some (.lst xs) → Rps K H xs ds → Rp K H (.ref a) (.list ds)
  | tup {a : Addr} {xs : List V} {ds : List PyData} : SqT K H a xs → Rps K H xs ds → Rp K H (.ref a) (.tuple ds)
  | dic {a : Addr} {kvs : List (Key × V)} {ks ds : List PyData} : Rd H a (.dK kvs) → Rps K H (kvs.map fun p => kV p.1) ks → Rps K H (kvs.map fun p => p.2) ds → Rp K H (.ref a) (.dict (ks.zip ds))
inductive Rps (K : PySem.W.Frag) (H : Hp) : List V → List PyData → Prop
  | nil : Rps K H [] []
  | cons {v : V} {vs : List V} {d : PyData} {ds : List PyData} : Rp K H v d → Rps K H vs ds → Rps K H (v :: vs) (d :: ds)
end
section
variable {K : PySem.W.Frag} {H H' : Hp}
mutual
theorem Rp.mono (e : Ex H H') : ∀ {d : PyData} {v : V}, Rp K H v d → Rp K H' v d
  | _, _, .non => .non
  | _, _, .bl b => .bl b
  | _, _, .int i => .int i
  | _, _, .str x => .str x
  | _, _, .lst h r => .lst (e _ _ h) (Rps.mono e r)
  | _, _, .tup h r => .tup (ex_t e h) (Rps.mono e r)
  | _, _, .dic h r1 r2 => .dic (ex_rd e h) (Rps.mono e r1) (Rps.mono e r2)
theorem Rps.mono (e : Ex H H') : ∀ {ds : List PyData} {vs : List V}, Rps K H vs ds → Rps K H' vs ds
  | _, _, .nil => .nil
  | _, _, .cons r t => .cons (Rp.mono e r) (Rps.mono e t)
end
theorem Rps.len : ∀ {vs : List V} {ds : List PyData}, Rps K H vs ds → vs.length = ds.length
  | _, _, .nil => rfl
  | _, _, .cons _ t => congrArg Nat.succ (Rps.len t)
theorem Rps.at : ∀ {vs : List V} {ds : List PyData} {i : Nat} {v : V}, Rps K H vs ds → vs[i]? = some v → ∃ d, ds[i]? = some d ∧ Rp K H v d
  | _, _, _, _, .nil, e => by simp at e
  | _, _, 0, _, .cons r _, e => by simp at e; subst e; exact ⟨_, rfl, r⟩
  | _, _, i + 1, v, .cons _ t, e => by
    obtain ⟨d, h1, h2⟩ := Rps.at (i := i) (v := v) t (by simpa using e)
    exact ⟨d, by simpa using h1, h2⟩
theorem Rps.at' : ∀ {vs : List V} {ds : List PyData} {i : Nat} {d : PyData}, Rps K H vs ds → ds[i]? = some d → ∃ v, vs[i]? = some v ∧ Rp K H v d
  | _, _, _, _, .nil, e => by simp at e
  | _, _, 0, _, .cons r _, e => by simp at e; subst e; exact ⟨_, rfl, r⟩
  | _, _, i + 1, v, .cons _ t, e => by
    obtain ⟨d, h1, h2⟩ := Rps.at' (i := i) (d := v) t (by simpa using e)
    exact ⟨d, by simpa using h1, h2⟩
theorem Rps.app : ∀ {vs ws : List V} {ds es : List PyData}, Rps K H vs ds → Rps K H ws es → Rps K H (vs ++ ws) (ds ++ es)
  | _, _, _, _, .nil, s => s
  | _, _, _, _, .cons r t, s => .cons r (Rps.app t s)
theorem Rps.take : ∀ {vs : List V} {ds : List PyData} (n : Nat), Rps K H vs ds → Rps K H (vs.take n) (ds.take n)
  | _, _, 0, _ => .nil
  | _, _, _ + 1, .nil => .nil
  | _, _, n + 1, .cons r t => .cons r (Rps.take n t)
theorem Rps.drop : ∀ {vs : List V} {ds : List PyData} (n : Nat), Rps K H vs ds → Rps K H (vs.drop n) (ds.drop n)
  | _, _, 0, r => r
  | _, _, _ + 1, .nil => .nil
  | _, _, n + 1, .cons _ t => Rps.drop n t
theorem Rps.one {v : V} {d : PyData} (r : Rp K H v d) : Rps K H [v] [d] := .cons r .nil
theorem Rps.bls : ∀ {bs : List Bool} {vs : List V}, Rps K H vs (bs.map .bool) → vs = bs.map V.bl
  | [], _, h => by
    have h : Rps K H _ [] := h
    cases h; rfl
  | b :: bs, _, h => by
    have h : Rps K H _ (.bool b :: bs.map .bool) := h
    cases h with
    | cons r t => cases r; rw [Rps.bls t]; rfl
theorem Rps.strs : ∀ {xs : List Str} {vs : List V}, Rps K H vs (xs.map .str) → vs = xs.map V.str
  | [], _, h => by
    have h : Rps K H _ [] := h
    cases h; rfl
  | b :: bs, _, h => by
    have h : Rps K H _ (.str b :: bs.map .str) := h
    cases h with
    | cons r t => cases r; rw [Rps.strs t]; rfl
theorem Rps.ints : ∀ {xs : List Int} {vs : List V}, Rps K H vs (xs.map .int) → vs = xs.map V.int
  | [], _, h => by
    have h : Rps K H _ [] := h
    cases h; rfl
  | b :: bs, _, h => by
    have h : Rps K H _ (.int b :: bs.map .int) := h
    cases h with
    | cons r t => cases r; rw [Rps.ints t]; rfl
theorem Rps.of_strs : ∀ (xs : List Str), Rps K H (xs.map V.str) (xs.map .str)
  | [] => .nil
  | x :: xs => .cons (.str x) (Rps.of_strs xs)
theorem Rps.of_ints : ∀ (xs : List Int), Rps K H (xs.map V.int) (xs.map .int)
  | [] => .nil
  | x :: xs => .cons (.int x) (Rps.of_ints xs)
theorem Rps.of_bls : ∀ (xs : List Bool), Rps K H (xs.map V.bl) (xs.map .bool)
  | [] => .nil
  | x :: xs => .cons (.bl x) (Rps.of_bls xs)
theorem rp_str {v : V} {x : Str} (r : Rp K H v (.str x)) : v = .str x := by cases r; rfl
theorem rp_int {v : V} {x : Int} (r : Rp K H v (.int x)) : v = .int x := by cases r; rfl
theorem rp_bool {v : V} {x : Bool} (r : Rp K H v (.bool x)) : v = .bl x := by cases r; rfl
theorem rp_none {v : V} (r : Rp K H v .none) : v = .non := by cases r; rfl
theorem rp_tup {v : V} {ds : List PyData} (r : Rp K H v (.tuple ds)) : ∃ a xs, v = .ref a ∧ SqT K H a xs ∧ Rps K H xs ds := by
  cases r with
  | tup h r => exact ⟨_, _, rfl, h, r⟩
theorem rp_lst {v : V} {ds : List PyData} (r : Rp K H v (.list ds)) : ∃ a xs, v = .ref a ∧ H a = some (.lst xs) ∧ Rps K H xs ds := by
  cases r with
  | lst h r => exact ⟨_, _, rfl, h, r⟩
end
/-! ### small data, data without dicts -/
mutual
def sm : PyData → Bool
  | .none => true
  | .bool _ => true
  | .int _ => true
  | .str x => decide (x.length ≤ 1000)
  | .list xs => decide (xs.length ≤ 1000) && smAll xs
  | .tuple xs => decide (xs.length ≤ 1000) && smAll xs
  | .dict _ => true
def smAll : List PyData → Bool
  | [] => true
  | x :: xs => sm x && smAll xs
end
mutual
def flat : PyData → Bool
  | .list xs => flatAll xs
  | .tuple xs => flatAll xs
  | .dict _ => false
  | _ => true
def flatAll : List PyData → Bool
  | [] => true
  | x :: xs => flat x && flatAll xs
end
theorem smAll_mem : ∀ {ds : List PyData}, smAll ds = true → ∀ d ∈ ds, sm d = true
  | [], _, d, h => by simp at h
  | x :: xs, e, d, h => by
    rw [smAll, Bool.and_eq_true] at e
    rcases List.mem_cons.mp h with z | z
    · rw [z]; exact e.1
    · exact smAll_mem e.2 d z
theorem sm_tup {ds : List PyData} (h : sm (.tuple ds) = true) : ds.length ≤ 1000 ∧ ∀ d ∈ ds, sm d = true := by
  rw [sm, Bool.and_eq_true] at h
  exact ⟨of_decide_eq_true h.1, smAll_mem h.2⟩
theorem sm_lst {ds : List PyData} (h : sm (.list ds) = true) : ds.length ≤ 1000 ∧ ∀ d ∈ ds, sm d = true := by
  rw [sm, Bool.and_eq_true] at h
  exact ⟨of_decide_eq_true h.1, smAll_mem h.2⟩
theorem sm_str {x : Str} (h : sm (.str x) = true) : x.length ≤ 1000 := by
  rw [sm] at h
  exact of_decide_eq_true h
section
variable {K : PySem.W.Frag} {H : Hp}
mutual
theorem Rp.dp : ∀ {d : PyData} {v : V}, flat d = true → Rp K H v d → Dp K H v d
  | _, _, _, .non => .non
  | _, _, _, .bl b => .bl b
  | _, _, _, .int i => .int i
  | _, _, _, .str x => .str x
  | _, _, e, .lst h r => .lst (sq_of h) (Rps.dp (by rw [flat] at e; exact e) r)
  | _, _, e, .tup h r => .tup h (Rps.dp (by rw [flat] at e; exact e) r)
  | _, _, e, .dic _ _ _ => by rw [flat] at e; cases e
theorem Rps.dp : ∀ {ds : List PyData} {vs : List V}, flatAll ds = true → Rps K H vs ds → DpAll K H vs ds
  | _, _, _, .nil => .nil
  | _, _, e, .cons r t => by
    rw [flatAll, Bool.and_eq_true] at e
    exact .cons (Rp.dp e.1 r) (Rps.dp e.2 t)
end
end
/-! ### readings that give data -/
def EvD (K : PySem.W.Frag) (te : TE) (σ : L2.St) (H : Hp) (d : PyData) : Prop := ∀ H1, Ex H H1 → ∀ Q : VK, (∀ v H2, Ex H1 H2 → Rp K H2 v d → Q v H2) → te σ H1 Q
def EvDs (K : PySem.W.Frag) (ta : TA) (σ : L2.St) (H : Hp) (ds : List PyData) : Prop := ∀ H1, Ex H H1 → ∀ Q : List V → Hp → Prop, (∀ vs H2, Ex H1 H2 → Rps K H2 vs ds → Q vs H2) → ta σ H1 Q
section
variable {K : PySem.W.Frag} {σ : L2.St} {H H' : Hp} {ta tb te tx : TE} {t u : TT} {v x y : V} {d e : PyData} {ds es : List PyData}
theorem EvD.mono (e : Ex H H') (h : EvD K te σ H d) : EvD K te σ H' d := fun H1 a Q q => h H1 (e.trans a) Q q
theorem EvDs.mono {ta : TA} (e : Ex H H') (h : EvDs K ta σ H ds) : EvDs K ta σ H' ds := fun H1 a Q q => h H1 (e.trans a) Q q
/-- a plain value -/
theorem evd_of (h : Ev te σ H v) (r : Rp K H v d) : EvD K te σ H d := fun H1 e Q q => h H1 e Q fun H2 e2 => q v H2 e2 (r.mono (e.trans e2))
theorem evd_bool {b : Bool} (h : Ev te σ H (.bl b)) : EvD K te σ H (.bool b) := evd_of h (.bl b)
theorem evd_int {i : Int} (h : Ev te σ H (.int i)) : EvD K te σ H (.int i) := evd_of h (.int i)
theorem evd_str {x : Str} (h : Ev te σ H (.str x)) : EvD K te σ H (.str x) := evd_of h (.str x)
theorem ev_bool {b : Bool} (h : EvD K te σ H (.bool b)) : Ev te σ H (.bl b) := fun H1 e Q q => h H1 e Q fun v H2 e2 r => by rw [rp_bool r]; exact q H2 e2
theorem ev_int {i : Int} (h : EvD K te σ H (.int i)) : Ev te σ H (.int i) := fun H1 e Q q => h H1 e Q fun v H2 e2 r => by rw [rp_int r]; exact q H2 e2
theorem ev_str {x : Str} (h : EvD K te σ H (.str x)) : Ev te σ H (.str x) := fun H1 e Q q => h H1 e Q fun v H2 e2 r => by rw [rp_str r]; exact q H2 e2
theorem ev_none (h : EvD K te σ H .none) : Ev te σ H .non := fun H1 e Q q => h H1 e Q fun v H2 e2 r => by rw [rp_none r]; exact q H2 e2
theorem evd_var {i : Nat} (hs : σ[i]? = some (some v)) (r : Rp K H v d) : EvD K (tVar i) σ H d := evd_of (ev_var hs) r
theorem evd_is (h : EvD K te σ H d) (q : d = e) : EvD K te σ H e := q ▸ h
theorem eds_nil : EvDs K tNil σ H [] := fun H1 _ Q q => q [] H1 (Ex.refl H1) .nil
theorem eds_cons {tr : TA} (h : EvD K te σ H d) (hr : EvDs K tr σ H ds) : EvDs K (tCons te tr) σ H (d :: ds) := fun H1 e Q q =>
  h H1 e _ fun v H2 e2 r => hr H2 (e.trans e2) _ fun vs H3 e3 rs => q _ H3 (e2.trans e3) (.cons (r.mono e3) rs)
theorem eds_one (h : EvD K te σ H d) : EvDs K (tCons te tNil) σ H [d] := eds_cons h eds_nil
theorem evd_tup {ta : TA} (h : EvDs K ta σ H ds) (hl : ds.length ≤ 100000) : EvD K (tTup ta) σ H (.tuple ds) := fun H1 e Q q =>
  h H1 e _ fun vs H2 e2 r => ⟨by rw [r.len]; exact sz_of hl, fun p hp => q _ _ (e2.trans (Ex.new hp)) (.tup (st_of upd_same) (r.mono (Ex.new hp)))⟩
theorem evd_lst {ta : TA} (h : EvDs K ta σ H ds) (hl : ds.length ≤ 100000) : EvD K (tLst ta) σ H (.list ds) := fun H1 e Q q =>
  h H1 e _ fun vs H2 e2 r => ⟨by rw [r.len]; exact sz_of hl, fun p hp => q _ _ (e2.trans (Ex.new hp)) (.lst upd_same (r.mono (Ex.new hp)))⟩
/-- a, if t, else b -/
theorem evd_if {b : Bool} (h : EvT t σ H b) (h1 : b = true → EvD K ta σ H d) (h2 : b = false → EvD K tb σ H d) : EvD K (tIf t ta tb) σ H d := fun H1 e Q q => h H1 e _ fun H2 e2 => by
  cases b with
  | true => exact h1 rfl H2 (e.trans e2) Q fun v H3 e3 r => q v H3 (e2.trans e3) r
  | false => exact h2 rfl H2 (e.trans e2) Q fun v H3 e3 r => q v H3 (e2.trans e3) r
/-! ### operators by values, as data -/
def RD2 (K : PySem.W.Frag) (r : R2) (d e f : PyData) : Prop := ∀ H x y, Rp K H x d → Rp K H y e → ∀ Q : VK, (∀ v H2, Ex H H2 → Rp K H2 v f → Q v H2) → r x y H Q
def RD1 (K : PySem.W.Frag) (r : List V → Hp → VK → Prop) (ds : List PyData) (f : PyData) : Prop := ∀ H xs, Rps K H xs ds → ∀ Q : VK, (∀ v H2, Ex H H2 → Rp K H2 v f → Q v H2) → r xs H Q
theorem evd_op {r : R2} {f : PyData} (ha : EvD K ta σ H d) (hb : EvD K tb σ H e) (hr : RD2 K r d e f) : EvD K (tOp r ta tb) σ H f := fun H1 e1 Q q =>
  ha H1 e1 _ fun x H2 e2 rx => hb H2 (e1.trans e2) _ fun y H3 e3 ry => hr H3 x y (rx.mono e3) ry Q fun v H4 e4 rv => q v H4 ((e2.trans e3).trans e4) rv
theorem evd_cb {r : List V → Hp → VK → Prop} {ta : TA} {f : PyData} (ha : EvDs K ta σ H ds) (hr : RD1 K r ds f) : EvD K (tCB r ta) σ H f := fun H1 e1 Q q =>
  ha H1 e1 _ fun xs H2 e2 rs => hr H2 xs rs Q fun v H3 e3 rv => q v H3 (e2.trans e3) rv
/-- a value of a rule that changes nothing -/
theorem rd2_same {r : R2} {f : PyData} (h : ∀ H x y, Rp K H x d → Rp K H y e → ∀ Q : VK, (∀ v, Rp K H v f → Q v H) → r x y H Q) : RD2 K r d e f := fun H x y rx ry Q q => h H x y rx ry Q fun v rv => q v H (Ex.refl H) rv
theorem rd1_same {r : List V → Hp → VK → Prop} {f : PyData} (h : ∀ H xs, Rps K H xs ds → ∀ Q : VK, (∀ v, Rp K H v f → Q v H) → r xs H Q) : RD1 K r ds f := fun H xs rs Q q => h H xs rs Q fun v rv => q v H (Ex.refl H) rv
/-! isinstance -/
def tyName : PyData → String
  | .none => "NoneType"
  | .bool _ => "bool"
  | .int _ => "int"
  | .str _ => "str"
  | .list _ => "list"
  | .tuple _ => "tuple"
  | .dict _ => "dict"
theorem ty_of {H : Hp} : ∀ {d : PyData} {v : V}, Rp K H v d → TyX K H v (.type (tyName d))
  | _, _, .non => .base .non
  | _, _, .bl b => .base (.bl b)
  | _, _, .int i => .base (.int i)
  | _, _, .str x => .base (.str x)
  | _, _, .lst h _ => .base (.lst h)
  | _, _, .tup (.inl (.inl h)) _ => .base (.tup h)
  | _, _, .tup (.inl (.inr ⟨_, h⟩)) _ => .fTuple h
  | _, _, .tup (.inr ⟨_, _, _, h1, h2, _⟩) _ => .kTuple h1 h2
  | _, _, .dic (.inl h) _ _ => .base (.dK h)
  | _, _, .dic (.inr ⟨_, h⟩) _ _ => .fDict h
/-- is it a T? (bool is a kind of int) -/
def isN (T n : String) : Bool := decide (n = T) || (decide (T = "int") && decide (n = "bool"))
def isA (T : String) (d : PyData) : Bool := isN T (tyName d)
theorem kit_all : ∀ n ∈ ["NoneType", "bool", "int", "str", "list", "tuple", "dict"], ∀ T ∈ ["str", "int", "bool", "tuple", "list", "dict"], kitB n T = some (isN T n) := by decide +kernel
theorem ty_mem (d : PyData) : tyName d ∈ ["NoneType", "bool", "int", "str", "list", "tuple", "dict"] := by cases d <;> simp [tyName]
theorem kit_isA {T : String} (h : T ∈ ["str", "int", "bool", "tuple", "list", "dict"]) (d : PyData) : kitB (tyName d) T = some (isA T d) := kit_all _ (ty_mem d) T h
theorem ev_isa {T : String} (h : T ∈ ["str", "int", "bool", "tuple", "list", "dict"]) (ha : EvD K ta σ H d) : Ev (tCB (rIsi K) (tCons ta (tCons (tC (.ty T)) tNil))) σ H (.bl (isA T d)) := fun H1 e1 Q q =>
  ha H1 e1 _ fun x H2 e2 r => ⟨x, .ty T, _, _, _, rfl, .ty T, ty_of r, kit_ty (kit_isA h d), q H2 e2⟩
/-! len -/
def lenD : PyData → Nat
  | .str x => x.length
  | .list xs => xs.length
  | .tuple xs => xs.length
  | _ => 0
def sized : PyData → Bool
  | .str _ => true
  | .list _ => true
  | .tuple _ => true
  | _ => false
theorem ev_len {n : Nat} (ha : EvD K ta σ H d) (hs : sized d = true) (hl : ∀ x, d = .str x → x.length ≤ 100000) (hn : lenD d = n) : Ev (tCB (fun xs H Q => ∃ x n, xs = [x] ∧ LenV K x H n ∧ Q (.int n) H) (tCons ta tNil)) σ H (.int n) := fun H1 e1 Q q =>
  ha H1 e1 _ fun x H2 e2 r => by
    subst hn
    refine ⟨x, lenD d, rfl, ?_, q H2 e2⟩
    cases r with
    | str y => exact ⟨sz_of (hl y rfl), rfl⟩
    | lst h r => exact .inl ⟨_, sq_of h, r.len.symm⟩
    | tup h r => exact .inr ⟨_, h, r.len.symm⟩
    | _ => cases hs
end
end Qd
set_option maxRecDepth 100000
set_option maxHeartbeats 4000000
/-! Readings that give data, in a world: some objects are hidden, some may change, some credit is spent. -/
namespace Qe
open PySem L2 Evl Qd
open Classical in
noncomputable def hid (A : Addr → Prop) (H : Hp) : Hp := fun p => if A p then none else H p
section
variable {A B : Addr → Prop} {H H' : Hp} {p a : Addr} {o u : HO}
theorem hid_at (h : ¬ A p) : hid A H p = H p := if_neg h
theorem hid_no (h : A p) : hid A H p = none := if_pos h
theorem hid_vis (e : hid A H p = some o) : ¬ A p ∧ H p = some o := by
  by_cases h : A p
  · rw [hid_no h] at e; cases e
  · rw [hid_at h] at e; exact ⟨h, e⟩
theorem hid_ex : Ex (hid A H) H := fun a o e => (hid_vis e).2
theorem ex_hid (e : Ex H H') : Ex (hid A H) (hid A H') := fun a o q => by
  obtain ⟨h, q⟩ := hid_vis q
  rw [hid_at h]
  exact e a o q
theorem hid_new (h : ¬ A p) : hid A (upd H p o) = upd (hid A H) p o := by
  funext x
  by_cases hx : x = p
  · subst hx
    rw [hid_at h, upd_same, upd_same]
  · rw [upd_ne hx]
    by_cases h2 : A x
    · rw [hid_no h2, hid_no h2]
    · rw [hid_at h2, hid_at h2, upd_ne hx]
theorem hid_mut (h : A p) : hid A (upd H p o) = hid A H := by
  funext x
  by_cases h2 : A x
  · rw [hid_no h2, hid_no h2]
  · rw [hid_at h2, hid_at h2, upd_ne (fun e => h2 (by rw [e]; exact h))]
theorem hid_sub (s : ∀ p, A p → B p) : Ex (hid B H) (hid A H) := fun a o e => by
  obtain ⟨h, q⟩ := hid_vis e
  rw [hid_at fun z => h (s a z)]
  exact q
end
/-- A: hidden; I b: what stands, b left to spend; R: how the heap may change -/
structure Wd where
  A : Addr → Prop
  I : Nat → Hp → Prop
  R : Hp → Hp → Prop
  refl : ∀ H, R H H
  trans : ∀ {a b c}, R a b → R b c → R a c
  up : ∀ {b H H'}, I b H → R H H' → Ex (hid A H) (hid A H')
  new : ∀ {b H H'}, I b H → Ex H H' → R H H' ∧ I b H'
  alive : ∀ {b H a}, I b H → A a → H a ≠ none
  less : ∀ {b c H}, I (b + c) H → I b H
  mtt : ∀ {b H H' D o}, I b H → H D = none → R H H' → R H (upd H' D o)
  imt : ∀ {b H D o}, I b H → ¬ A D → I b (upd H D o)
namespace Wd
noncomputable abbrev m (W : Wd) (H : Hp) : Hp := hid W.A H
/-- nothing but new objects -/
def pure (A : Addr → Prop) : Wd where
  A := A
  I := fun _ H => ∀ a, A a → H a ≠ none
  R := Ex
  refl := Ex.refl
  trans := Ex.trans
  up := fun _ e => ex_hid e
  new := fun {b H H'} i e => ⟨e, fun a h z => by
    cases q : H a with
    | none => exact i a h q
    | some o => rw [e a o q] at z; cases z⟩
  alive := fun i h => i _ h
  less := fun i => i
  mtt := fun i h e => Ex.mut e h
  imt := fun i h a ha => by
    rw [upd_ne fun e => h (by rw [← e]; exact ha)]
    exact i a ha
/-- one object more is hidden, and kept -/
def hide (W : Wd) (x : Addr) : Wd where
  A := fun a => W.A a ∨ a = x
  I := fun b H => W.I b H ∧ H x ≠ none
  R := fun H H' => W.R H H' ∧ H' x = H x
  refl := fun H => ⟨W.refl H, rfl⟩
  trans := fun a b => ⟨W.trans a.1 b.1, b.2.trans a.2⟩
  up := fun i r a o e => by
    obtain ⟨h, q⟩ := hid_vis e
    have h1 : ¬ W.A a := fun z => h (.inl z)
    have q2 := W.up i.1 r.1 a o (by rw [hid_at h1]; exact q)
    rw [hid_at h]
    exact (hid_vis q2).2
  new := fun i e => by
    obtain ⟨r, j⟩ := W.new i.1 e
    obtain ⟨o, q⟩ := Option.ne_none_iff_exists'.mp i.2
    have q2 := e _ o q
    exact ⟨⟨r, q2.trans q.symm⟩, j, by rw [q2]; simp⟩
  alive := fun i h => h.elim (W.alive i.1) fun e => e ▸ i.2
  less := fun i => ⟨W.less i.1, i.2⟩
  mtt := fun i h r => ⟨W.mtt i.1 h r.1, by
    rw [upd_ne fun e => i.2 (by rw [e]; exact h)]
    exact r.2⟩
  imt := fun i h => ⟨W.imt i.1 fun z => h (.inl z), by
    rw [upd_ne fun e => h (.inr e.symm)]
    exact i.2⟩
section
variable {W : Wd} {H H1 H2 : Hp} {b c : Nat} {p x : Addr} {o : HO}
theorem fresh (i : W.I b H) (h : H p = none) : ¬ W.A p := fun z => W.alive i z h
theorem less' (h : c ≤ b) (i : W.I b H) : W.I c H := by
  obtain ⟨d, rfl⟩ := Nat.le.dest h
  exact W.less i
theorem exI (i : W.I b H) (e : Ex H H1) : Ex (W.m H) (W.m H1) := ex_hid e
/-- behind a new object -/
theorem hideI (i : W.I b H) (h : H p = none) : (W.hide p).I b (upd H p o) := ⟨(W.new i (Ex.new h)).2, by rw [upd_same]; simp⟩
theorem hide_ex (h : H p = none) : Ex (W.m H) ((W.hide p).m (upd H p o)) := fun a u e => by
  obtain ⟨h1, q⟩ := hid_vis e
  have ne : a ≠ p := ne_of_none q h
  have h2 : ¬ (W.hide p).A a := fun z => z.elim h1 ne
  rw [show (W.hide p).m (upd H p o) a = upd H p o a from hid_at h2, upd_ne ne]
  exact q
theorem hide_sub : Ex ((W.hide p).m H) (W.m H) := hid_sub fun _ h => .inl h
/-- the hidden one is stored into -/
theorem hide_mut (i : (W.hide p).I b H) (nA : ¬ W.A p) : (W.hide p).I b (upd H p o) := ⟨W.imt i.1 nA, by rw [upd_same]; simp⟩
theorem hide_m : (W.hide p).m (upd H p o) = (W.hide p).m H := hid_mut (.inr rfl)
end
end Wd
/-! ### judgements -/
section
variable (W : Wd) (K : PySem.W.Frag)
def EvP (c : Nat) (te : TE) (σ : L2.St) (H : Hp) (p : PyData → Prop) : Prop := ∀ b H1, W.I (b + c) H1 → Ex (W.m H) (W.m H1) → ∀ Q : VK, (∀ v H2 d, W.I b H2 → W.R H1 H2 → Rp K (W.m H2) v d → p d → Q v H2) → te σ H1 Q
def EaP (c : Nat) (ta : TA) (σ : L2.St) (H : Hp) (p : List PyData → Prop) : Prop := ∀ b H1, W.I (b + c) H1 → Ex (W.m H) (W.m H1) → ∀ Q : List V → Hp → Prop, (∀ vs H2 ds, W.I b H2 → W.R H1 H2 → Rps K (W.m H2) vs ds → p ds → Q vs H2) → ta σ H1 Q
def EtP (c : Nat) (tt : TT) (σ : L2.St) (H : Hp) (p : Bool → Prop) : Prop := ∀ b H1, W.I (b + c) H1 → Ex (W.m H) (W.m H1) → ∀ Q : Bool → Hp → Prop, (∀ k H2, W.I b H2 → W.R H1 H2 → p k → Q k H2) → tt σ H1 Q
/-- one answer, nothing spent -/
def EvD (te : TE) (σ : L2.St) (H : Hp) (d : PyData) : Prop := ∀ b H1, W.I b H1 → Ex (W.m H) (W.m H1) → ∀ Q : VK, (∀ v H2, W.I b H2 → W.R H1 H2 → Rp K (W.m H2) v d → Q v H2) → te σ H1 Q
def EaD (ta : TA) (σ : L2.St) (H : Hp) (ds : List PyData) : Prop := ∀ b H1, W.I b H1 → Ex (W.m H) (W.m H1) → ∀ Q : List V → Hp → Prop, (∀ vs H2, W.I b H2 → W.R H1 H2 → Rps K (W.m H2) vs ds → Q vs H2) → ta σ H1 Q
def EtD (tt : TT) (σ : L2.St) (H : Hp) (k : Bool) : Prop := ∀ b H1, W.I b H1 → Ex (W.m H) (W.m H1) → ∀ Q : Bool → Hp → Prop, (∀ H2, W.I b H2 → W.R H1 H2 → Q k H2) → tt σ H1 Q
/-- a two-place rule, a rule of a call, on data -/
def R2D (r : R2) (d e f : PyData) : Prop := ∀ b H x y, W.I b H → Rp K (W.m H) x d → Rp K (W.m H) y e → ∀ Q : VK, (∀ v H2, W.I b H2 → W.R H H2 → Rp K (W.m H2) v f → Q v H2) → r x y H Q
def RaD (r : List V → Hp → VK → Prop) (ds : List PyData) (f : PyData) : Prop := ∀ b H xs, W.I b H → Rps K (W.m H) xs ds → ∀ Q : VK, (∀ v H2, W.I b H2 → W.R H H2 → Rp K (W.m H2) v f → Q v H2) → r xs H Q
end
section
variable {W : Wd} {K : PySem.W.Frag} {σ : L2.St} {H H' : Hp} {c c' c1 c2 : Nat} {ta tb te tx : TE} {tas tr : TA} {t u : TT} {p q s : PyData → Prop} {ps qs : List PyData → Prop} {d e f : PyData} {ds es : List PyData} {v x y : V} {k k' : Bool}
theorem EvP.mono (a : Ex (W.m H) (W.m H')) (h : EvP W K c te σ H p) : EvP W K c te σ H' p := fun b H1 i e Q g => h b H1 i (a.trans e) Q g
theorem EvD.mono (a : Ex (W.m H) (W.m H')) (h : EvD W K te σ H d) : EvD W K te σ H' d := fun b H1 i e Q g => h b H1 i (a.trans e) Q g
theorem EaP.mono (a : Ex (W.m H) (W.m H')) (h : EaP W K c tas σ H ps) : EaP W K c tas σ H' ps := fun b H1 i e Q g => h b H1 i (a.trans e) Q g
theorem EvP.less (h : c ≤ c') (a : EvP W K c te σ H p) : EvP W K c' te σ H p := fun b H1 i e Q g => by
  obtain ⟨n, rfl⟩ := Nat.le.dest h
  have i' : W.I (b + n + c) H1 := by rw [Nat.add_assoc, Nat.add_comm n c]; exact i
  exact a (b + n) H1 i' e Q fun v H2 d i2 r rp hp => g v H2 d (W.less i2) r rp hp
theorem EaP.less (h : c ≤ c') (a : EaP W K c tas σ H ps) : EaP W K c' tas σ H ps := fun b H1 i e Q g => by
  obtain ⟨n, rfl⟩ := Nat.le.dest h
  have i' : W.I (b + n + c) H1 := by rw [Nat.add_assoc, Nat.add_comm n c]; exact i
  exact a (b + n) H1 i' e Q fun v H2 d i2 r rp hp => g v H2 d (W.less i2) r rp hp
theorem EvP.imp (h : ∀ d, p d → q d) (a : EvP W K c te σ H p) : EvP W K c te σ H q := fun b H1 i e Q g => a b H1 i e Q fun v H2 d i2 r rp hp => g v H2 d i2 r rp (h d hp)
theorem EaP.imp (h : ∀ d, ps d → qs d) (a : EaP W K c tas σ H ps) : EaP W K c tas σ H qs := fun b H1 i e Q g => a b H1 i e Q fun v H2 d i2 r rp hp => g v H2 d i2 r rp (h d hp)
theorem EvD.toP (a : EvD W K te σ H d) (h : p d) : EvP W K c te σ H p := fun b H1 i e Q g => a b H1 (W.less i) e Q fun v H2 i2 r rp => g v H2 d i2 r rp h
theorem EaD.toP (a : EaD W K tas σ H ds) (h : ps ds) : EaP W K c tas σ H ps := fun b H1 i e Q g => a b H1 (W.less i) e Q fun v H2 i2 r rp => g v H2 ds i2 r rp h
theorem EvD.is (a : EvD W K te σ H d) (h : d = e) : EvD W K te σ H e := h ▸ a
theorem EtD.is (a : EtD W t σ H k) (h : k = k') : EtD W t σ H k' := h ▸ a
theorem EtD.toP {pb : Bool → Prop} (a : EtD W t σ H k) (h : pb k) : EtP W c t σ H pb := fun b H1 i e Q g => a b H1 (W.less i) e Q fun H2 i2 r => g k H2 i2 r h
/-- from the plain words -/
theorem dv_of (h : Ev te σ (W.m H) v) (r : Rp K (W.m H) v d) : EvD W K te σ H d := fun b H1 i e Q g => h H1 (e.trans hid_ex) Q fun H2 e2 => by
  obtain ⟨r2, i2⟩ := W.new i e2
  exact g v H2 i2 r2 (r.mono (e.trans (W.up i r2)))
theorem dt_of (h : EvT t σ (W.m H) k) : EtD W t σ H k := fun b H1 i e Q g => h H1 (e.trans hid_ex) Q fun H2 e2 => by
  obtain ⟨r2, i2⟩ := W.new i e2
  exact g H2 i2 r2
theorem dv_var {i : Nat} (hs : σ[i]? = some (some v)) (r : Rp K (W.m H) v d) : EvD W K (tVar i) σ H d := dv_of (ev_var hs) r
theorem dv_int {i : Int} : EvD W K (tC (.int i)) σ H (.int i) := dv_of ev_c (.int i)
theorem dv_str {z : Str} : EvD W K (tC (.str z)) σ H (.str z) := dv_of ev_c (.str z)
theorem dv_bl {z : Bool} : EvD W K (tC (.bl z)) σ H (.bool z) := dv_of ev_c (.bl z)
theorem dv_non : EvD W K (tC .non) σ H .none := dv_of ev_c .non
theorem dv_c (r : ∀ H, Rp K H v d) : EvD W K (tC v) σ H d := dv_of ev_c (r _)
/-- arguments -/
theorem da_nil : EaD W K tNil σ H [] := fun b H1 i e Q g => g [] H1 i (W.refl H1) .nil
theorem da_cons (h : EvD W K te σ H d) (hr : EaD W K tr σ H ds) : EaD W K (tCons te tr) σ H (d :: ds) := fun b H1 i e Q g =>
  h b H1 i e _ fun v H2 i2 r2 rp => hr b H2 i2 (e.trans (W.up i r2)) _ fun vs H3 i3 r3 rps => g _ H3 i3 (W.trans r2 r3) (.cons (rp.mono (W.up i2 r3)) rps)
theorem ap_nil : EaP W K 0 tNil σ H (fun ds => ds = []) := fun b H1 i e Q g => g [] H1 [] i (W.refl H1) .nil rfl
theorem ap_cons (h : EvP W K c1 te σ H p) (hr : EaP W K c2 tr σ H ps) : EaP W K (c1 + c2) (tCons te tr) σ H (fun l => ∃ d ds, l = d :: ds ∧ p d ∧ ps ds) := fun b H1 i e Q g => by
  have i' : W.I (b + c2 + c1) H1 := by rw [Nat.add_assoc, Nat.add_comm c2 c1]; exact i
  exact h (b + c2) H1 i' e _ fun v H2 d i2 r2 rp hp => hr b H2 i2 (e.trans (W.up i' r2)) _ fun vs H3 ds i3 r3 rps hps => g _ H3 _ i3 (W.trans r2 r3) (.cons (rp.mono (W.up i2 r3)) rps) ⟨d, ds, rfl, hp, hps⟩
theorem seq_new {b : Nat} {H2 : Hp} {a : Addr} {vs : List V} (i2 : W.I b H2) (ha : H2 a = none) (r : Rps K (W.m H2) vs ds) :
    W.I b (upd H2 a (.tup vs)) ∧ W.R H2 (upd H2 a (.tup vs)) ∧ Rp K (W.m (upd H2 a (.tup vs))) (.ref a) (.tuple ds) := by
  obtain ⟨r2, i3⟩ := W.new (H' := upd H2 a (.tup vs)) i2 (Ex.new ha)
  refine ⟨i3, r2, ?_⟩
  have nA := Wd.fresh i2 ha
  refine .tup (a := a) (xs := vs) ?_ (r.mono (ex_hid (Ex.new ha)))
  rw [show W.m (upd H2 a (.tup vs)) = upd (W.m H2) a (.tup vs) from hid_new nA]
  exact st_of upd_same
theorem lst_new {b : Nat} {H2 : Hp} {a : Addr} {vs : List V} (i2 : W.I b H2) (ha : H2 a = none) (r : Rps K (W.m H2) vs ds) :
    W.I b (upd H2 a (.lst vs)) ∧ W.R H2 (upd H2 a (.lst vs)) ∧ Rp K (W.m (upd H2 a (.lst vs))) (.ref a) (.list ds) := by
  obtain ⟨r2, i3⟩ := W.new (H' := upd H2 a (.lst vs)) i2 (Ex.new ha)
  refine ⟨i3, r2, ?_⟩
  have nA := Wd.fresh i2 ha
  refine .lst (a := a) (xs := vs) ?_ (r.mono (ex_hid (Ex.new ha)))
  rw [show W.m (upd H2 a (.lst vs)) = upd (W.m H2) a (.lst vs) from hid_new nA]
  exact upd_same
theorem dv_tup (h : EaD W K tas σ H ds) (hl : ds.length ≤ 100000 := by decide) : EvD W K (tTup tas) σ H (.tuple ds) := fun b H1 i e Q g => h b H1 i e _ fun vs H2 i2 r2 rps => by
  refine ⟨by rw [rps.len]; exact sz_of hl, fun a ha => ?_⟩
  obtain ⟨i3, r3, rp⟩ := seq_new i2 ha rps
  exact g _ _ i3 (W.trans r2 r3) rp
theorem dv_lst (h : EaD W K tas σ H ds) (hl : ds.length ≤ 100000 := by decide) : EvD W K (tLst tas) σ H (.list ds) := fun b H1 i e Q g => h b H1 i e _ fun vs H2 i2 r2 rps => by
  refine ⟨by rw [rps.len]; exact sz_of hl, fun a ha => ?_⟩
  obtain ⟨i3, r3, rp⟩ := lst_new i2 ha rps
  exact g _ _ i3 (W.trans r2 r3) rp
theorem pv_tup (h : EaP W K c tas σ H ps) (hl : ∀ ds, ps ds → ds.length ≤ 100000) : EvP W K c (tTup tas) σ H (fun d => ∃ ds, d = .tuple ds ∧ ps ds) := fun b H1 i e Q g => h b H1 i e _ fun vs H2 ds i2 r2 rps hp => by
  refine ⟨by rw [rps.len]; exact sz_of (hl ds hp), fun a ha => ?_⟩
  obtain ⟨i3, r3, rp⟩ := seq_new i2 ha rps
  exact g _ _ _ i3 (W.trans r2 r3) rp ⟨ds, rfl, hp⟩
theorem pv_lst (h : EaP W K c tas σ H ps) (hl : ∀ ds, ps ds → ds.length ≤ 100000) : EvP W K c (tLst tas) σ H (fun d => ∃ ds, d = .list ds ∧ ps ds) := fun b H1 i e Q g => h b H1 i e _ fun vs H2 ds i2 r2 rps hp => by
  refine ⟨by rw [rps.len]; exact sz_of (hl ds hp), fun a ha => ?_⟩
  obtain ⟨i3, r3, rp⟩ := lst_new i2 ha rps
  exact g _ _ _ i3 (W.trans r2 r3) rp ⟨ds, rfl, hp⟩
/-- operators, calls -/
theorem dv_op {r : R2} (ha : EvD W K ta σ H d) (hb : EvD W K tb σ H e) (hr : R2D W K r d e f) : EvD W K (tOp r ta tb) σ H f := fun b H1 i e1 Q g =>
  ha b H1 i e1 _ fun x H2 i2 r2 rx => hb b H2 i2 (e1.trans (W.up i r2)) _ fun y H3 i3 r3 ry => hr b H3 x y i3 (rx.mono (W.up i2 r3)) ry Q fun v H4 i4 r4 rv => g v H4 i4 (W.trans r2 (W.trans r3 r4)) rv
theorem pv_op {r : R2} (ha : EvP W K c1 ta σ H p) (hb : EvP W K c2 tb σ H q) (hr : ∀ d e, p d → q e → ∃ f, R2D W K r d e f ∧ s f) : EvP W K (c1 + c2) (tOp r ta tb) σ H s := fun b H1 i e1 Q g => by
  have i' : W.I (b + c2 + c1) H1 := by rw [Nat.add_assoc, Nat.add_comm c2 c1]; exact i
  refine ha (b + c2) H1 i' e1 _ fun x H2 d i2 r2 rx hd => hb b H2 i2 (e1.trans (W.up i' r2)) _ fun y H3 e i3 r3 ry he => ?_
  obtain ⟨f, hr, hs⟩ := hr d e hd he
  exact hr b H3 x y i3 (rx.mono (W.up i2 r3)) ry Q fun v H4 i4 r4 rv => g v H4 f i4 (W.trans r2 (W.trans r3 r4)) rv hs
theorem dv_cb {r : List V → Hp → VK → Prop} (ha : EaD W K tas σ H ds) (hr : RaD W K r ds f) : EvD W K (tCB r tas) σ H f := fun b H1 i e1 Q g =>
  ha b H1 i e1 _ fun xs H2 i2 r2 rx => hr b H2 xs i2 rx Q fun v H4 i4 r4 rv => g v H4 i4 (W.trans r2 r4) rv
theorem pv_cb {r : List V → Hp → VK → Prop} (ha : EaP W K c tas σ H ps) (hr : ∀ ds, ps ds → ∃ f, RaD W K r ds f ∧ s f) : EvP W K c (tCB r tas) σ H s := fun b H1 i e1 Q g =>
  ha b H1 i e1 _ fun xs H2 ds i2 r2 rx hd => by
    obtain ⟨f, hr, hs⟩ := hr ds hd
    exact hr b H2 xs i2 rx Q fun v H4 i4 r4 rv => g v H4 f i4 (W.trans r2 r4) rv hs
theorem dv_call {sp : Sp} {E : XK} (ha : EaD W K tas σ H ds) (hr : RaD W K (fun vs H Q => sp vs H Q E) ds f) : EvD W K (tCall sp [] E tas) σ H f := fun b H1 i e1 Q g =>
  ha b H1 i e1 _ fun xs H2 i2 r2 rx => by
    show sp (xs ++ []) H2 Q E
    rw [List.append_nil]
    exact hr b H2 xs i2 rx Q fun v H4 i4 r4 rv => g v H4 i4 (W.trans r2 r4) rv
/-- tests -/
theorem dv_if {b : Bool} (h : EtD W t σ H b) (h1 : b = true → EvD W K ta σ H d) (h2 : b = false → EvD W K tb σ H d) : EvD W K (tIf t ta tb) σ H d := fun n H1 i e Q g => h n H1 i e _ fun H2 i2 r2 => by
  cases b with
  | true => exact h1 rfl n H2 i2 (e.trans (W.up i r2)) Q fun v H3 i3 r3 rp => g v H3 i3 (W.trans r2 r3) rp
  | false => exact h2 rfl n H2 i2 (e.trans (W.up i r2)) Q fun v H3 i3 r3 rp => g v H3 i3 (W.trans r2 r3) rp
theorem dt_B (h : EvD W K te σ H (.bool k)) : EtD W (tB te) σ H k := fun n H1 i e Q g => h n H1 i e _ fun v H2 i2 r2 rp => ⟨k, rp_bool rp, g H2 i2 r2⟩
theorem dt_test (h : EvD W K te σ H (.bool k)) : EtD W (tTest te) σ H k := fun n H1 i e Q g => h n H1 i e _ fun v H2 i2 r2 rp => ⟨k, rp_bool rp, g H2 i2 r2⟩
theorem dt_and (h1 : EtD W t σ H k) (h2 : k = true → EtD W u σ H k') : EtD W (tAnd t u) σ H (k && k') := fun n H1 i e Q g => h1 n H1 i e _ fun H2 i2 r2 => by
  cases k with
  | true => exact h2 rfl n H2 i2 (e.trans (W.up i r2)) Q fun H3 i3 r3 => g H3 i3 (W.trans r2 r3)
  | false => exact g H2 i2 r2
theorem dt_or (h1 : EtD W t σ H k) (h2 : k = false → EtD W u σ H k') : EtD W (tOr t u) σ H (k || k') := fun n H1 i e Q g => h1 n H1 i e _ fun H2 i2 r2 => by
  cases k with
  | true => exact g H2 i2 r2
  | false => exact h2 rfl n H2 i2 (e.trans (W.up i r2)) Q fun H3 i3 r3 => g H3 i3 (W.trans r2 r3)
theorem dt_not (h1 : EtD W t σ H k) : EtD W (tNot t) σ H (!k) := fun n H1 i e Q g => h1 n H1 i e _ fun H2 i2 r2 => g H2 i2 r2
theorem dv_andV (h1 : EvD W K ta σ H (.bool k)) (h2 : k = true → EvD W K tb σ H (.bool k')) : EvD W K (tAndV ta tb) σ H (.bool (k && k')) := fun n H1 i e Q g => h1 n H1 i e _ fun v H2 i2 r2 rp => ⟨k, rp_bool rp, by
  cases k with
  | true => exact h2 rfl n H2 i2 (e.trans (W.up i r2)) Q fun v H3 i3 r3 rp => g v H3 i3 (W.trans r2 r3) rp
  | false => exact g _ H2 i2 r2 (.bl false)⟩
theorem dv_orV (h1 : EvD W K ta σ H (.bool k)) (h2 : k = false → EvD W K tb σ H (.bool k')) : EvD W K (tOrV ta tb) σ H (.bool (k || k')) := fun n H1 i e Q g => h1 n H1 i e _ fun v H2 i2 r2 rp => ⟨k, rp_bool rp, by
  cases k with
  | true => exact g _ H2 i2 r2 (.bl true)
  | false => exact h2 rfl n H2 i2 (e.trans (W.up i r2)) Q fun v H3 i3 r3 rp => g v H3 i3 (W.trans r2 r3) rp⟩
theorem dv_notV (h1 : EvD W K ta σ H (.bool k)) : EvD W K (tNotV ta) σ H (.bool (!k)) := fun n H1 i e Q g => h1 n H1 i e _ fun v H2 i2 r2 rp => ⟨k, rp_bool rp, g _ H2 i2 r2 (.bl _)⟩
/-- a <= b <= c -/
theorem dv_chain {r r' : R2} {tc : TE} (ha : EvD W K ta σ H d) (hb : EvD W K tb σ H e) (hr : R2D W K r d e (.bool k)) (hc : k = true → EvD W K tc σ H f) (hr' : k = true → R2D W K r' e f (.bool k')) : EvD W K (tChain r r' ta tb tc) σ H (.bool (k && k')) := fun n H1 i e1 Q g =>
  ha n H1 i e1 _ fun x H2 i2 r2 rx => hb n H2 i2 (e1.trans (W.up i r2)) _ fun y H3 i3 r3 ry => hr n H3 x y i3 (rx.mono (W.up i2 r3)) ry _ fun z H4 i4 r4 rz => ⟨k, rp_bool rz, by
    have r14 := W.trans r2 (W.trans r3 r4)
    cases k with
    | true => exact hc rfl n H4 i4 (e1.trans (W.up i r14)) _ fun w H5 i5 r5 rw => hr' rfl n H5 y w i5 (ry.mono ((W.up i3 r4).trans (W.up i4 r5))) rw Q fun v H6 i6 r6 rv => g v H6 i6 (W.trans r14 (W.trans r5 r6)) rv
    | false => exact g _ H4 i4 r14 (.bl false)⟩
/-! rules -/
end
end Qe
set_option maxRecDepth 100000
set_option maxHeartbeats 4000000
/-! Rules of operators and built-in calls, on data. -/
namespace Qe
open PySem L2 Evl Qd
section
variable {W : Wd} {K : PySem.W.Frag} {σ : L2.St} {H H' : Hp} {c c' c1 c2 : Nat} {ta tb te tx : TE} {tas tr : TA} {t u : TT} {d e f : PyData} {ds es : List PyData} {v x y : V} {k k' : Bool}
theorem un (r : Rp K (W.m H) v d) : Rp K H v d := r.mono hid_ex
theorem uns {vs : List V} (r : Rps K (W.m H) vs ds) : Rps K H vs ds := r.mono hid_ex
theorem r2_val {r : R2} (h : ∀ H x y, Rp K H x d → Rp K H y e → ∀ Q : VK, Q v H → r x y H Q) (hv : ∀ H, Rp K H v f) : R2D W K r d e f := fun b H x y i rx ry Q g => h H x y (un rx) (un ry) Q (g v H i (W.refl H) (hv _))
theorem ra_val {r : List V → Hp → VK → Prop} (h : ∀ H xs, Rps K H xs ds → ∀ Q : VK, Q v H → r xs H Q) (hv : ∀ H, Rp K H v f) : RaD W K r ds f := fun b H xs i rx Q g => h H xs (uns rx) Q (g v H i (W.refl H) (hv _))
/-! ints -/
theorem r2_I0 {g : Int → Int → Int} {i j : Int} : R2D W K (rI0 fun i j => .int (g i j)) (.int i) (.int j) (.int (g i j)) := r2_val (v := .int (g i j)) (fun H x y rx ry Q q => ⟨i, j, rp_int rx, rp_int ry, q⟩) fun _ => .int _
theorem r2_I0b {g : Int → Int → Bool} {i j : Int} : R2D W K (rI0 fun i j => .bl (g i j)) (.int i) (.int j) (.bool (g i j)) := r2_val (v := .bl (g i j)) (fun H x y rx ry Q q => ⟨i, j, rp_int rx, rp_int ry, q⟩) fun _ => .bl _
theorem r2_I {C : Int → Int → Prop} {g : Int → Int → Int} {i j : Int} (hc : C i j) : R2D W K (rI C fun i j => .int (g i j)) (.int i) (.int j) (.int (g i j)) := r2_val (v := .int (g i j)) (fun H x y rx ry Q q => ⟨i, j, rp_int rx, rp_int ry, hc, q⟩) fun _ => .int _
/-! ==, != of data; is -/
def okD (d : PyData) : Bool := flat d && SeqAt.shaped d
theorem r2_eq (h1 : okD d = true) (h2 : okD e = true) : R2D W K (rEqD K) d e (.bool (PyData.eqv d e)) := r2_val (v := .bl (PyData.eqv d e)) (fun H x y rx ry Q q => by
  unfold okD at h1 h2
  rw [Bool.and_eq_true] at h1 h2
  exact ⟨d, e, rx.dp h1.1, ry.dp h2.1, h1.2, h2.2, q⟩) fun _ => .bl _
theorem r2_ne (h1 : okD d = true) (h2 : okD e = true) : R2D W K (rNeD K) d e (.bool (!PyData.eqv d e)) := r2_val (v := .bl (!PyData.eqv d e)) (fun H x y rx ry Q q => by
  unfold okD at h1 h2
  rw [Bool.and_eq_true] at h1 h2
  exact ⟨d, e, rx.dp h1.1, ry.dp h2.1, h1.2, h2.2, q⟩) fun _ => .bl _
theorem r2_isBl {a b : Bool} : R2D W K rIsB (.bool a) (.bool b) (.bool (decide (a = b))) := r2_val (v := .bl (decide (a = b))) (fun H x y rx ry Q q => ⟨a, b, rp_bool rx, rp_bool ry, q⟩) fun _ => .bl _
def isNone : PyData → Bool
  | .none => true
  | _ => false
theorem none_iff (r : Rp K H v d) : decide (v = .non) = isNone d := by
  cases r <;> simp [isNone]
theorem r2_isN : R2D W K (fun x y H Q => y = .non ∧ Q (.bl (decide (x = .non))) H) d .none (.bool (isNone d)) := fun b H x y i rx ry Q g => ⟨rp_none ry, by
  rw [none_iff rx]
  exact g _ H i (W.refl H) (.bl _)⟩
theorem r2_notN : R2D W K (fun x y H Q => y = .non ∧ Q (.bl (!decide (x = .non))) H) d .none (.bool (!isNone d)) := fun b H x y i rx ry Q g => ⟨rp_none ry, by
  rw [none_iff rx]
  exact g _ H i (W.refl H) (.bl _)⟩
/-! texts -/
theorem r2_ltS {a b : Str} : R2D W K (fun x y H Q => ∃ i j, x = .str i ∧ y = .str j ∧ Q (.bl (decide (i.cps.toList < j.cps.toList))) H) (.str a) (.str b) (.bool (decide (a.cps.toList < b.cps.toList))) :=
  r2_val (v := .bl _) (fun H x y rx ry Q q => ⟨a, b, rp_str rx, rp_str ry, q⟩) fun _ => .bl _
theorem r2_inSign {a : Nat} {z : Str} : R2D W K (fun x y H Q => ∃ (c : Nat) (z : Str), x = .str ⟨#[c]⟩ ∧ y = .str z ∧ Q (.bl (decide (c ∈ z.cps.toList))) H) (.str ⟨#[a]⟩) (.str z) (.bool (decide (a ∈ z.cps.toList))) :=
  r2_val (v := .bl _) (fun H x y rx ry Q q => ⟨a, z, rp_str rx, rp_str ry, q⟩) fun _ => .bl _
theorem r2_notInSign {a : Nat} {z : Str} : R2D W K (fun x y H Q => ∃ (c : Nat) (z : Str), x = .str ⟨#[c]⟩ ∧ y = .str z ∧ Q (.bl (!decide (c ∈ z.cps.toList))) H) (.str ⟨#[a]⟩) (.str z) (.bool (!decide (a ∈ z.cps.toList))) :=
  r2_val (v := .bl _) (fun H x y rx ry Q q => ⟨a, z, rp_str rx, rp_str ry, q⟩) fun _ => .bl _
/-- x in a sequence of texts, x any flat thing -/
def isFlat : PyData → Bool
  | .none => true
  | .bool _ => true
  | .int _ => true
  | .str _ => true
  | _ => false
def strIn (d : PyData) (bs : List Str) : Bool := match d with
  | .str a => decide (a ∈ bs)
  | _ => false
theorem flatV_of (r : Rp K H v d) (h : isFlat d = true) : flatV v = true := by
  cases r <;> first | rfl | cases h
theorem inV_str (r : Rp K H v d) (h : isFlat d = true) : ∀ bs : List Str, inV v (bs.map V.str) = strIn d bs
  | [] => by cases r <;> simp [inV, strIn]
  | z :: bs => by
    have ih := inV_str r h bs
    unfold inV at ih ⊢
    rw [List.map_cons, List.any_cons, ih]
    cases r with
    | str a =>
      show ((z == a) || decide (a ∈ bs)) = decide (a ∈ z :: bs)
      by_cases e : z = a
      · subst e; simp
      · have e2 : ¬ a = z := fun q => e q.symm
        simp [e, e2]
    | _ => first | rfl | cases h
theorem all_flatS : ∀ bs : List Str, (bs.map V.str).all flatV = true
  | [] => rfl
  | _ :: bs => by rw [List.map_cons, List.all_cons, all_flatS bs]; rfl
theorem r2_inS {neg : Bool} {bs : List Str} (h : isFlat d = true) (he : e = .tuple (bs.map .str) ∨ e = .list (bs.map .str)) : R2D W K (rIn K neg) d e (.bool (if neg then !strIn d bs else strIn d bs)) := fun b H x y i rx ry Q g => by
  have q := g (.bl (if neg then !strIn d bs else strIn d bs)) H i (W.refl H) (.bl _)
  rw [← inV_str rx h bs] at q
  rcases he with rfl | rfl
  · obtain ⟨a, xs, rfl, hs, rs⟩ := rp_tup (un ry)
    have e2 := rs.strs; subst e2
    exact ⟨a, _, rfl, .inr hs, flatV_of rx h, all_flatS bs, q⟩
  · obtain ⟨a, xs, rfl, hs, rs⟩ := rp_lst (un ry)
    have e2 := rs.strs; subst e2
    exact ⟨a, _, rfl, .inl (sq_of hs), flatV_of rx h, all_flatS bs, q⟩
theorem inV_bl (a : Bool) : ∀ bs : List Bool, inV (.bl a) (bs.map V.bl) = decide (a ∈ bs)
  | [] => rfl
  | z :: bs => by
    have ih := inV_bl a bs
    unfold inV at ih ⊢
    rw [List.map_cons, List.any_cons, ih]
    show ((z == a) || decide (a ∈ bs)) = decide (a ∈ z :: bs)
    cases z <;> cases a <;> simp
theorem all_flatB : ∀ bs : List Bool, (bs.map V.bl).all flatV = true
  | [] => rfl
  | _ :: bs => by rw [List.map_cons, List.all_cons, all_flatB bs]; rfl
theorem r2_inB {neg a : Bool} {bs : List Bool} : R2D W K (rIn K neg) (.bool a) (.list (bs.map .bool)) (.bool (if neg then !decide (a ∈ bs) else decide (a ∈ bs))) := fun b H x y i rx ry Q g => by
  have q := g (.bl (if neg then !decide (a ∈ bs) else decide (a ∈ bs))) H i (W.refl H) (.bl _)
  rw [← inV_bl a bs] at q
  rw [rp_bool rx]
  obtain ⟨l, xs, rfl, hs, rs⟩ := rp_lst (un ry)
  have e2 := rs.bls; subst e2
  exact ⟨l, _, rfl, .inl (sq_of hs), rfl, all_flatB bs, q⟩
/-! items -/
theorem Rps.atI {vs : List V} {i : Int} (r : Rps K H vs ds) (e : atI ds i = some d) : ∃ v, L2.atI vs i = some v ∧ Rp K H v d := by
  unfold L2.atI at e ⊢
  rw [r.len]
  cases q : ixN ds.length i with
  | none => rw [q] at e; cases e
  | some j =>
    rw [q] at e
    exact Rps.at' r e
theorem r2_ix {i : Int} (hd : d = .tuple ds ∨ d = .list ds) (h : atI ds i = some e) : R2D W K (rIx K) d (.int i) e := fun b H x y n rx ry Q g => by
  rw [rp_int ry]
  rcases hd with rfl | rfl
  · obtain ⟨a, xs, rfl, hs, rs⟩ := rp_tup rx
    obtain ⟨v, h1, h2⟩ := Rps.atI rs h
    exact .inr (.inl ⟨a, xs, i, v, rfl, rfl, ex_t hid_ex hs, h1, g v H n (W.refl H) h2⟩)
  · obtain ⟨a, xs, rfl, hs, rs⟩ := rp_lst rx
    obtain ⟨v, h1, h2⟩ := Rps.atI rs h
    exact .inl ⟨a, xs, i, v, rfl, rfl, sq_of (hid_ex _ _ hs), h1, g v H n (W.refl H) h2⟩
theorem r2_ixT {i : Int} (h : atI ds i = some e) : R2D W K (rIx K) (.tuple ds) (.int i) e := r2_ix (.inl rfl) h
theorem r2_ixL {i : Int} (h : atI ds i = some e) : R2D W K (rIx K) (.list ds) (.int i) e := r2_ix (.inr rfl) h
/-! slices -/
def cutD (ds : List PyData) (lo hi : Option Int) : List PyData := (ds.drop (HT.sIx ds.length 0 lo)).take (HT.sIx ds.length ds.length hi - HT.sIx ds.length 0 lo)
theorem Rps.cut {vs : List V} (r : Rps K H vs ds) (lo hi : Option Int) : Rps K H (cutV vs lo hi) (cutD ds lo hi) := by
  unfold cutV cutD
  rw [r.len]
  exact Rps.take _ (Rps.drop _ r)
theorem en_none : EvO tNoPart σ H none := fun H1 _ _ q => q H1 (Ex.refl H1)
theorem en_part {i : Int} (h : Ev te σ H (.int i)) : EvO (tPart te) σ H (some i) := fun H1 e Q q => h H1 e _ fun H2 e2 => ⟨i, rfl, q H2 e2⟩
theorem en_int {i : Int} : EvO (tPart (tC (.int i))) σ H (some i) := en_part ev_c
/-- bounds that may spend -/
def EoP (W : Wd) (c : Nat) (to : TO) (σ : L2.St) (H : Hp) (p : Option Int → Prop) : Prop := ∀ b H1, W.I (b + c) H1 → Ex (W.m H) (W.m H1) → ∀ Q : Option Int → Hp → Prop, (∀ o H2, W.I b H2 → W.R H1 H2 → p o → Q o H2) → to σ H1 Q
theorem op_none : EoP W 0 tNoPart σ H (fun o => o = none) := fun b H1 i _ Q g => g none H1 i (W.refl H1) rfl
theorem op_part {p : Int → Prop} (h : EvP W K c te σ H (fun d => ∃ i, d = .int i ∧ p i)) : EoP W c (tPart te) σ H (fun o => ∃ i, o = some i ∧ p i) := fun b H1 i e Q g => h b H1 i e _ fun v H2 d i2 r2 rp hd => by
  obtain ⟨j, rfl, hj⟩ := hd
  exact ⟨j, rp_int rp, g _ H2 i2 r2 ⟨j, rfl, hj⟩⟩
theorem op_int {i : Int} : EoP W 0 (tPart (tC (.int i))) σ H (fun o => o = some i) := fun b H1 j _ Q g => ⟨i, rfl, g _ H1 j (W.refl H1) rfl⟩
theorem cut_all {vs : List V} {lo hi : Option Int} (h : HT.sIx vs.length 0 lo = 0 ∧ HT.sIx vs.length vs.length hi = vs.length) : cutV vs lo hi = vs := by
  unfold cutV
  rw [h.1, h.2]
  simp
theorem dv_slT {tl th : TO} {lo hi : Option Int} (h : EvD W K te σ H (.tuple ds)) (h1 : ∀ H, EvO tl σ H lo) (h2 : ∀ H, EvO th σ H hi) : EvD W K (tSl (rSlA K) te tl th) σ H (.tuple (cutD ds lo hi)) := fun b H1 i e Q g =>
  h b H1 i e _ fun v H2 i2 r2 rp => h1 H2 H2 (Ex.refl _) _ fun H3 e3 => h2 H3 H3 (Ex.refl _) _ fun H4 e4 => by
    have e24 := e3.trans e4
    obtain ⟨r4, i4⟩ := W.new i2 e24
    obtain ⟨a, xs, rfl, hs, rs⟩ := rp_tup (rp.mono (W.up i2 r4))
    refine ⟨a, xs, rfl, ex_t hid_ex hs, fun q => ?_, fun _ p hp => ?_⟩
    · have := Rps.cut rs lo hi
      rw [cut_all q] at this
      exact g _ H4 i4 (W.trans r2 r4) (.tup hs this)
    · obtain ⟨i5, r5, rp5⟩ := seq_new i4 hp (Rps.cut rs lo hi)
      exact g _ _ i5 (W.trans r2 (W.trans r4 r5)) rp5
theorem dv_slL {tl th : TO} {lo hi : Option Int} (h : EvD W K te σ H (.list ds)) (h1 : ∀ H, EvO tl σ H lo) (h2 : ∀ H, EvO th σ H hi) : EvD W K (tSl (rSlL K) te tl th) σ H (.list (cutD ds lo hi)) := fun b H1 i e Q g =>
  h b H1 i e _ fun v H2 i2 r2 rp => h1 H2 H2 (Ex.refl _) _ fun H3 e3 => h2 H3 H3 (Ex.refl _) _ fun H4 e4 => by
    have e24 := e3.trans e4
    obtain ⟨r4, i4⟩ := W.new i2 e24
    obtain ⟨a, xs, rfl, hs, rs⟩ := rp_lst (rp.mono (W.up i2 r4))
    refine ⟨a, xs, rfl, sq_of (hid_ex _ _ hs), fun p hp => ?_⟩
    obtain ⟨i5, r5, rp5⟩ := lst_new i4 hp (Rps.cut rs lo hi)
    exact g _ _ i5 (W.trans r2 (W.trans r4 r5)) rp5
theorem dv_slS {tl th : TO} {lo hi : Option Int} {z : Str} (h : EvD W K te σ H (.str z)) (h1 : ∀ H, EvO tl σ H lo) (h2 : ∀ H, EvO th σ H hi) (hz : z.length ≤ 100000) : EvD W K (tSl rSlS te tl th) σ H (.str (cutS z lo hi)) := fun b H1 i e Q g =>
  h b H1 i e _ fun v H2 i2 r2 rp => h1 H2 H2 (Ex.refl _) _ fun H3 e3 => h2 H3 H3 (Ex.refl _) _ fun H4 e4 => by
    obtain ⟨r4, i4⟩ := W.new i2 (e3.trans e4)
    exact ⟨z, rp_str rp, sz_of hz, g _ H4 i4 (W.trans r2 r4) (.str _)⟩
theorem pv_slT {tl th : TO} {p : PyData → Prop} {pl ph : Option Int → Prop} {c3 : Nat} (h : EvP W K c1 te σ H (fun d => ∃ ds, d = .tuple ds ∧ p d)) (h1 : EoP W c2 tl σ H pl) (h2 : EoP W c3 th σ H ph) : EvP W K (c1 + (c2 + c3)) (tSl (rSlA K) te tl th) σ H (fun f => ∃ ds lo hi, f = .tuple (cutD ds lo hi) ∧ p (.tuple ds) ∧ pl lo ∧ ph hi) := fun b H1 i e Q g => by
  have i' : W.I (b + c3 + c2 + c1) H1 := by rw [show b + c3 + c2 + c1 = b + (c1 + (c2 + c3)) by omega]; exact i
  refine h _ H1 i' e _ fun v H2 d i2 r2 rp hd => h1 _ H2 i2 (e.trans (W.up i' r2)) _ fun lo H3 i3 r3 hlo => h2 _ H3 i3 ((e.trans (W.up i' r2)).trans (W.up i2 r3)) _ fun hi H4 i4 r4 hhi => ?_
  obtain ⟨ds, rfl, hd⟩ := hd
  obtain ⟨a, xs, rfl, hs, rs⟩ := rp_tup (rp.mono ((W.up i2 r3).trans (W.up i3 r4)))
  refine ⟨a, xs, rfl, ex_t hid_ex hs, fun q => ?_, fun _ p hp => ?_⟩
  · have := Rps.cut rs lo hi
    rw [cut_all q] at this
    exact g _ H4 _ i4 (W.trans r2 (W.trans r3 r4)) (.tup hs this) ⟨ds, lo, hi, rfl, hd, hlo, hhi⟩
  · obtain ⟨i5, r5, rp5⟩ := seq_new i4 hp (Rps.cut rs lo hi)
    exact g _ _ _ i5 (W.trans (W.trans r2 (W.trans r3 r4)) r5) rp5 ⟨ds, lo, hi, rfl, hd, hlo, hhi⟩
theorem pv_slL {tl th : TO} {p : PyData → Prop} {pl ph : Option Int → Prop} {c3 : Nat} (h : EvP W K c1 te σ H (fun d => ∃ ds, d = .list ds ∧ p d)) (h1 : EoP W c2 tl σ H pl) (h2 : EoP W c3 th σ H ph) : EvP W K (c1 + (c2 + c3)) (tSl (rSlL K) te tl th) σ H (fun f => ∃ ds lo hi, f = .list (cutD ds lo hi) ∧ p (.list ds) ∧ pl lo ∧ ph hi) := fun b H1 i e Q g => by
  have i' : W.I (b + c3 + c2 + c1) H1 := by rw [show b + c3 + c2 + c1 = b + (c1 + (c2 + c3)) by omega]; exact i
  refine h _ H1 i' e _ fun v H2 d i2 r2 rp hd => h1 _ H2 i2 (e.trans (W.up i' r2)) _ fun lo H3 i3 r3 hlo => h2 _ H3 i3 ((e.trans (W.up i' r2)).trans (W.up i2 r3)) _ fun hi H4 i4 r4 hhi => ?_
  obtain ⟨ds, rfl, hd⟩ := hd
  obtain ⟨a, xs, rfl, hs, rs⟩ := rp_lst (rp.mono ((W.up i2 r3).trans (W.up i3 r4)))
  refine ⟨a, xs, rfl, sq_of (hid_ex _ _ hs), fun p hp => ?_⟩
  obtain ⟨i5, r5, rp5⟩ := lst_new i4 hp (Rps.cut rs lo hi)
  exact g _ _ _ i5 (W.trans (W.trans r2 (W.trans r3 r4)) r5) rp5 ⟨ds, lo, hi, rfl, hd, hlo, hhi⟩
theorem pv_slS {tl th : TO} {p : Str → Prop} {pl ph : Option Int → Prop} {c3 : Nat} (h : EvP W K c1 te σ H (fun d => ∃ z, d = .str z ∧ p z)) (hz : ∀ z, p z → z.length ≤ 100000) (h1 : EoP W c2 tl σ H pl) (h2 : EoP W c3 th σ H ph) : EvP W K (c1 + (c2 + c3)) (tSl rSlS te tl th) σ H (fun f => ∃ z lo hi, f = .str (cutS z lo hi) ∧ p z ∧ pl lo ∧ ph hi) := fun b H1 i e Q g => by
  have i' : W.I (b + c3 + c2 + c1) H1 := by rw [show b + c3 + c2 + c1 = b + (c1 + (c2 + c3)) by omega]; exact i
  refine h _ H1 i' e _ fun v H2 d i2 r2 rp hd => h1 _ H2 i2 (e.trans (W.up i' r2)) _ fun lo H3 i3 r3 hlo => h2 _ H3 i3 ((e.trans (W.up i' r2)).trans (W.up i2 r3)) _ fun hi H4 i4 r4 hhi => ?_
  obtain ⟨z, rfl, hp⟩ := hd
  exact ⟨z, rp_str rp, sz_of (hz z hp), g _ H4 _ i4 (W.trans r2 (W.trans r3 r4)) (.str _) ⟨z, lo, hi, rfl, hp, hlo, hhi⟩⟩
/-! + of sequences -/
theorem r2_catT : R2D W K (rCatA K) (.tuple ds) (.tuple es) (.tuple (ds ++ es)) ∨ 100000 < ds.length + es.length := by
  by_cases hl : ds.length + es.length ≤ 100000
  · refine .inl fun b H x y i rx ry Q g => ?_
    obtain ⟨a, xs, rfl, hs, rs⟩ := rp_tup rx
    obtain ⟨a2, ys, rfl, hs2, rs2⟩ := rp_tup ry
    have rr := rs.app rs2
    refine ⟨a, a2, xs, ys, rfl, rfl, ex_t hid_ex hs, ex_t hid_ex hs2, by rw [rs.len, rs2.len]; exact sz_of hl, fun e => ?_, fun _ e => ?_, fun _ _ p hp => ?_⟩
    · subst e
      exact g _ H i (W.refl H) (.tup hs2 rr)
    · subst e
      rw [List.append_nil] at rr
      exact g _ H i (W.refl H) (.tup hs rr)
    · obtain ⟨i5, r5, rp5⟩ := seq_new i hp rr
      exact g _ _ i5 r5 rp5
  · exact .inr (by omega)
theorem r2_catT' (hl : ds.length + es.length ≤ 100000) : R2D W K (rCatA K) (.tuple ds) (.tuple es) (.tuple (ds ++ es)) := r2_catT.resolve_right (by omega)
theorem r2_catL (hl : ds.length + es.length ≤ 100000) : R2D W K rCat (.list ds) (.list es) (.list (ds ++ es)) := fun b H x y i rx ry Q g => by
  obtain ⟨a, xs, rfl, hs, rs⟩ := rp_lst rx
  obtain ⟨a2, ys, rfl, hs2, rs2⟩ := rp_lst ry
  refine ⟨a, a2, xs, ys, rfl, rfl, hid_ex _ _ hs, hid_ex _ _ hs2, by rw [rs.len, rs2.len]; exact sz_of hl, fun p hp => ?_⟩
  obtain ⟨i5, r5, rp5⟩ := lst_new i hp (rs.app rs2)
  exact g _ _ i5 r5 rp5
/-! isinstance with built-in types -/
theorem dv_isa {T : String} (h : T ∈ ["str", "int", "bool", "tuple", "list", "dict"]) (ha : EvD W K ta σ H d) : EvD W K (tCB (rIsi K) (tCons ta (tCons (tC (.ty T)) tNil))) σ H (.bool (isA T d)) := fun b H1 i e Q g =>
  ha b H1 i e _ fun x H2 i2 r2 rp => ⟨x, .ty T, _, _, _, rfl, .ty T, ty_of (un rp), kit_ty (kit_isA h d), g _ H2 i2 r2 (.bl _)⟩
/-! len, list, tuple, all -/
theorem ra_len (hs : sized d = true) (hl : ∀ x, d = .str x → x.length ≤ 100000) : RaD W K (fun xs H Q => ∃ x n, xs = [x] ∧ LenV K x H n ∧ Q (.int n) H) [d] (.int (lenD d)) := fun b H xs i rx Q g => by
  cases rx with
  | cons r t =>
    cases t
    refine ⟨_, lenD d, rfl, ?_, g _ H i (W.refl H) (.int _)⟩
    have r2 := un r
    cases r2 with
    | str y => exact ⟨sz_of (hl y rfl), rfl⟩
    | lst h rs => exact .inl ⟨_, sq_of h, rs.len.symm⟩
    | tup h rs => exact .inr ⟨_, h, rs.len.symm⟩
    | _ => cases hs
theorem ra_list (hd : d = .tuple ds ∨ d = .list ds) : RaD W K (fun xs H Q => ∃ p ys, xs = [.ref p] ∧ (SqL K H p ys ∨ SqT K H p ys) ∧ ∀ l, H l = none → Q (.ref l) (upd H l (.lst ys))) [d] (.list ds) := fun b H xs i rx Q g => by
  cases rx with
  | cons r t =>
    cases t
    rcases hd with rfl | rfl
    · obtain ⟨a, ys, rfl, hs, rs⟩ := rp_tup r
      refine ⟨a, ys, rfl, .inr (ex_t hid_ex hs), fun l hl => ?_⟩
      obtain ⟨i5, r5, rp5⟩ := lst_new i hl rs
      exact g _ _ i5 r5 rp5
    · obtain ⟨a, ys, rfl, hs, rs⟩ := rp_lst r
      refine ⟨a, ys, rfl, .inl (sq_of (hid_ex _ _ hs)), fun l hl => ?_⟩
      obtain ⟨i5, r5, rp5⟩ := lst_new i hl rs
      exact g _ _ i5 r5 rp5
theorem ra_tuple (hd : d = .tuple ds ∨ d = .list ds) : RaD W K (fun xs H Q => ∃ p ys, xs = [.ref p] ∧ ((SqL K H p ys ∧ ∀ l, H l = none → Q (.ref l) (upd H l (.tup ys))) ∨ (SqT K H p ys ∧ Q (.ref p) H))) [d] (.tuple ds) := fun b H xs i rx Q g => by
  cases rx with
  | cons r t =>
    cases t
    rcases hd with rfl | rfl
    · obtain ⟨a, ys, rfl, hs, rs⟩ := rp_tup r
      exact ⟨a, ys, rfl, .inr ⟨ex_t hid_ex hs, g _ H i (W.refl H) r⟩⟩
    · obtain ⟨a, ys, rfl, hs, rs⟩ := rp_lst r
      refine ⟨a, ys, rfl, .inl ⟨sq_of (hid_ex _ _ hs), fun l hl => ?_⟩⟩
      obtain ⟨i5, r5, rp5⟩ := seq_new i hl rs
      exact g _ _ i5 r5 rp5
theorem ra_all {bs : List Bool} : RaD W K (rAll K) [.list (bs.map .bool)] (.bool (bs.all id)) := fun b H xs i rx Q g => by
  cases rx with
  | cons r t =>
    cases t
    obtain ⟨a, ys, rfl, hs, rs⟩ := rp_lst (un r)
    have e := rs.bls; subst e
    exact ⟨a, bs, rfl, sq_of hs, g _ H i (W.refl H) (.bl _)⟩
theorem ra_abs {i : Int} : RaD W K (fun xs H Q => ∃ i, xs = [.int i] ∧ Q (.int (if i < 0 then -i else i)) H) [.int i] (.int (if i < 0 then -i else i)) := ra_val (v := .int _) (fun H xs r Q q => by
  cases r with
  | cons r t => cases t; exact ⟨i, by rw [rp_int r], q⟩) fun _ => .int _
theorem ra_int {i : Int} : RaD W K (fun xs H Q => (∃ i, xs = [.int i] ∧ Q (.int i) H) ∨ ∃ k, xs = [.bl k] ∧ Q (.int (if k then 1 else 0)) H) [.int i] (.int i) := ra_val (v := .int _) (fun H xs r Q q => by
  cases r with
  | cons r t => cases t; exact .inl ⟨i, by rw [rp_int r], q⟩) fun _ => .int _
theorem ra_min {i j : Int} : RaD W K (fun xs H Q => ∃ i j, xs = [.int i, .int j] ∧ Q (.int (if j < i then j else i)) H) [.int i, .int j] (.int (if j < i then j else i)) := ra_val (v := .int _) (fun H xs r Q q => by
  cases r with
  | cons r t => cases t with
    | cons r2 t2 => cases t2; exact ⟨i, j, by rw [rp_int r, rp_int r2], q⟩) fun _ => .int _
end
end Qe
set_option maxRecDepth 100000
set_option maxHeartbeats 4000000
/-! Walks over data: comprehensions, for loops. -/
namespace Qe
open PySem L2 Evl Qd
/-- J gives, turn by turn, what stands for the items of es, while H0 stands -/
def EachD (K : PySem.W.Frag) (J : It) (H0 : Hp) (es : List PyData) : Prop := Walk J es.length (fun H => Ex H0 H) (fun i H x H' => Ex H H' ∧ ∀ B : Addr → Prop, (∀ a, B a → H a ≠ none) → Ex H0 (hid B H) → ∃ d, es[i]? = some d ∧ Rp K (hid B H') x d)
def EiD (W : Wd) (K : PySem.W.Frag) (wi : TI) (σ : L2.St) (H : Hp) (es : List PyData) : Prop := ∀ b H1, W.I b H1 → Ex (W.m H) (W.m H1) → ∀ R : It → Hp → Prop, (∀ J H2, W.I b H2 → W.R H1 H2 → EachD K J (W.m H2) es → R J H2) → wi σ H1 R
def EiP (W : Wd) (K : PySem.W.Frag) (c : Nat) (wi : TI) (σ : L2.St) (H : Hp) (p : List PyData → Prop) : Prop := ∀ b H1, W.I (b + c) H1 → Ex (W.m H) (W.m H1) → ∀ R : It → Hp → Prop, (∀ J H2 es, W.I b H2 → W.R H1 H2 → p es → EachD K J (W.m H2) es → R J H2) → wi σ H1 R
section
variable {W : Wd} {K : PySem.W.Frag} {σ : L2.St} {H H' : Hp} {c c' c1 c2 : Nat} {ta tb te tx : TE} {tas tr : TA} {tt u : TT} {d : PyData} {ds es : List PyData} {wi : TI}
theorem EiD.toP {p : List PyData → Prop} (a : EiD W K wi σ H es) (h : p es) : EiP W K c wi σ H p := fun b H1 i e R g => a b H1 (W.less i) e R fun J H2 i2 r2 w => g J H2 es i2 r2 h w
theorem each_list {H0 : Hp} {a : Addr} {xs : List V} (h : H0 a = some (.lst xs)) (r : Rps K H0 xs ds) : EachD K (Itl K a) H0 ds := by
  unfold EachD
  rw [← r.len]
  refine Walk.mono (walk_list (xs := xs)) (fun H e => sq_of (e _ _ h)) fun i H x H' hi e y => ?_
  obtain ⟨rfl, hx⟩ := y
  exact ⟨Ex.refl _, fun B _ e0 => Rps.at (r.mono e0) hx⟩
theorem each_tup {H0 : Hp} {a : Addr} {xs : List V} (h : SqT K H0 a xs) (r : Rps K H0 xs ds) : EachD K (Itt K a) H0 ds := by
  unfold EachD
  rw [← r.len]
  refine Walk.mono (walk_tup (xs := xs)) (fun H e => ex_t e h) fun i H x H' hi e y => ?_
  obtain ⟨rfl, hx⟩ := y
  exact ⟨Ex.refl _, fun B _ e0 => Rps.at (r.mono e0) hx⟩
theorem ei_list (h : EvD W K te σ H (.list ds)) : EiD W K (iList K te) σ H ds := fun b H1 i e R g => h b H1 i e _ fun v H2 i2 r2 rp => by
  obtain ⟨a, xs, rfl, hs, rs⟩ := rp_lst rp
  exact ⟨a, rfl, ⟨xs, sq_of (hid_ex _ _ hs)⟩, g _ H2 i2 r2 (each_list hs rs)⟩
theorem ei_tup (h : EvD W K te σ H (.tuple ds)) : EiD W K (iTup K te) σ H ds := fun b H1 i e R g => h b H1 i e _ fun v H2 i2 r2 rp => by
  obtain ⟨a, xs, rfl, hs, rs⟩ := rp_tup rp
  exact ⟨a, rfl, ⟨xs, ex_t hid_ex hs⟩, g _ H2 i2 r2 (each_tup hs rs)⟩
theorem eip_list {p : List PyData → Prop} (h : EvP W K c te σ H (fun d => ∃ ds, d = .list ds ∧ p ds)) : EiP W K c (iList K te) σ H p := fun b H1 i e R g => h b H1 i e _ fun v H2 d i2 r2 rp hd => by
  obtain ⟨ds, rfl, hp⟩ := hd
  obtain ⟨a, xs, rfl, hs, rs⟩ := rp_lst rp
  exact ⟨a, rfl, ⟨xs, sq_of (hid_ex _ _ hs)⟩, g _ H2 ds i2 r2 hp (each_list hs rs)⟩
theorem eip_tup {p : List PyData → Prop} (h : EvP W K c te σ H (fun d => ∃ ds, d = .tuple ds ∧ p ds)) : EiP W K c (iTup K te) σ H p := fun b H1 i e R g => h b H1 i e _ fun v H2 d i2 r2 rp hd => by
  obtain ⟨ds, rfl, hp⟩ := hd
  obtain ⟨a, xs, rfl, hs, rs⟩ := rp_tup rp
  exact ⟨a, rfl, ⟨xs, ex_t hid_ex hs⟩, g _ H2 ds i2 r2 hp (each_tup hs rs)⟩
/-- a text, sign by sign -/
def signs (z : Str) : List PyData := z.cps.toList.map fun c => .str ⟨#[c]⟩
theorem each_str {z : Str} {H0 : Hp} : EachD K (Its z) H0 (signs z) := by
  unfold EachD
  have e : (signs z).length = z.cps.size := by simp [signs]
  rw [e]
  refine Walk.mono walk_str (fun _ _ => trivial) fun i H x H' hi e y => ?_
  obtain ⟨rfl, c, hc, rfl⟩ := y
  refine ⟨Ex.refl _, fun B _ e0 => ⟨.str ⟨#[c]⟩, ?_, .str _⟩⟩
  simp [signs, hc]
theorem ei_str {z : Str} (h : EvD W K te σ H (.str z)) : EiD W K (iStr te) σ H (signs z) := fun b H1 i e R g => h b H1 i e _ fun v H2 i2 r2 rp => ⟨z, rp_str rp, g _ H2 i2 r2 each_str⟩
theorem eip_str {p : List PyData → Prop} (h : EvP W K c te σ H (fun d => ∃ z, d = .str z ∧ p (signs z))) : EiP W K c (iStr te) σ H p := fun b H1 i e R g => h b H1 i e _ fun v H2 d i2 r2 rp hd => by
  obtain ⟨z, rfl, hp⟩ := hd
  exact ⟨z, rp_str rp, g _ H2 _ i2 r2 hp each_str⟩
/-- zip of two tuples: new pairs -/
def zipD (xs ys : List PyData) : List PyData := (xs.zip ys).map fun p => .tuple [p.1, p.2]
theorem walk_zipT {n : Nat} {a b : Addr} {xs ys : List V} (hn : n = min xs.length ys.length) : Walk (RZ.ItzT K a b) n (fun H => SqT K H a xs ∧ SqT K H b ys) (YPair (fun i => xs[i]?) (fun i => ys[i]?)) := by
  subst hn
  refine ⟨fun i _ hi q => ?_, fun _ q => ⟨xs, ys, q.1, q.2, by omega⟩, fun i H v H' _ q y => ?_⟩
  · have h1 : i < xs.length := by omega
    have h2 : i < ys.length := by omega
    exact ⟨xs, ys, xs[i], ys[i], q.1, q.2, by simp [h1], by simp [h2]⟩
  · obtain ⟨T, x, z, h1, h2, h3, h4, h5⟩ := y
    exact ⟨T, x, z, h1, h2, h3, h4 xs q.1, h5 ys q.2⟩
theorem pair_each {i : Nat} {H H' : Hp} {x : V} {xs ys : List V} {H0 : Hp} (r1 : Rps K H0 xs ds) (r2 : Rps K H0 ys es) (y : YPair (fun i => xs[i]?) (fun i => ys[i]?) i H x H') :
    Ex H H' ∧ ∀ B : Addr → Prop, (∀ a, B a → H a ≠ none) → Ex H0 (hid B H) → ∃ d, (zipD ds es)[i]? = some d ∧ Rp K (hid B H') x d := by
  obtain ⟨T, u, v, rfl, hT, rfl, hu, hv⟩ := y
  refine ⟨Ex.new hT, fun B hB e0 => ?_⟩
  obtain ⟨d1, g1, s1⟩ := Rps.at (r1.mono e0) hu
  obtain ⟨d2, g2, s2⟩ := Rps.at (r2.mono e0) hv
  have nB : ¬ B T := fun z => hB T z hT
  refine ⟨.tuple [d1, d2], ?_, ?_⟩
  · unfold zipD
    rw [List.getElem?_map, show (ds.zip es)[i]? = some (d1, d2) from List.getElem?_zip_eq_some.mpr ⟨g1, g2⟩]
    rfl
  · rw [hid_new nB]
    have ex : Ex (hid B H) (upd (hid B H) T (.tup [u, v])) := by
      rw [← hid_new nB]
      exact ex_hid (Ex.new hT)
    exact .tup (st_of upd_same) (.cons (s1.mono ex) (.cons (s2.mono ex) .nil))
theorem ei_zipT (h : EaD W K tas σ H [.tuple ds, .tuple es]) : EiD W K (RZ.iZipA K tas) σ H (zipD ds es) := fun b H1 i e R g => h b H1 i e _ fun vs H2 i2 r2 rp => by
  cases rp with
  | cons ra t => cases t with
    | cons rb t2 =>
      cases t2
      obtain ⟨a, xs, rfl, hs, rs⟩ := rp_tup ra
      obtain ⟨a2, ys, rfl, hs2, rs2⟩ := rp_tup rb
      refine ⟨a, a2, xs, ys, rfl, .inr ⟨ex_t hid_ex hs, ex_t hid_ex hs2, g _ H2 i2 r2 ?_⟩⟩
      unfold EachD
      have hl : (zipD ds es).length = min xs.length ys.length := by rw [zipD, List.length_map, List.length_zip, rs.len, rs2.len]
      rw [hl]
      exact Walk.mono (walk_zipT rfl) (fun H e => ⟨ex_t e hs, ex_t e hs2⟩) fun i H x H' hi e y => pair_each rs rs2 y
theorem ei_zipL (h : EaD W K tas σ H [.list ds, .list es]) : EiD W K (RZ.iZipA K tas) σ H (zipD ds es) := fun b H1 i e R g => h b H1 i e _ fun vs H2 i2 r2 rp => by
  cases rp with
  | cons ra t => cases t with
    | cons rb t2 =>
      cases t2
      obtain ⟨a, xs, rfl, hs, rs⟩ := rp_lst ra
      obtain ⟨a2, ys, rfl, hs2, rs2⟩ := rp_lst rb
      refine ⟨a, a2, xs, ys, rfl, .inl ⟨sq_of (hid_ex _ _ hs), sq_of (hid_ex _ _ hs2), g _ H2 i2 r2 ?_⟩⟩
      unfold EachD
      have hl : (zipD ds es).length = min xs.length ys.length := by rw [zipD, List.length_map, List.length_zip, rs.len, rs2.len]
      rw [hl]
      exact Walk.mono (walk_zip rfl) (fun H e => ⟨sq_of (e _ _ hs), sq_of (e _ _ hs2)⟩) fun i H x H' hi e y => pair_each rs rs2 y
/-- a range from 0 -/
def upto (n : Nat) : List PyData := (List.range n).map fun (i : Nat) => PyData.int (i : Int)
theorem each_range {n : Nat} {H0 : Hp} : EachD K (Itr 0 n) H0 (upto n) := by
  unfold EachD
  have e : (upto n).length = n := by simp [upto]
  rw [e]
  refine Walk.mono walk_range (fun _ _ => trivial) fun i H x H' hi e y => ?_
  obtain ⟨rfl, rfl⟩ := y
  refine ⟨Ex.refl _, fun B _ e0 => ⟨.int i, ?_, ?_⟩⟩
  · simp [upto, hi]
  · show Rp K _ (.int (0 + (i : Int))) _
    rw [Int.zero_add]; exact .int _
theorem eip_range {p : Nat → Prop} (h : EaP W K c tas σ H (fun ds => ∃ n : Nat, ds = [.int n] ∧ p n)) (hp : ∀ n, p n → n ≤ 100000) : EiP W K c (iRng1 tas) σ H (fun es => ∃ n, es = upto n ∧ p n) := fun b H1 i e R g => h b H1 i e _ fun vs H2 ds i2 r2 rp hd => by
  obtain ⟨n, rfl, hn⟩ := hd
  have h2 := hp n hn
  cases rp with
  | cons r t =>
    cases t
    refine ⟨n, by rw [rp_int r], by omega, by omega, ?_⟩
    rw [Int.toNat_natCast]
    exact g _ H2 _ i2 r2 ⟨n, rfl, hn⟩ each_range
/-! ### comprehensions -/
variable {g : TG} {vs : List Nat}
/-- S d: the slots when the target holds d -/
def Tgt (K : PySem.W.Frag) (g : TG) (σ : L2.St) (d : PyData) (S : L2.St → Hp → Prop) : Prop := ∀ (B : Addr → Prop) x H Q, Rp K (hid B H) x d → (∀ σ2, S σ2 (hid B H) → Q σ2 H) → g x σ H Q
def SN (K : PySem.W.Frag) (σ : L2.St) (j : Nat) (d : PyData) : L2.St → Hp → Prop := fun σ2 Hv => ∃ x, σ2 = σ.set j (some x) ∧ Rp K Hv x d
theorem tg_name {j : Nat} : Tgt K (gName j) σ d (SN K σ j d) := fun B x H Q r g => g _ ⟨x, rfl, r⟩
def SP (K : PySem.W.Frag) (σ : L2.St) (j1 j2 : Nat) (d1 d2 : PyData) : L2.St → Hp → Prop := fun σ2 Hv => ∃ x y, σ2 = (σ.set j1 (some x)).set j2 (some y) ∧ Rp K Hv x d1 ∧ Rp K Hv y d2
theorem tg_pair {j1 j2 : Nat} {d1 d2 : PyData} : Tgt K (gTup K 2 (gCons (gName j1) (gCons (gName j2) gNil))) σ (.tuple [d1, d2]) (SP K σ j1 j2 d1 d2) := fun B x H Q r g => by
  obtain ⟨a, xs, rfl, hs, rs⟩ := rp_tup r
  cases rs with
  | cons r1 t => cases t with
    | cons r2 t2 =>
      cases t2
      exact ⟨a, _, rfl, ex_t hid_ex hs, rfl, ⟨_, _, rfl, _, _, rfl, rfl, g _ ⟨_, _, rfl, r1, r2⟩⟩⟩
theorem dv_lc {S : PyData → L2.St → Hp → Prop} (f : PyData → Bool) (e : PyData → PyData) (hi : EiD W K wi σ H es) (hl : es.length ≤ 50000) (hg : ∀ d ∈ es, Tgt K g (wipe σ vs) d (S d)) (hw : ∀ d σ2 Hv, S d σ2 Hv → wipe σ2 vs = wipe σ vs)
    (ht : ∀ D d σ2 H', d ∈ es → Ex (W.m H) ((W.hide D).m H') → S d σ2 ((W.hide D).m H') → EtD (W.hide D) tt σ2 H' (f d))
    (he : ∀ D d σ2 H', d ∈ es → Ex (W.m H) ((W.hide D).m H') → S d σ2 ((W.hide D).m H') → f d = true → EvD (W.hide D) K te σ2 H' (e d)) : EvD W K (tLc wi g tt te vs) σ H (.list ((es.filter f).map e)) := fun b H1 i e1 Q k =>
  hi b H1 i e1 _ fun J H2 i2 r2 W0 D hD => by
    have nA := Wd.fresh i2 hD
    have up02 : Ex (W.m H) (W.m H2) := e1.trans (W.up i r2)
    refine lc_it W0 (fun n H => (W.hide D).I b H ∧ W.R H2 H ∧ Ex (W.m H2) ((W.hide D).m H) ∧ ∃ ws, H D = some (.lst ws) ∧ Rps K ((W.hide D).m H) ws (((es.take n).filter f).map e) ∧ ws.length ≤ n) ?_ ?_ ?_ ?_
    · exact ⟨Wd.hideI i2 hD, W.mtt i2 hD (W.refl H2), Wd.hide_ex hD, [], upd_same, .nil, Nat.le_refl _⟩
    · exact fun n H3 _ p => p.2.2.1.trans hid_ex
    · rintro n x H3 H4 hn ⟨j3, r3, e3, ws, hws, rws, lws⟩ ⟨y1, y2⟩
      obtain ⟨d, hd, rx⟩ := y2 (W.hide D).A (fun a ha => (W.hide D).alive j3 ha) e3
      obtain ⟨r34, j4⟩ := (W.hide D).new j3 y1
      have u34 := (W.hide D).up j3 r34
      have mem : d ∈ es := List.mem_of_getElem? hd
      have hdrop : es.take (n + 1) = es.take n ++ [d] := by rw [List.take_add_one, hd]; rfl
      refine hg d mem (W.hide D).A x H4 _ rx fun σ2 hS => ⟨hw d σ2 _ hS, ?_⟩
      have b4 : Ex (W.m H) ((W.hide D).m H4) := up02.trans (e3.trans u34)
      refine ht D d σ2 H4 mem b4 hS b H4 j4 (Ex.refl _) _ fun H5 j5 r5 => ?_
      have u45 := (W.hide D).up j4 r5
      have c5 : H5 D = some (.lst ws) := by rw [r5.2, r34.2]; exact hws
      cases hf : f d with
      | true =>
        refine he D d σ2 H4 mem b4 hS hf b H5 j5 u45 _ fun y H6 j6 r6 ry => ?_
        have u56 := (W.hide D).up j5 r6
        have c6 : H6 D = some (.lst ws) := by rw [r6.2]; exact c5
        have ln : (es.take n).length ≤ 50000 := by rw [List.length_take]; omega
        refine ⟨ws, c6, sz_lt (by omega), Wd.hide_mut j6 nA, W.mtt i2 hD (W.trans r3 (W.trans r34.1 (W.trans r5.1 r6.1))), ?_, ws ++ [y], upd_same, ?_, by simp; omega⟩
        · rw [Wd.hide_m]
          exact e3.trans (u34.trans (u45.trans u56))
        · rw [Wd.hide_m, hdrop, List.filter_append, List.map_append, List.filter_cons, if_pos hf]
          exact (rws.mono (u34.trans (u45.trans u56))).app (.one ry)
      | false =>
        refine ⟨j5, W.trans r3 (W.trans r34.1 r5.1), e3.trans (u34.trans u45), ws, c5, ?_, by omega⟩
        rw [hdrop, List.filter_append, List.map_append, List.filter_cons, if_neg (by rw [hf]; decide)]
        show Rps K _ ws (_ ++ [])
        rw [List.append_nil]
        exact rws.mono (u34.trans u45)
    · rintro H3 ⟨j3, r3, e3, ws, hws, rws, lws⟩
      rw [List.take_length] at rws
      refine k _ H3 j3.1 (W.trans r2 r3) (.lst ?_ (rws.mono Wd.hide_sub))
      rw [show W.m H3 D = H3 D from hid_at nA]
      exact hws
/-- with spending -/
theorem pv_lc {S : PyData → L2.St → Hp → Prop} {p : List PyData → Prop} {q : PyData → PyData → Prop} {n : Nat} (hi : EiP W K c1 wi σ H p) (hn : ∀ es, p es → es.length ≤ n) (hn2 : n ≤ 50000) (hg : ∀ es, p es → ∀ d ∈ es, Tgt K g (wipe σ vs) d (S d)) (hw : ∀ d σ2 Hv, S d σ2 Hv → wipe σ2 vs = wipe σ vs)
    (ht : ∀ D es d σ2 H', p es → d ∈ es → Ex (W.m H) ((W.hide D).m H') → S d σ2 ((W.hide D).m H') → EtD (W.hide D) tt σ2 H' true)
    (he : ∀ D es d σ2 H', p es → d ∈ es → Ex (W.m H) ((W.hide D).m H') → S d σ2 ((W.hide D).m H') → EvP (W.hide D) K c2 te σ2 H' (q d)) :
    EvP W K (c1 + n * c2) (tLc wi g tt te vs) σ H (fun r => ∃ es rs, r = .list rs ∧ p es ∧ rs.length = es.length ∧ ∀ (i : Nat) d r, es[i]? = some d → rs[i]? = some r → q d r) := fun b H1 i e1 Q k => by
  have i' : W.I (b + n * c2 + c1) H1 := by rw [Nat.add_assoc, Nat.add_comm (n * c2) c1]; exact i
  refine hi (b + n * c2) H1 i' e1 _ fun J H2 es i2 r2 hp W0 D hD => ?_
  have nA := Wd.fresh i2 hD
  have hen := hn es hp
  have up02 : Ex (W.m H) (W.m H2) := e1.trans (W.up i r2)
  refine lc_it W0 (fun m H => m ≤ es.length ∧ (W.hide D).I (b + (n - m) * c2) H ∧ W.R H2 H ∧ Ex (W.m H2) ((W.hide D).m H) ∧ ∃ ws rs, H D = some (.lst ws) ∧ Rps K ((W.hide D).m H) ws rs ∧ rs.length = m ∧ ∀ (i : Nat) d r, es[i]? = some d → rs[i]? = some r → q d r) ?_ ?_ ?_ ?_
  · exact ⟨Nat.zero_le _, Wd.hideI i2 hD, W.mtt i2 hD (W.refl H2), Wd.hide_ex hD, [], [], upd_same, .nil, rfl, fun i d r _ h => by simp at h⟩
  · exact fun n H3 _ p => p.2.2.2.1.trans hid_ex
  · rintro m x H3 H4 hm ⟨_, j3, r3, e3, ws, rs, hws, rws, lrs, hq⟩ ⟨y1, y2⟩
    obtain ⟨d, hd, rx⟩ := y2 (W.hide D).A (fun a ha => (W.hide D).alive j3 ha) e3
    obtain ⟨r34, j4⟩ := (W.hide D).new j3 y1
    have u34 := (W.hide D).up j3 r34
    have mem : d ∈ es := List.mem_of_getElem? hd
    refine hg es hp d mem (W.hide D).A x H4 _ rx fun σ2 hS => ⟨hw d σ2 _ hS, ?_⟩
    have b4 : Ex (W.m H) ((W.hide D).m H4) := up02.trans (e3.trans u34)
    refine ht D es d σ2 H4 hp mem b4 hS _ H4 j4 (Ex.refl _) _ fun H5 j5 r5 => ?_
    have u45 := (W.hide D).up j4 r5
    have c5 : H5 D = some (.lst ws) := by rw [r5.2, r34.2]; exact hws
    have em : b + (n - m) * c2 = b + (n - (m + 1)) * c2 + c2 := by
      have : n - m = (n - (m + 1)) + 1 := by omega
      rw [this, Nat.add_mul, Nat.one_mul, ← Nat.add_assoc]
    rw [em] at j5
    refine he D es d σ2 H4 hp mem b4 hS _ H5 j5 u45 _ fun y H6 r j6 r6 ry hr => ?_
    have u56 := (W.hide D).up j5 r6
    have c6 : H6 D = some (.lst ws) := by rw [r6.2]; exact c5
    have lw := rws.len
    refine ⟨ws, c6, sz_lt (by omega), by omega, Wd.hide_mut j6 nA, W.mtt i2 hD (W.trans r3 (W.trans r34.1 (W.trans r5.1 r6.1))), ?_, ws ++ [y], rs ++ [r], upd_same, ?_, by simp; omega, ?_⟩
    · rw [Wd.hide_m]
      exact e3.trans (u34.trans (u45.trans u56))
    · rw [Wd.hide_m]
      exact (rws.mono (u34.trans (u45.trans u56))).app (.one ry)
    · intro i d' r' h1 h2
      by_cases hlt : i < rs.length
      · rw [List.getElem?_append_left hlt] at h2
        exact hq i d' r' h1 h2
      · rw [List.getElem?_append_right (by omega)] at h2
        have hi0 : i = rs.length := by
          have := (List.getElem?_eq_some_iff.mp h2).1
          simp at this
          omega
        subst hi0
        rw [lrs, hd] at h1
        simp at h2
        cases h1
        subst h2
        exact hr
  · rintro H3 ⟨_, j3, r3, e3, ws, rs, hws, rws, lrs, hq⟩
    refine k _ H3 _ (W.less j3.1) (W.trans r2 r3) (.lst ?_ (rws.mono Wd.hide_sub)) ⟨es, rs, rfl, hp, lrs, hq⟩
    rw [show W.m H3 D = H3 D from hid_at nA]
    exact hws
/-! ### for -/
variable {D : Ends} {tu tz : TS}
theorem q_forP {b : Nat} {p : List PyData → Prop} (hi : EiP W K c wi σ H p) (i0 : W.I (b + c) H) (Pv : Hp → List PyData → Nat → L2.St → Hp → Prop) (h0 : ∀ H2 es, p es → W.I b H2 → W.R H H2 → Pv H2 es 0 σ H2)
    (hG : ∀ H2 es n σ' H', p es → n ≤ es.length → Pv H2 es n σ' H' → Ex (W.m H2) H')
    (hs : ∀ H2 es n x d σ' H' H3, p es → es[n]? = some d → Pv H2 es n σ' H' → Ex H' H3 → (∀ B : Addr → Prop, (∀ a, B a → H' a ≠ none) → Ex (W.m H2) (hid B H') → Rp K (hid B H3) x d) →
      g x σ' H3 fun σ2 H4 => tu { D with nx := Pv H2 es (n + 1), ct := Pv H2 es (n + 1), bk := tz D } σ2 H4)
    (hd : ∀ H2 es σ' H', p es → Pv H2 es es.length σ' H' → tz D σ' H') : tSeq (tFor wi g tu) tz D σ H :=
  hi b H i0 (Ex.refl _) _ fun J H2 es i2 r2 hp W0 => for_it (D := { D with nx := tz D }) W0 (Pv H2 es) (h0 H2 es hp i2 r2) (fun n σ' H' hn q => hG H2 es n σ' H' hp hn q)
    (fun n x σ' H' H3 hn q y => by
      have hx : es[n]? = some es[n] := List.getElem?_eq_getElem hn
      refine hs H2 es n x es[n] σ' H' H3 hp hx q y.1 fun B h1 h2 => ?_
      obtain ⟨d, e1, e2⟩ := y.2 B h1 h2
      rw [hx] at e1
      cases e1
      exact e2) (fun σ' H' q => hd H2 es σ' H' hp q)
end
end Qe
set_option maxRecDepth 100000
/-! The places of the defs among the top's statements: law_k00_schemas_and_words. -/
namespace Qt
open PySem L2
def topS (i : Nat) : Stmt := PySem.Challenge.pw_queryshown_k00_schemas_and_words.main.body.getD i (.Pass ⟨0, 0, 0, 0⟩)
abbrev s_is_word : Stmt := topS 7
abbrev s_is_whole : Stmt := topS 8
abbrev s_is_free_word : Stmt := topS 9
abbrev s_is_row : Stmt := topS 10
abbrev s_is_table_pair : Stmt := topS 15
abbrev s_are_tables : Stmt := topS 16
abbrev s_are_names : Stmt := topS 17
abbrev s_is_schema : Stmt := topS 18
abbrev s_need_schema : Stmt := topS 19
abbrev s_widths_of : Stmt := topS 20
abbrev s_need_table : Stmt := topS 21
abbrev s_table_words : Stmt := topS 22
abbrev s_table_width : Stmt := topS 23
abbrev s_is_row_of : Stmt := topS 24
abbrev s__law_begun : Stmt := topS 26
abbrev s__law_blended : Stmt := topS 27
abbrev s__law_draw : Stmt := topS 28
abbrev s__law_pick : Stmt := topS 29
abbrev s__law_shuffled : Stmt := topS 30
abbrev s__law_caught : Stmt := topS 31
abbrev s__law_is_truth : Stmt := topS 32
abbrev s__law_same : Stmt := topS 33
abbrev s__law_words : Stmt := topS 34
abbrev s__law_is_word : Stmt := topS 35
abbrev s__law_kept : Stmt := topS 36
abbrev s__law_free_words : Stmt := topS 37
abbrev s__law_schema : Stmt := topS 38
abbrev s__law_odd : Stmt := topS 39
abbrev s__law_is_free : Stmt := topS 40
abbrev s__law_is_schema : Stmt := topS 41
abbrev s__law_bent : Stmt := topS 42
abbrev s_law : Stmt := topS 43
end Qt
set_option maxRecDepth 100000
set_option maxHeartbeats 4000000
/-! Slots that hold data; statements; promises of defs on data. -/
namespace Qe
open PySem PySem.Spec PyProof.Rows L2 Evl Qd
/-- slot by slot, what it holds (none: not told) -/
def Slots (K : PySem.W.Frag) (Hv : Hp) (σ : L2.St) (l : List (Option PyData)) : Prop := σ.length = l.length ∧ ∀ (i : Nat) d, l[i]? = some (some d) → ∃ v, σ[i]? = some (some v) ∧ Rp K Hv v d
section
variable {W : Wd} {K : PySem.W.Frag} {σ σ2 : L2.St} {H H' Hv Hv' : Hp} {b c c' c1 c2 : Nat} {ta tb te tx : TE} {tas tr : TA} {tt u : TT} {d e : PyData} {ds es : List PyData} {wi : TI} {l : List (Option PyData)} {v : V} {j : Nat}
theorem Slots.mono (e : Ex Hv Hv') (S : Slots K Hv σ l) : Slots K Hv' σ l := ⟨S.1, fun i d h => by
  obtain ⟨v, h1, h2⟩ := S.2 i d h
  exact ⟨v, h1, h2.mono e⟩⟩
theorem Slots.step {H1 : Hp} (S : Slots K (W.m H) σ l) (i : W.I b H) (r : W.R H H1) : Slots K (W.m H1) σ l := S.mono (W.up i r)
theorem Slots.set (S : Slots K Hv σ l) (r : Rp K Hv v d) : Slots K Hv (σ.set j (some v)) (l.set j (some d)) := ⟨by simp [S.1], fun i d' h => by
  by_cases hj : j = i
  · subst hj
    rw [List.getElem?_set_self'] at h
    cases q : l[j]? with
    | none => rw [q] at h; cases h
    | some z =>
      rw [q] at h
      cases h
      have hl := (List.getElem?_eq_some_iff.mp q).1
      refine ⟨v, ?_, r⟩
      rw [List.getElem?_set_self (by rw [S.1]; exact hl)]
  · rw [List.getElem?_set_ne hj] at h
    obtain ⟨w, h1, h2⟩ := S.2 i d' h
    exact ⟨w, by rw [List.getElem?_set_ne hj]; exact h1, h2⟩⟩
/-- a slot of which nothing is told -/
theorem Slots.forget {x : Option V} (S : Slots K Hv σ l) : Slots K Hv (σ.set j x) (l.set j none) := ⟨by simp [S.1], fun i d' h => by
  by_cases hj : j = i
  · subst hj
    rw [List.getElem?_set_self'] at h
    cases q : l[j]? with
    | none => rw [q] at h; cases h
    | some z => rw [q] at h; cases h
  · rw [List.getElem?_set_ne hj] at h
    obtain ⟨w, h1, h2⟩ := S.2 i d' h
    exact ⟨w, by rw [List.getElem?_set_ne hj]; exact h1, h2⟩⟩
theorem ds_var (S : Slots K (W.m H) σ l) {i : Nat} (h : l[i]? = some (some d)) : EvD W K (tVar i) σ H d := by
  obtain ⟨v, h1, h2⟩ := S.2 i d h
  exact dv_var h1 h2
theorem slots_start {N : List Str} {vs : List V} (r : Rps K Hv vs ds) (h : ds.length ≤ N.length) : Slots K Hv (L2.start N vs) (ds.map some ++ List.replicate (N.length - ds.length) none) := by
  have hl := r.len
  refine ⟨by simp [L2.start]; omega, fun i d hd => ?_⟩
  by_cases hi : i < ds.length
  · rw [List.getElem?_append_left (by simpa using hi), List.getElem?_map] at hd
    have hd2 : ds[i]? = some d := by
      cases q : ds[i]? with
      | none => rw [q] at hd; cases hd
      | some z => rw [q] at hd; cases hd; rfl
    obtain ⟨v, h1, h2⟩ := Rps.at' r hd2
    refine ⟨v, ?_, h2⟩
    unfold L2.start
    rw [List.getElem?_append_left (by simp; omega), List.getElem?_map, h1]
    rfl
  · rw [List.getElem?_append_right (by simpa using hi), List.getElem?_replicate] at hd
    split at hd <;> cases hd
/-! comprehensions in slots -/
theorem set_wipe {x : V} : wipe ((wipe σ [j]).set j (some x)) [j] = wipe σ [j] := by
  show ((σ.set j none).set j (some x)).set j none = σ.set j none
  rw [List.set_set, List.set_set]
theorem set_wipe2 {j1 j2 : Nat} {x y : V} : wipe (((wipe σ [j1, j2]).set j1 (some x)).set j2 (some y)) [j1, j2] = wipe σ [j1, j2] := by
  show (((((σ.set j2 none).set j1 none).set j1 (some x)).set j2 (some y)).set j2 none).set j1 none = (σ.set j2 none).set j1 none
  rw [List.set_set, List.set_set]
  by_cases h : j1 = j2
  · subst h; simp [List.set_set]
  · rw [List.set_comm _ _ h, List.set_set, List.set_set]
theorem slots_name (S : Slots K Hv σ l) (h : SN K (wipe σ [j]) j d σ2 Hv) : Slots K Hv σ2 (l.set j (some d)) := by
  obtain ⟨x, rfl, r⟩ := h
  show Slots K Hv ((σ.set j none).set j (some x)) _
  rw [List.set_set]
  exact S.set r
theorem slots_pair {j1 j2 : Nat} {d1 d2 : PyData} (S : Slots K Hv σ l) (h : SP K (wipe σ [j1, j2]) j1 j2 d1 d2 σ2 Hv) : Slots K Hv σ2 (((l.set j2 none).set j1 (some d1)).set j2 (some d2)) := by
  obtain ⟨x, y, rfl, r1, r2⟩ := h
  show Slots K Hv ((((σ.set j2 none).set j1 none).set j1 (some x)).set j2 (some y)) _
  rw [List.set_set]
  exact ((S.forget (j := j2) (x := none)).set r1).set r2
/-- [e for x in es if f] -/
theorem ds_lc (S : Slots K (W.m H) σ l) (f : PyData → Bool) (e : PyData → PyData) (hi : EiD W K wi σ H es) (hl : es.length ≤ 50000)
    (ht : ∀ (W' : Wd) d σ2 H', d ∈ es → Slots K (W'.m H') σ2 (l.set j (some d)) → EtD W' tt σ2 H' (f d))
    (he : ∀ (W' : Wd) d σ2 H', d ∈ es → f d = true → Slots K (W'.m H') σ2 (l.set j (some d)) → EvD W' K te σ2 H' (e d)) : EvD W K (tLc wi (gName j) tt te [j]) σ H (.list ((es.filter f).map e)) :=
  dv_lc (S := fun d => SN K (wipe σ [j]) j d) f e hi hl (fun _ _ => tg_name) (fun d σ2 Hv ⟨x, h, _⟩ => by rw [h]; exact set_wipe)
    (fun D d σ2 H' hd up s => ht (W.hide D) d σ2 H' hd (slots_name (S.mono up) s)) (fun D d σ2 H' hd up s hf => he (W.hide D) d σ2 H' hd hf (slots_name (S.mono up) s))
/-- [e for x in es] -/
theorem ds_map (S : Slots K (W.m H) σ l) (e : PyData → PyData) (hi : EiD W K wi σ H es) (hl : es.length ≤ 50000)
    (he : ∀ (W' : Wd) d σ2 H', d ∈ es → Slots K (W'.m H') σ2 (l.set j (some d)) → EvD W' K te σ2 H' (e d)) : EvD W K (tLc wi (gName j) tYes te [j]) σ H (.list (es.map e)) := by
  have q := ds_lc (W := W) (K := K) (te := te) (tt := tYes) (j := j) S (fun _ => true) e hi hl (fun W' d σ2 H' _ _ => fun b H1 i _ Q g => g H1 i (W'.refl H1)) (fun W' d σ2 H' hd _ s => he W' d σ2 H' hd s)
  have e2 : es.filter (fun _ => true) = es := List.filter_eq_self.mpr fun _ _ => rfl
  rw [e2] at q
  exact q
/-- items that are pictures of things: f, e by the things -/
theorem ds_lcOf {α : Type} (S : Slots K (W.m H) σ l) (xs : List α) (inj : α → PyData) (hinj : ∀ a b, inj a = inj b → a = b) (f : α → Bool) (e : α → PyData) (hi : EiD W K wi σ H (xs.map inj)) (hl : xs.length ≤ 50000)
    (ht : ∀ (W' : Wd) a σ2 H', a ∈ xs → Slots K (W'.m H') σ2 (l.set j (some (inj a))) → EtD W' tt σ2 H' (f a))
    (he : ∀ (W' : Wd) a σ2 H', a ∈ xs → f a = true → Slots K (W'.m H') σ2 (l.set j (some (inj a))) → EvD W' K te σ2 H' (e a)) : EvD W K (tLc wi (gName j) tt te [j]) σ H (.list ((xs.filter f).map e)) := by
  cases xs with
  | nil => exact ds_lc (W := W) (K := K) S (fun _ => false) (fun _ => .none) hi (by simp) (fun _ _ _ _ h => by simp at h) (fun _ _ _ _ h => by simp at h)
  | cons a0 xs' =>
    let inv : PyData → α := fun d => @dite α (∃ a, inj a = d) (Classical.propDecidable _) (fun h => h.choose) fun _ => a0
    have hinv : ∀ a, inv (inj a) = a := fun a => by
      have h : ∃ b, inj b = inj a := ⟨a, rfl⟩
      show (@dite α (∃ b, inj b = inj a) (Classical.propDecidable _) (fun h => h.choose) fun _ => a0) = a
      rw [dif_pos h]
      exact hinj _ _ h.choose_spec
    have q := ds_lc (W := W) (K := K) (te := te) (tt := tt) S (fun d => f (inv d)) (fun d => e (inv d)) hi (by simpa using hl) (fun W' d σ2 H' hd S' => by
      obtain ⟨a, ha, rfl⟩ := List.mem_map.mp hd
      rw [hinv]
      exact ht W' a σ2 H' ha S') (fun W' d σ2 H' hd hf S' => by
      obtain ⟨a, ha, rfl⟩ := List.mem_map.mp hd
      rw [hinv] at hf ⊢
      exact he W' a σ2 H' ha hf S')
    refine q.is ?_
    rw [List.filter_map, List.map_map]
    congr 1
    rw [show (fun d => f (inv d)) ∘ inj = f from funext fun a => by show f (inv (inj a)) = f a; rw [hinv], show (fun d => e (inv d)) ∘ inj = e from funext fun a => by show e (inv (inj a)) = e a; rw [hinv]]
theorem ds_mapOf {α : Type} (S : Slots K (W.m H) σ l) (xs : List α) (inj : α → PyData) (hinj : ∀ a b, inj a = inj b → a = b) (e : α → PyData) (hi : EiD W K wi σ H (xs.map inj)) (hl : xs.length ≤ 50000)
    (he : ∀ (W' : Wd) a σ2 H', a ∈ xs → Slots K (W'.m H') σ2 (l.set j (some (inj a))) → EvD W' K te σ2 H' (e a)) : EvD W K (tLc wi (gName j) tYes te [j]) σ H (.list (xs.map e)) := by
  have q := ds_lcOf (W := W) (K := K) (te := te) (tt := tYes) (j := j) S xs inj hinj (fun _ => true) e hi hl (fun W' d σ2 H' _ _ => fun b H1 i _ Q g => g H1 i (W'.refl H1)) (fun W' d σ2 H' hd _ s => he W' d σ2 H' hd s)
  have e2 : xs.filter (fun _ => true) = xs := List.filter_eq_self.mpr fun _ _ => rfl
  rw [e2] at q
  exact q
/-- all([test for x in xs]) -/
def sgn (c : Nat) : PyData := .str ⟨#[c]⟩
theorem sgn_inj (a b : Nat) (h : sgn a = sgn b) : a = b := by
  unfold sgn at h
  cases h
  rfl
/-- [e for x, y in zip(a, b)] -/
theorem ds_zip {j1 j2 : Nat} {as bs : List PyData} (S : Slots K (W.m H) σ l) (e : PyData → PyData → PyData) (hi : EiD W K wi σ H (zipD as bs)) (hl : as.length ≤ 50000)
    (he : ∀ (W' : Wd) d1 d2 σ2 H', (d1, d2) ∈ as.zip bs → Slots K (W'.m H') σ2 (((l.set j2 none).set j1 (some d1)).set j2 (some d2)) → EvD W' K te σ2 H' (e d1 d2)) :
    EvD W K (tLc wi (gTup K 2 (gCons (gName j1) (gCons (gName j2) gNil))) tYes te [j1, j2]) σ H (.list ((as.zip bs).map fun p => e p.1 p.2)) := by
  have q := dv_lc (W := W) (K := K) (σ := σ) (H := H) (te := te) (tt := tYes) (g := gTup K 2 (gCons (gName j1) (gCons (gName j2) gNil))) (vs := [j1, j2])
    (S := fun d => match d with | .tuple [d1, d2] => SP K (wipe σ [j1, j2]) j1 j2 d1 d2 | _ => fun _ _ => False) (fun _ => true) (fun d => match d with | .tuple [d1, d2] => e d1 d2 | _ => .none) hi (by unfold zipD; rw [List.length_map, List.length_zip]; omega)
    (fun d hd => by
      unfold zipD at hd
      obtain ⟨p, _, rfl⟩ := List.mem_map.mp hd
      exact tg_pair)
    (fun d σ2 Hv h => by
      match d, h with
      | .tuple [d1, d2], ⟨x, y, h, _, _⟩ => rw [h]; exact set_wipe2)
    (fun D d σ2 H' _ _ _ => fun b H1 i _ Q g => g H1 i ((W.hide D).refl H1))
    (fun D d σ2 H' hd up s _ => by
      unfold zipD at hd
      obtain ⟨p, hp, rfl⟩ := List.mem_map.mp hd
      exact he (W.hide D) p.1 p.2 σ2 H' hp (slots_pair (S.mono up) s))
  have e2 : (zipD as bs).filter (fun _ => true) = zipD as bs := List.filter_eq_self.mpr fun _ _ => rfl
  rw [e2] at q
  refine q.is ?_
  unfold zipD
  rw [List.map_map]
  rfl
/-! ### statements -/
variable {D : Ends} {tu tw tz : TS}
theorem qs_asg (S : Slots K (W.m H) σ l) (i : W.I b H) (h : EvD W K te σ H d) (k : ∀ σ1 H1, W.I b H1 → W.R H H1 → Slots K (W.m H1) σ1 (l.set j (some d)) → tz D σ1 H1) : tSeq (tAsg te (gName j)) tz D σ H :=
  h b H i (Ex.refl _) _ fun v H1 i1 r1 rv => k _ H1 i1 r1 ((S.step i r1).set rv)
theorem qs_asgP {p : PyData → Prop} (S : Slots K (W.m H) σ l) (i : W.I (b + c) H) (h : EvP W K c te σ H p) (k : ∀ d σ1 H1, p d → W.I b H1 → W.R H H1 → Slots K (W.m H1) σ1 (l.set j (some d)) → tz D σ1 H1) : tSeq (tAsg te (gName j)) tz D σ H :=
  h b H i (Ex.refl _) _ fun v H1 d i1 r1 rv hp => k d _ H1 hp i1 r1 ((S.step i r1).set rv)
theorem qs_ret (i : W.I b H) (h : EvD W K te σ H d) (k : ∀ v H1, W.I b H1 → W.R H H1 → Rp K (W.m H1) v d → D.rt v H1) : tRet te D σ H := h b H i (Ex.refl _) _ k
theorem qs_if {q : Bool} (S : Slots K (W.m H) σ l) (i : W.I b H) (h : EtD W tt σ H q) (h1 : q = true → ∀ H1, W.I b H1 → W.R H H1 → Slots K (W.m H1) σ l → tu { D with nx := tz D } σ H1)
    (h2 : q = false → ∀ H1, W.I b H1 → W.R H H1 → Slots K (W.m H1) σ l → tw { D with nx := tz D } σ H1) : tSeq (tIfS tt tu tw) tz D σ H :=
  h b H i (Ex.refl _) _ fun H1 i1 r1 => by
    cases q with
    | true => exact h1 rfl H1 i1 r1 (S.step i r1)
    | false => exact h2 rfl H1 i1 r1 (S.step i r1)
theorem qs_when {q : Bool} (S : Slots K (W.m H) σ l) (i : W.I b H) (h : EtD W tt σ H q) (h1 : q = true → ∀ H1, W.I b H1 → W.R H H1 → Slots K (W.m H1) σ l → tu { D with nx := tz D } σ H1)
    (h2 : q = false → ∀ H1, W.I b H1 → W.R H H1 → Slots K (W.m H1) σ l → tz D σ H1) : tSeq (tIfS tt tu tNext) tz D σ H := qs_if S i h h1 h2
/-- the last statement of a block -/
theorem qs_last {q : Bool} (S : Slots K (W.m H) σ l) (i : W.I b H) (h : EtD W tt σ H q) (h1 : q = true → ∀ H1, W.I b H1 → W.R H H1 → Slots K (W.m H1) σ l → tu D σ H1)
    (h2 : q = false → ∀ H1, W.I b H1 → W.R H H1 → Slots K (W.m H1) σ l → tw D σ H1) : tIfS tt tu tw D σ H :=
  h b H i (Ex.refl _) _ fun H1 i1 r1 => by
    cases q with
    | true => exact h1 rfl H1 i1 r1 (S.step i r1)
    | false => exact h2 rfl H1 i1 r1 (S.step i r1)
end
/-! ### promises -/
/-- called with data ds that are ok, gives g ds; nothing but new objects -/
def spP (K : PySem.W.Frag) (ok : List PyData → Prop) (g : List PyData → PyData) : Sp := fun vs H Q _ => ∃ (A : Addr → Prop) (ds : List PyData), (∀ a, A a → H a ≠ none) ∧ Rps K (hid A H) vs ds ∧ ok ds ∧ ∀ v H', Ex H H' → Rp K (hid A H') v (g ds) → Q v H'
/-- the same for a def that raises the error of the class at C where bad -/
def spE (K : PySem.W.Frag) (C : Addr) (ok : List PyData → Prop) (bad : List PyData → Bool) (g : List PyData → PyData) : Sp := fun vs H Q E => ∃ (A : Addr → Prop) (ds : List PyData), (∀ a, A a → H a ≠ none) ∧ Rps K (hid A H) vs ds ∧ ok ds ∧
  (bad ds = false → ∀ v H', Ex H H' → Rp K (hid A H') v (g ds) → Q v H') ∧ (bad ds = true → ∀ H', Ex H H' → E (.ref C) none H')
section
variable {W : Wd} {K : PySem.W.Frag} {ds : List PyData} {ok : List PyData → Prop} {g : List PyData → PyData} {bad : List PyData → Bool} {C : Addr} {E : XK}
theorem ra_sp (h : ok ds) : RaD W K (fun vs H Q => spP K ok g vs H Q E) ds (g ds) := fun b H xs i rx Q k => ⟨W.A, ds, fun a ha => W.alive i ha, rx, h, fun v H' e r => by
  obtain ⟨r2, i2⟩ := W.new i e
  exact k v H' i2 r2 r⟩
theorem ra_spE (h : ok ds) (hb : bad ds = false) : RaD W K (fun vs H Q => spE K C ok bad g vs H Q E) ds (g ds) := fun b H xs i rx Q k => ⟨W.A, ds, fun a ha => W.alive i ha, rx, h, fun _ v H' e r => by
  obtain ⟨r2, i2⟩ := W.new i e
  exact k v H' i2 r2 r, fun z => by rw [hb] at z; cases z⟩
variable {P : Program} {w : World} {mg : Str → Option Value} {base : Heap}
/-- a def by its body -/
theorem fn_pure {x qual : Str} {st : Stmt} {f : Addr} {fd : FuncData} {N ps : List Str} {k : Nat} (F : Fun K x qual st f fd) (S : FnScope N ps (defScope st)) (hok : ∀ ds, ok ds → ds.length = ps.length) (hN : ps.length ≤ N.length := by decide)
    (hbody : ∀ (cdv : Value) (A : Around) (outer : List Env) (s : Shared) (H : Hp) (E : XK), Room k (A.deeper (envOfC qual (defScope st) s.heap.objs.size f cdv)) →
      ∃ t, PSs (cxOf CX0 P w K mg base N qual (defScope st) f cdv A outer s H E).nox (defBody st) t ∧
        ∀ (W : Wd) ds σ (Q : VK), ok ds → W.I 0 H → Slots K (W.m H) σ (ds.map some ++ List.replicate (N.length - ds.length) none) → (∀ v H1, W.R H H1 → Rp K (W.m H1) v (g ds) → Q v H1) → t { nx := fun _ H' => Q .non H', rt := Q } σ H) :
    FnOk P w K mg base CX0 (k + 1) f fd ps (spP K ok g) := by
  refine F.ok S (fun vs H Q E h => ?_) (fun cdv A outer s H vs Q E hr h => ?_)
  · obtain ⟨B, ds, _, r, h, _⟩ := h
    rw [r.len]
    exact hok ds h
  · obtain ⟨B, ds, al, r, h, q⟩ := h
    obtain ⟨t, ht, hq⟩ := hbody cdv A outer s H E hr
    have hl := hok ds h
    exact ⟨t, ht, hq (Wd.pure B) ds _ Q h al (slots_start r (by omega)) fun v H1 e rv => q v H1 e rv⟩
theorem fn_pureE {x qual : Str} {st : Stmt} {f : Addr} {fd : FuncData} {N ps : List Str} {k : Nat} (F : Fun K x qual st f fd) (S : FnScope N ps (defScope st)) (hok : ∀ ds, ok ds → ds.length = ps.length) (hN : ps.length ≤ N.length := by decide)
    (hbody : ∀ (cdv : Value) (A : Around) (outer : List Env) (s : Shared) (H : Hp) (E : XK), Room k (A.deeper (envOfC qual (defScope st) s.heap.objs.size f cdv)) →
      ∃ t, PSs (cxOf (L2.CX P w) P w K mg base N qual (defScope st) f cdv A outer s H E) (defBody st) t ∧
        ∀ (W : Wd) ds σ (Q : VK), ok ds → W.I 0 H → Slots K (W.m H) σ (ds.map some ++ List.replicate (N.length - ds.length) none) → (bad ds = false → ∀ v H1, W.R H H1 → Rp K (W.m H1) v (g ds) → Q v H1) →
          (bad ds = true → ∀ H1, W.R H H1 → E (.ref C) none H1) → t { nx := fun _ H' => Q .non H', rt := Q } σ H) :
    FnOk P w K mg base (L2.CX P w) (k + 1) f fd ps (spE K C ok bad g) := by
  refine F.okX S (fun vs H Q E h => ?_) (fun cdv A outer s H vs Q E hr h => ?_)
  · obtain ⟨B, ds, _, r, h, _⟩ := h
    rw [r.len]
    exact hok ds h
  · obtain ⟨B, ds, al, r, h, q, q2⟩ := h
    obtain ⟨t, ht, hq⟩ := hbody cdv A outer s H E hr
    have hl := hok ds h
    exact ⟨t, ht, hq (Wd.pure B) ds _ Q h al (slots_start r (by omega)) (fun z v H1 e rv => q z v H1 e rv) fun z H1 e => q2 z H1 e⟩
end
end Qe
set_option maxRecDepth 100000
set_option maxHeartbeats 4000000
/-! Words for walks over data. -/
namespace Qe
open PySem PySem.Spec PyProof.Rows L2 Evl Qd
theorem okI (i : Int) : okD (.int i) = true := by simp [okD, flat, SeqAt.shaped, PyData.canLay0, PyData.depth]
theorem okS {x : Str} (h : PyData.strOk x = true) : okD (.str x) = true := by simp [okD, flat, SeqAt.shaped, PyData.canLay0, PyData.depth, h]
theorem okB (b : Bool) : okD (.bool b) = true := by simp [okD, flat, SeqAt.shaped, PyData.canLay0, PyData.depth]
theorem okN : okD .none = true := by simp [okD, flat, SeqAt.shaped, PyData.canLay0, PyData.depth]
theorem eqvI (i j : Int) : PyData.eqv (.int i) (.int j) = decide (i = j) := by simp only [PyData.eqv]; exact PySem.W.beq_decide i j
theorem eqvS (i j : Str) : PyData.eqv (.str i) (.str j) = decide (i = j) := by simp only [PyData.eqv]; exact PySem.W.beq_decide i j
theorem eqvB (i j : Bool) : PyData.eqv (.bool i) (.bool j) = decide (i = j) := by simp only [PyData.eqv]; exact PySem.W.beq_decide i j
theorem flatAll_strs : ∀ xs : List Str, flatAll (xs.map .str) = true
  | [] => by simp [flatAll]
  | x :: xs => by rw [List.map_cons, flatAll, flatAll_strs xs]; simp [flat]
theorem canLayAll_strs : ∀ {xs : List Str}, (∀ x ∈ xs, PyData.strOk x = true) → PyData.canLayAll0 (xs.map .str) = true
  | [], _ => by simp [PyData.canLayAll0]
  | x :: xs, h => by rw [List.map_cons, PyData.canLayAll0, canLayAll_strs fun y hy => h y (.tail _ hy)]; simp [PyData.canLay0, h x (.head _)]
theorem depthAll_strs : ∀ xs : List Str, PyData.depthAll (xs.map .str) = 0
  | [] => by simp [PyData.depthAll]
  | x :: xs => by rw [List.map_cons, PyData.depthAll, depthAll_strs xs]; simp [PyData.depth]
theorem okLS {xs : List Str} (h : ∀ x ∈ xs, PyData.strOk x = true) : okD (.list (xs.map .str)) = true := by
  simp [okD, flat, SeqAt.shaped, PyData.canLay0, PyData.depth, flatAll_strs, canLayAll_strs h, depthAll_strs]
theorem okTS {xs : List Str} (h : ∀ x ∈ xs, PyData.strOk x = true) : okD (.tuple (xs.map .str)) = true := by
  simp [okD, flat, SeqAt.shaped, PyData.canLay0, PyData.depth, flatAll_strs, canLayAll_strs h, depthAll_strs]
theorem eqvLS (xs ys : List Str) : PyData.eqv (.list (xs.map .str)) (.list (ys.map .str)) = decide (xs = ys) := by
  simp only [PyData.eqv]
  exact PySem.W.eqvAll_map (α := Str) xs ys
theorem eqvTS (xs ys : List Str) : PyData.eqv (.tuple (xs.map .str)) (.tuple (ys.map .str)) = decide (xs = ys) := by
  simp only [PyData.eqv]
  exact PySem.W.eqvAll_map (α := Str) xs ys
def rEqU (K : PySem.W.Frag) : R2 := fun x y H Q => rEq x y H Q ∨ rEqD K x y H Q
def rNeU (K : PySem.W.Frag) : R2 := fun x y H Q => rNe x y H Q ∨ rNeD K x y H Q
section
variable {X : Cx}
theorem op_eqU (hu : X.A.units + 64 < cLine) : OpR X (compareOp .Eq) (rEqU X.K) := fun pins s σ H x y v u Q I rx ry h => h.elim (op_eq pins s σ H x y v u Q I rx ry) (op_eqD hu pins s σ H x y v u Q I rx ry)
theorem op_neU (hu : X.A.units + 64 < cLine) : OpR X (compareOp .NotEq) (rNeU X.K) := fun pins s σ H x y v u Q I rx ry h => h.elim (op_ne pins s σ H x y v u Q I rx ry) (op_neD hu pins s σ H x y v u Q I rx ry)
end
section
variable {W : Wd} {K : PySem.W.Frag}
/-- == and != of any two: scalars, or data -/
theorem r2_eqU {d e : PyData} (h1 : okD d = true) (h2 : okD e = true) : R2D W K (rEqU K) d e (.bool (PyData.eqv d e)) := fun b H x y i rx ry Q g => .inr (r2_eq h1 h2 b H x y i rx ry Q g)
theorem r2_neU {d e : PyData} (h1 : okD d = true) (h2 : okD e = true) : R2D W K (rNeU K) d e (.bool (!PyData.eqv d e)) := fun b H x y i rx ry Q g => .inr (r2_ne h1 h2 b H x y i rx ry Q g)
theorem r2_eqI {i j : Int} : R2D W K (rEqU K) (.int i) (.int j) (.bool (decide (i = j))) := fun b H x y n rx ry Q g => .inl (by
  rw [rp_int rx, rp_int ry]
  refine ⟨rfl, ?_⟩
  rw [show decide (V.int i = V.int j) = decide (i = j) from decide_eq_decide.mpr (by simp)]
  exact g _ H n (W.refl H) (.bl _))
theorem r2_neI {i j : Int} : R2D W K (rNeU K) (.int i) (.int j) (.bool (!decide (i = j))) := fun b H x y n rx ry Q g => .inl (by
  rw [rp_int rx, rp_int ry]
  refine ⟨rfl, ?_⟩
  rw [show decide (V.int i = V.int j) = decide (i = j) from decide_eq_decide.mpr (by simp)]
  exact g _ H n (W.refl H) (.bl _))
theorem r2_eqS {i j : Str} : R2D W K (rEqU K) (.str i) (.str j) (.bool (decide (i = j))) := fun b H x y n rx ry Q g => .inl (by
  rw [rp_str rx, rp_str ry]
  refine ⟨rfl, ?_⟩
  rw [show decide (V.str i = V.str j) = decide (i = j) from decide_eq_decide.mpr (by simp)]
  exact g _ H n (W.refl H) (.bl _))
theorem r2_neS {i j : Str} : R2D W K (rNeU K) (.str i) (.str j) (.bool (!decide (i = j))) := fun b H x y n rx ry Q g => .inl (by
  rw [rp_str rx, rp_str ry]
  refine ⟨rfl, ?_⟩
  rw [show decide (V.str i = V.str j) = decide (i = j) from decide_eq_decide.mpr (by simp)]
  exact g _ H n (W.refl H) (.bl _))
theorem r2_eqB {i j : Bool} : R2D W K (rEqU K) (.bool i) (.bool j) (.bool (decide (i = j))) := by rw [← eqvB]; exact r2_eqU (okB i) (okB j)
theorem r2_neB {i j : Bool} : R2D W K (rNeU K) (.bool i) (.bool j) (.bool (!decide (i = j))) := by rw [← eqvB]; exact r2_neU (okB i) (okB j)
theorem r2_eqLS {i j : List Str} (hi : ∀ x ∈ i, PyData.strOk x = true) (hj : ∀ x ∈ j, PyData.strOk x = true) : R2D W K (rEqU K) (.list (i.map .str)) (.list (j.map .str)) (.bool (decide (i = j))) := by rw [← eqvLS]; exact r2_eqU (okLS hi) (okLS hj)
theorem r2_neLS {i j : List Str} (hi : ∀ x ∈ i, PyData.strOk x = true) (hj : ∀ x ∈ j, PyData.strOk x = true) : R2D W K (rNeU K) (.list (i.map .str)) (.list (j.map .str)) (.bool (!decide (i = j))) := by rw [← eqvLS]; exact r2_neU (okLS hi) (okLS hj)
theorem r2_neTS {i j : List Str} (hi : ∀ x ∈ i, PyData.strOk x = true) (hj : ∀ x ∈ j, PyData.strOk x = true) : R2D W K (rNeU K) (.tuple (i.map .str)) (.tuple (j.map .str)) (.bool (!decide (i = j))) := by rw [← eqvTS]; exact r2_neU (okTS hi) (okTS hj)
/-- len of tuples, lists; of texts that are small -/
theorem ra_lenT {ds : List PyData} : RaD W K (fun xs H Q => ∃ x n, xs = [x] ∧ LenV K x H n ∧ Q (.int n) H) [.tuple ds] (.int ds.length) := ra_len rfl fun x h => by cases h
theorem ra_lenL {ds : List PyData} : RaD W K (fun xs H Q => ∃ x n, xs = [x] ∧ LenV K x H n ∧ Q (.int n) H) [.list ds] (.int ds.length) := ra_len rfl fun x h => by cases h
theorem ra_lenS {z : Str} (h : z.length ≤ 1000) : RaD W K (fun xs H Q => ∃ x n, xs = [x] ∧ LenV K x H n ∧ Q (.int n) H) [.str z] (.int z.length) := ra_len rfl fun x e => by cases e; omega
end
/-! rules whose fragment is named (within comprehensions) -/
section
variable {X : Cx} {K : PySem.W.Frag}
theorem ixK (h : X.K = K) : IxR X (rIx K) := h ▸ ix_seq
theorem inK (h : X.K = K) : OpR X (compareOp .In) (rIn K false) := h ▸ op_in_seq
theorem notInK (h : X.K = K) : OpR X (compareOp .NotIn) (rIn K true) := h ▸ op_notIn_seq
theorem eqK (hu : X.A.units + 64 < cLine) (h : X.K = K) : OpR X (compareOp .Eq) (rEqU K) := h ▸ op_eqU hu
theorem neK (hu : X.A.units + 64 < cLine) (h : X.K = K) : OpR X (compareOp .NotEq) (rNeU K) := h ▸ op_neU hu
theorem isiK (h : X.K = K) : CallR X (.builtin "isinstance") (rIsi K) := h ▸ call_isi
theorem lenK (h : X.K = K) : CallR X (.builtin "len") (fun xs H Q => ∃ x n, xs = [x] ∧ LenV K x H n ∧ Q (.int n) H) := h ▸ call_len
theorem slTK (h : X.K = K) : SlR X (rSlA K) := h ▸ sl_tupA
end
theorem hu_room {k : Nat} {A : Around} (hr : Room k A) : A.units + 64 < cLine := by have := hr.un; omega
theorem hu_room1 {k : Nat} {A : Around} (hr : Room k A) : A.units + 1 < cLine := by have := hr.un; omega
end Qe
set_option maxRecDepth 100000
set_option maxHeartbeats 4000000
/-! tuple(list), kept as the object it is; dict(such a tuple of pairs). -/
namespace Qe
open PySem PySem.Spec PyProof.Rows L2 Evl Qd
section
variable {X : Cx}
/-- tuple(xs) of a list: the new tuple, known to the object, no dict of its own -/
def rTupF (K : PySem.W.Frag) : List V → Hp → VK → Prop := fun xs H Q => ∃ p ys, xs = [.ref p] ∧ SqL K H p ys ∧ ∀ l o, H l = none → o.dict = none → Q (.ref l) (upd H l (.frz o (.tup ys)))
theorem cr_tupleF : CallR X (.type "tuple") (rTupF X.K) := by
  intro pins s σ H xs us Q I r h
  obtain ⟨p, ys, rfl, hq, q⟩ := h
  obtain ⟨u, rfl, rx⟩ := vals1 r
  cases rx
  obtain ⟨its, r', pl, hz⟩ := I.list hq
  have hlen := r'.length
  refine call_tuple_list pl.isList (fun h' kp => ?_) (by simp only [List.size_toArray] <;> omega)
  have I1 : Inv X pins σ H { s with heap := h' } := I.kept (t' := s.toks) kp
  have I2 : Inv X pins σ (upd H h'.objs.size (.frz { cls := .type "tuple", data := .seq its.toArray } (.tup ys))) { s with heap := h'.push { cls := .type "tuple", data := .seq its.toArray } } :=
    I1.laid (t' := s.toks) (fun b o e => Heap.get?_push_of_some _ e) (Nat.le_refl _) (show ObjOk X.prog X.w _ _ _ (.frz _ (.tup ys)) from ⟨Heap.get?_push_size _ rfl, hz, its, r', IsTup.new _ _⟩)
  exact ⟨.ref h'.objs.size, _, I2, rfl, q _ _ (I1.hok.fresh (Nat.le_refl _)) rfl⟩
theorem pairs_of2 {pins : List (Addr × Obj)} {σ : L2.St} {H : Hp} {s : Shared} (I : Inv X pins σ H s) : ∀ {ps : List Addr} {kvs : List (Key × V)}, Paired (fun p kv => SqT X.K H p [kV kv.1, kv.2]) ps kvs →
    ∃ (prs : List (Key × Value)) (us : List Value), KV kvs prs ∧ prs.length = ps.length ∧ us.length = ps.length ∧ ∀ (j : Nat) (q : Key × Value) u, prs[j]? = some q → us[j]? = some u → ∃ b : Addr, ps[j]? = some b ∧ IsTup s.heap b #[u, q.2] ∧ keyIs q.1 u = true
  | _, _, .nil => ⟨[], [], .nil, rfl, rfl, fun j q u e => by simp at e⟩
  | _, _, .cons (a := p) (b := kv) h t => by
    obtain ⟨prs, us, r, hl, hl2, hp⟩ := pairs_of2 I t
    obtain ⟨its, rv, ht, _⟩ := I.tuple h
    obtain ⟨u, y, ei, ru, ry⟩ := vals2 rv
    subst ei
    refine ⟨(kv.1, y) :: prs, u :: us, .cons ⟨rfl, ry⟩ r, by rw [List.length_cons, List.length_cons, hl], by rw [List.length_cons, List.length_cons, hl2], fun j q u' e e2 => ?_⟩
    cases j with
    | zero =>
      have e' : (kv.1, y) = q := Option.some.inj e
      have e2' : u = u' := Option.some.inj e2
      subst e'
      subst e2'
      exact ⟨p, rfl, ht, kV_is (P := X.prog) (w := X.w) ru⟩
    | succ j =>
      obtain ⟨b, e1, e2, e3⟩ := hp j q u' (by simpa using e) (by simpa using e2)
      exact ⟨b, by simpa using e1, e2, e3⟩
def rDictT (K : PySem.W.Frag) : List V → Hp → VK → Prop := fun xs H Q => ∃ (a : Addr) (o : Obj) (ps : List Addr) (kvs : List (Key × V)), xs = [.ref a] ∧ H a = some (.frz o (.tup (ps.map V.ref))) ∧ o.dict = none ∧ Paired (fun p kv => SqT K H p [kV kv.1, kv.2]) ps kvs ∧
  ∀ p, H p = none → Q (.ref p) (upd H p (.dK (mergeK [] kvs)))
theorem cr_dictT (hcalm : X.calm = true) : CallR X (.type "dict") (rDictT X.K) := by
  intro pins s σ H xs us Q I r q
  obtain ⟨a, o, ps, kvs, ex, ha, hod, hp, q⟩ := q
  subst ex
  obtain ⟨u, eu, rx⟩ := vals1 r
  subst eu
  cases rx
  obtain ⟨hget, hz, its, rv, ht⟩ : s.heap.get? a = some o ∧ (ps.map V.ref).length ≤ sizeLine ∧ ∃ its : List Value, Vals (ps.map V.ref) its ∧ IsTup s.heap a its.toArray := I.hok a _ ha
  have ei := refs_at rv
  subst ei
  obtain ⟨o2, ho2, hc2, n2, hd2⟩ := ht
  rw [hget] at ho2
  cases ho2
  rw [List.length_map] at hz
  obtain ⟨prs, us, rel, hl, hl2, hpr⟩ := pairs_of2 I hp
  have zl : (us.zip (prs.map (·.2))).length = ps.length := by rw [List.length_zip, List.length_map, hl, hl2, Nat.min_self]
  have key : ∀ j k v, (us.zip (prs.map (·.2)))[j]? = some (k, v) → ∃ q : Key × Value, prs[j]? = some q ∧ q.2 = v ∧ us[j]? = some k := fun j k v e => by
    obtain ⟨e1, e2⟩ := List.getElem?_zip_eq_some.mp e
    rw [List.getElem?_map] at e2
    cases q : prs[j]? with
    | none => rw [q] at e2; cases e2
    | some z => rw [q] at e2; cases e2; exact ⟨z, q, rfl, e1⟩
  refine PySem.call_dict_pairs (knd := mixKind X.prog X.w) (kvs := prs) (PairArg.tuple (prog := X.prog) (w := X.w) a (ps.map Value.ref).toArray (fun j => ps.getD j 0) (us.zip (prs.map (·.2)))) (I.ok.hd hcalm)
    ⟨⟨o, n2, hget, hc2, hod, hd2⟩, by rw [zl]; simp, fun j k v e => ?_⟩ ⟨by rw [zl, hl], fun j k v e => ?_⟩ (by rw [zl]; exact hz) fun h' tk hd' hk => ?_
  · obtain ⟨q', e1, rfl, e3⟩ := key j k v e
    obtain ⟨b, e4, e5, e6⟩ := hpr j q' k e1 e3
    refine ⟨by simp [e4], .inl ?_⟩
    have e7 : ps.getD j 0 = b := by rw [List.getD_eq_getElem?_getD, e4]; rfl
    show s.heap.IsTuple (ps.getD j 0) #[k, q'.snd]
    rw [e7]
    exact e5
  · obtain ⟨q', e1, rfl, e3⟩ := key j k v e
    obtain ⟨b, e4, e5, e6⟩ := hpr j q' k e1 e3
    exact ⟨q'.1, e1, e6⟩
  · have hm : (s.heap.objs.size == sysModules) = false := beq_eq_false_iff_ne.mpr (Nat.ne_of_gt I.big)
    have hlen : (mergeK [] kvs).length ≤ sizeLine := by
      refine Nat.le_trans (length_mergeK kvs []) ?_
      rw [List.length_nil, Nat.zero_add, rel.length, hl]
      exact hz
    exact ⟨.ref s.heap.objs.size, upd H s.heap.objs.size (.dK (mergeK [] kvs)), I.laid (t' := tk) (fun b o e => hk b o (by simp) e) (Nat.le_refl _) (show ObjOk X.prog X.w _ _ _ (.dK (mergeK [] kvs)) from ⟨hlen, hm, merged [] prs, KV.merge rel .nil, hd'⟩), rfl, q _ (I.hok.fresh (Nat.le_refl _))⟩
end
end Qe
set_option maxRecDepth 100000
set_option maxHeartbeats 4000000
/-! Sorted sets of texts. -/
namespace Qe
open PySem PySem.Spec PyProof.Rows L2 Evl Qd Qs
def lt (a b : Str) : Prop := a.cps.toList < b.cps.toList
instance : DecidableRel lt := fun a b => by unfold lt; infer_instance
theorem lt_irr (a : Str) : ¬ lt a a := List.lt_irrefl _
theorem lt_tr {a b c : Str} (h1 : lt a b) (h2 : lt b c) : lt a c := List.lt_trans h1 h2
theorem lt_as {a b : Str} (h1 : lt a b) : ¬ lt b a := fun h2 => lt_irr a (lt_tr h1 h2)
theorem strict_uniq : ∀ {xs ys : List Str}, xs.Pairwise lt → ys.Pairwise lt → (∀ a, a ∈ xs ↔ a ∈ ys) → xs = ys
  | [], [], _, _, _ => rfl
  | [], y :: ys, _, _, h => by have := (h y).mpr (.head _); simp at this
  | x :: xs, [], _, _, h => by have := (h x).mp (.head _); simp at this
  | x :: xs, y :: ys, h1, h2, h => by
    rw [List.pairwise_cons] at h1 h2
    have exy : x = y := by
      rcases List.mem_cons.mp ((h x).mp (.head _)) with e | m
      · exact e
      · rcases List.mem_cons.mp ((h y).mpr (.head _)) with e | m2
        · exact e.symm
        · exact absurd (h2.1 x m) (lt_as (h1.1 y m2))
    subst exy
    congr 1
    refine strict_uniq h1.2 h2.2 fun a => ⟨fun m => ?_, fun m => ?_⟩
    · rcases List.mem_cons.mp ((h a).mp (.tail _ m)) with e | m2
      · subst e; exact absurd (h1.1 a m) (lt_irr a)
      · exact m2
    · rcases List.mem_cons.mp ((h a).mpr (.tail _ m)) with e | m2
      · subst e; exact absurd (h2.1 a m) (lt_irr a)
      · exact m2
/-- each below the next -/
def adj (xs : List Str) : Bool := (xs.zip (xs.drop 1)).all fun p => decide (lt p.1 p.2)
theorem adj_cons2 {x y : Str} {xs : List Str} : adj (x :: y :: xs) = (decide (lt x y) && adj (y :: xs)) := rfl
theorem adj_pw : ∀ {xs : List Str}, adj xs = true → xs.Pairwise lt
  | [], _ => .nil
  | [x], _ => List.pairwise_singleton _ _
  | x :: y :: xs, h => by
    rw [adj_cons2, Bool.and_eq_true] at h
    have ih := adj_pw h.2
    refine List.pairwise_cons.mpr ⟨fun a ha => ?_, ih⟩
    have hxy := of_decide_eq_true h.1
    rcases List.mem_cons.mp ha with e | m
    · subst e; exact hxy
    · exact lt_tr hxy ((List.pairwise_cons.mp ih).1 a m)
theorem pw_adj : ∀ {xs : List Str}, xs.Pairwise lt → adj xs = true
  | [], _ => rfl
  | [x], _ => rfl
  | x :: y :: xs, h => by
    rw [adj_cons2, Bool.and_eq_true]
    rw [List.pairwise_cons] at h
    exact ⟨decide_eq_true (h.1 y (.head _)), pw_adj h.2⟩
/-- ys is the sorted set of xs -/
def SortOf (xs ys : List Str) : Prop := ys.Pairwise lt ∧ ∀ a, a ∈ ys ↔ a ∈ xs
theorem sort_eq {xs ys : List Str} (h : SortOf xs ys) : decide (xs = ys) = adj xs := by
  cases ha : adj xs with
  | true => exact decide_eq_true (strict_uniq (adj_pw ha) h.1 fun a => (h.2 a).symm)
  | false =>
    refine decide_eq_false fun e => ?_
    subst e
    rw [pw_adj h.1] at ha
    cases ha
theorem nodup_len {α : Type} [DecidableEq α] : ∀ {L ks : List α}, L.Nodup → (∀ x ∈ L, x ∈ ks) → L.length ≤ ks.length
  | [], _, _, _ => Nat.zero_le _
  | x :: L, ks, nd, h => by
    rw [List.nodup_cons] at nd
    have hx := h x (.head _)
    have ih := nodup_len (L := L) (ks := ks.erase x) nd.2 fun a ha => by
      have ne : a ≠ x := fun e => nd.1 (e ▸ ha)
      exact (List.mem_erase_of_ne ne).mpr (h a (.tail _ ha))
    rw [List.length_erase_of_mem hx] at ih
    have : 0 < ks.length := List.length_pos_of_mem hx
    simp only [List.length_cons]
    omega
def keyStr : Key → Str
  | .inr x => x
  | .inl _ => ""
section
variable {W : Wd} {K : PySem.W.Frag} {w : World} {σ : L2.St} {H : Hp} {te : TE} {d : PyData}
theorem sorted_keys {ys L : List Key} {xs : List Str} (nd : L.Nodup) (hm : ∀ j, j ∈ L ↔ j ∈ xs.map Sum.inr) (pm : ys.Perm L) (hs : ys.map kD = srt (L.map kD)) : ys.map kV = (ys.map keyStr).map V.str ∧ SortOf xs (ys.map keyStr) := by
  have allS : ∀ j ∈ ys, ∃ x, j = .inr x ∧ x ∈ xs := fun j hj => by
    obtain ⟨x, hx, e⟩ := List.mem_map.mp ((hm j).mp (pm.mem_iff.mp hj))
    exact ⟨x, e.symm, hx⟩
  refine ⟨?_, ?_, fun a => ⟨fun ha => ?_, fun ha => ?_⟩⟩
  · rw [List.map_map]
    refine List.map_congr_left fun j hj => ?_
    obtain ⟨x, rfl, _⟩ := allS j hj
    rfl
  · have ndy : ys.Nodup := pm.nodup_iff.mpr nd
    have pw : (ys.map kD).Pairwise fun a b => PySem.W.dataLe false (id : PyData → PyData) a b = true := by
      rw [hs]
      have T : PySem.W.TotalLe (PySem.W.dataLe false (id : PyData → PyData)) := PySem.W.sortLe_total _ _ _
      exact List.pairwise_mergeSort (fun a b c h1 h2 => T.trans a b c h1 h2) (fun a b => by rcases T.total a b with h | h <;> simp [h]) _
    rw [List.pairwise_map] at pw ⊢
    have both := pw.and ndy
    refine List.Pairwise.imp_of_mem (R := fun a b => PySem.W.dataLe false id (kD a) (kD b) = true ∧ a ≠ b) (fun {a b} ha hb h => ?_) both
    obtain ⟨x, rfl, _⟩ := allS a ha
    obtain ⟨y, rfl, _⟩ := allS b hb
    obtain ⟨h1, h2⟩ := h
    rw [PySem.W.dataLe_eq] at h1
    have h1 : (!PySem.W.dataLt (.str y) (.str x)) = true := h1
    rw [PySem.W.dataLt_str, Bool.not_eq_true', decide_eq_false_iff_not] at h1
    show lt x y
    have ne : x ≠ y := fun e => h2 (by rw [e])
    have ne2 : x.cps.toList ≠ y.cps.toList := fun e => ne (by
      cases x; cases y
      congr 1
      exact Array.toList_inj.mp e)
    rcases Decidable.em (x.cps.toList < y.cps.toList) with h | h
    · exact h
    · exact absurd (List.le_antisymm (List.not_lt.mp h1) (List.not_lt.mp h)) ne2
  · obtain ⟨j, hj, rfl⟩ := List.mem_map.mp ha
    obtain ⟨x, rfl, hx⟩ := allS j hj
    exact hx
  · exact List.mem_map.mpr ⟨.inr a, pm.mem_iff.mpr ((hm _).mpr (List.mem_map.mpr ⟨a, ha, rfl⟩)), rfl⟩
theorem strs_keys (xs : List Str) : xs.map V.str = (xs.map Sum.inr).map kV := by
  rw [List.map_map]; rfl
/-- set(xs) of texts: what is made -/
theorem set_do {b : Nat} {H1 : Hp} {xs : List Str} (hd : d = .list (xs.map .str) ∨ d = .tuple (xs.map .str)) (hl : xs.length ≤ 1000) (h : EvD W K te σ H d) (i : W.I b H1) (e : Ex (W.m H) (W.m H1)) (Q : VK)
    (k : ∀ p L H3, W.I b H3 → W.R H1 H3 → H3 p = some (SetMO w p L) → L.Nodup → (∀ j, j ∈ L ↔ j ∈ xs.map Sum.inr) → L.length ≤ 1000 → Q (.ref p) H3) : tCB (rSetOf K w) (tCons te tNil) σ H1 Q := by
  refine h b H1 i e _ fun v H2 i2 r2 rp => ?_
  have fin : ∀ p L, H2 p = none → L.Nodup → (∀ j, j ∈ L ↔ j ∈ xs.map Sum.inr) → Q (.ref p) (upd H2 p (SetMO w p L)) := fun p L hp nd hm => by
    obtain ⟨r3, i3⟩ := W.new (H' := upd H2 p (SetMO w p L)) i2 (Ex.new hp)
    have hll : L.length ≤ 1000 := by
      have := nodup_len nd fun j hj => (hm j).mp hj
      rw [List.length_map] at this
      omega
    exact k p L _ i3 (W.trans r2 r3) upd_same nd hm hll
  rcases hd with rfl | rfl
  · obtain ⟨a, vs, rfl, hs, rs⟩ := rp_lst (un rp)
    have ev := rs.strs
    rw [strs_keys] at ev
    subst ev
    exact ⟨a, _, rfl, .inl (sq_of hs), by rw [List.length_map]; exact hl, fun p L hp nd hm => fin p L hp nd hm⟩
  · obtain ⟨a, vs, rfl, hs, rs⟩ := rp_tup (un rp)
    have ev := rs.strs
    rw [strs_keys] at ev
    subst ev
    exact ⟨a, _, rfl, .inr hs, by rw [List.length_map]; exact hl, fun p L hp nd hm => fin p L hp nd hm⟩
/-- sorted(set(xs)) of texts -/
theorem pv_sortedSet {xs : List Str} (hd : d = .list (xs.map .str) ∨ d = .tuple (xs.map .str)) (hl : xs.length ≤ 1000) (h : EvD W K te σ H d) :
    EvP W K 0 (tCB (rSortedM w) (tCons (tCB (rSetOf K w) (tCons te tNil)) tNil)) σ H (fun r => ∃ ys : List Str, r = .list (ys.map .str) ∧ SortOf xs ys) := fun b H1 i e Q g =>
  set_do hd hl h i e _ fun p L H3 i3 r3 hp nd hm hll => ⟨p, L, rfl, hp, hll, fun a ha c hc => by
    obtain ⟨j, hj, rfl⟩ := List.mem_map.mp ha
    obtain ⟨j2, hj2, rfl⟩ := List.mem_map.mp hc
    obtain ⟨x, _, rfl⟩ := List.mem_map.mp ((hm _).mp hj)
    obtain ⟨y, _, rfl⟩ := List.mem_map.mp ((hm _).mp hj2)
    rfl, fun q ys hq pm hs => by
    obtain ⟨e1, e2⟩ := sorted_keys nd hm pm hs
    have i3' : W.I b H3 := i3
    obtain ⟨i5, r5, rp5⟩ := lst_new (K := K) i3' hq (vs := ys.map kV) (ds := (ys.map keyStr).map .str) (by rw [e1]; exact Rps.of_strs _)
    exact g _ _ _ i5 (W.trans r3 r5) rp5 ⟨_, rfl, e2⟩⟩
/-- one answer -/
theorem dv_ofP (h : EvP W K 0 te σ H (fun x => x = d)) : EvD W K te σ H d := fun b H1 i e Q g => h b H1 i e Q fun v H2 x i2 r2 rp hx => by
  subst hx
  exact g v H2 i2 r2 rp
end
end Qe
set_option maxRecDepth 100000
set_option maxHeartbeats 4000000
/-! for loops in slots. -/
namespace Qe
open PySem PySem.Spec PyProof.Rows L2 Evl Qd
section
variable {W : Wd} {K : PySem.W.Frag} {σ : L2.St} {H : Hp} {b c cB N j : Nat} {wi : TI} {l : List (Option PyData)} {p : List PyData → Prop} {D : Ends} {tu tz : TS} {te : TE} {tas : TA}
/-- a loop; hg: what the target does with an item -/
theorem q_forT {g : TG} {upd' : PyData → List (Option PyData) → List (Option PyData)} (S : Slots K (W.m H) σ l) (hi : EiP W K c wi σ H p) (i0 : W.I (b + (c + N * cB)) H) (hn : ∀ es, p es → es.length ≤ N)
    (hg : ∀ es d l' σ' H' x Q, p es → d ∈ es → Slots K (W.m H') σ' l' → Rp K (W.m H') x d → (∀ σ2, Slots K (W.m H') σ2 (upd' d l') → Q σ2 H') → g x σ' H' Q)
    (F : List PyData → Nat → List (Option PyData) → Prop) (h0 : ∀ es, p es → F es 0 l)
    (hs : ∀ es n d l' σ1 H1 bb (NX : L2.St → Hp → Prop), p es → es[n]? = some d → F es n l' → W.I (bb + cB) H1 → W.R H H1 → Slots K (W.m H1) σ1 (upd' d l') →
      (∀ σ2 H2 l2, W.I bb H2 → W.R H1 H2 → F es (n + 1) l2 → Slots K (W.m H2) σ2 l2 → NX σ2 H2) → tu { D with nx := NX, ct := NX, bk := tz D } σ1 H1)
    (hd : ∀ es l' σ1 H1, p es → F es es.length l' → W.I b H1 → W.R H H1 → Slots K (W.m H1) σ1 l' → tz D σ1 H1) : tSeq (tFor wi g tu) tz D σ H := by
  have i1 : W.I (b + N * cB + c) H := by rw [show b + N * cB + c = b + (c + N * cB) by omega]; exact i0
  refine q_forP (b := b + N * cB) (c := c) hi i1 (fun H2 es n σ' H' => n ≤ es.length ∧ W.I (b + (N - n) * cB) H' ∧ W.R H H' ∧ W.R H2 H' ∧ (∃ b0, W.I b0 H2) ∧ ∃ l', F es n l' ∧ Slots K (W.m H') σ' l') ?_ ?_ ?_ ?_
  · intro H2 es hp i2 r2
    exact ⟨Nat.zero_le _, i2, r2, W.refl H2, ⟨_, i2⟩, l, h0 es hp, S.mono (W.up i1 r2)⟩
  · rintro H2 es n σ' H' hp hn' ⟨_, i', r', r2', ⟨b0, ib⟩, _⟩
    exact (W.up ib r2').trans hid_ex
  · rintro H2 es n x d σ' H' H3 hp hd' ⟨hle, i', r', r2', ⟨b0, ib⟩, l', hF, S'⟩ e3 hx
    have hlt := (List.getElem?_eq_some_iff.mp hd').1
    have hN := hn es hp
    obtain ⟨r3, i3⟩ := W.new i' e3
    have rx := hx W.A (fun a ha => W.alive i' ha) (W.up ib r2')
    have S3 := S'.mono (W.up i' r3)
    refine hg es d l' σ' H3 x _ hp (List.mem_of_getElem? hd') S3 rx fun σ2 S2 => ?_
    have em : b + (N - n) * cB = b + (N - (n + 1)) * cB + cB := by
      have : N - n = (N - (n + 1)) + 1 := by omega
      rw [this, Nat.add_mul, Nat.one_mul, ← Nat.add_assoc]
    rw [em] at i3
    exact hs es n d l' σ2 H3 (b + (N - (n + 1)) * cB) _ hp hd' hF i3 (W.trans r' r3) S2 fun σ4 H4 l2 i4 r4 f4 s4 => ⟨by omega, i4, W.trans (W.trans r' r3) r4, W.trans (W.trans r2' r3) r4, ⟨b0, ib⟩, l2, f4, s4⟩
  · rintro H2 es σ' H' hp ⟨_, i', r', _, _, l', hF, S'⟩
    exact hd es l' σ' H' hp hF (W.less i') r' S'
/-- for x in .. -/
theorem q_forN (S : Slots K (W.m H) σ l) (hi : EiP W K c wi σ H p) (i0 : W.I (b + (c + N * cB)) H) (hn : ∀ es, p es → es.length ≤ N)
    (F : List PyData → Nat → List (Option PyData) → Prop) (h0 : ∀ es, p es → F es 0 l)
    (hs : ∀ es n d l' σ1 H1 bb (NX : L2.St → Hp → Prop), p es → es[n]? = some d → F es n l' → W.I (bb + cB) H1 → W.R H H1 → Slots K (W.m H1) σ1 (l'.set j (some d)) →
      (∀ σ2 H2 l2, W.I bb H2 → W.R H1 H2 → F es (n + 1) l2 → Slots K (W.m H2) σ2 l2 → NX σ2 H2) → tu { D with nx := NX, ct := NX, bk := tz D } σ1 H1)
    (hd : ∀ es l' σ1 H1, p es → F es es.length l' → W.I b H1 → W.R H H1 → Slots K (W.m H1) σ1 l' → tz D σ1 H1) : tSeq (tFor wi (gName j) tu) tz D σ H :=
  q_forT (upd' := fun d l' => l'.set j (some d)) S hi i0 hn (fun es d l' σ' H' x Q _ _ S' rx k => k _ (S'.set rx)) F h0 hs hd
/-- for x, y in .., the items pairs -/
theorem q_forPr {j1 j2 : Nat} (S : Slots K (W.m H) σ l) (hi : EiP W K c wi σ H p) (i0 : W.I (b + (c + N * cB)) H) (hn : ∀ es, p es → es.length ≤ N) (hp : ∀ es, p es → ∀ d ∈ es, ∃ a b, d = .tuple [a, b])
    (F : List PyData → Nat → List (Option PyData) → Prop) (h0 : ∀ es, p es → F es 0 l)
    (hs : ∀ es n d1 d2 l' σ1 H1 bb (NX : L2.St → Hp → Prop), p es → es[n]? = some (.tuple [d1, d2]) → F es n l' → W.I (bb + cB) H1 → W.R H H1 → Slots K (W.m H1) σ1 ((l'.set j1 (some d1)).set j2 (some d2)) →
      (∀ σ2 H2 l2, W.I bb H2 → W.R H1 H2 → F es (n + 1) l2 → Slots K (W.m H2) σ2 l2 → NX σ2 H2) → tu { D with nx := NX, ct := NX, bk := tz D } σ1 H1)
    (hd : ∀ es l' σ1 H1, p es → F es es.length l' → W.I b H1 → W.R H H1 → Slots K (W.m H1) σ1 l' → tz D σ1 H1) : tSeq (tFor wi (gTup K 2 (gCons (gName j1) (gCons (gName j2) gNil))) tu) tz D σ H :=
  q_forT (upd' := fun d l' => match d with | .tuple [a, b] => (l'.set j1 (some a)).set j2 (some b) | _ => l') S hi i0 hn (fun es d l' σ' H' x Q he hm S' rx k => by
    obtain ⟨a, b', rfl⟩ := hp es he d hm
    obtain ⟨ad, xs, rfl, hq, rs⟩ := rp_tup rx
    cases rs with
    | cons r1 t => cases t with
      | cons r2 t2 =>
        cases t2
        exact ⟨ad, _, rfl, ex_t hid_ex hq, rfl, ⟨_, _, rfl, _, _, rfl, rfl, k _ ((S'.set r1).set r2)⟩⟩) F h0
    (fun es n d l' σ1 H1 bb NX he hd' hF i1 r1 S1 nx => by
      obtain ⟨a, b', rfl⟩ := hp es he d (List.mem_of_getElem? hd')
      exact hs es n a b' l' σ1 H1 bb NX he hd' hF i1 r1 S1 nx) hd
/-- a, b = x, y -/
theorem qs_par {i j : Nat} {d e : PyData} (S : Slots K (W.m H) σ l) (i0 : W.I b H) (h : EaD W K tas σ H [d, e]) (k : ∀ σ1 H1, W.I b H1 → W.R H H1 → Slots K (W.m H1) σ1 ((l.set i (some d)).set j (some e)) → tz D σ1 H1) : tSeq (tPar i j tas) tz D σ H :=
  h b H i0 (Ex.refl _) _ fun vs H1 i1 r1 rs => by
    cases rs with
    | cons ra t => cases t with
      | cons rb t2 =>
        cases t2
        exact ⟨_, _, rfl, k _ H1 i1 r1 (((S.step i0 r1).set ra).set rb)⟩
end
end Qe
set_option maxRecDepth 100000
set_option maxHeartbeats 4000000
/-! Rules that were lacking: ** of great bases, text * int. -/
namespace Qe
open PySem PySem.Spec PyProof.Rows L2 Evl Qd
def CPowW (i j : Int) : Prop := 0 ≤ j ∧ (Builtin.Int.intBits i : Int) * j ≤ 2 ^ 27
section
variable {X : Cx}
theorem op_powW : OpR X (binaryOp .Pow) (rI CPowW fun i j => .int (i ^ j.toNat)) := opI fun _ _ _ _ _ _ _ hc q => pow_int hc.1 hc.2 q
/-- text * int, 0 ≤ int, small -/
def repS (z : Str) (n : Nat) : Str := ⟨(List.replicate n z.cps.toList).flatten.toArray⟩
def rMulS : R2 := fun x y H Q => ∃ z n, x = .str z ∧ y = .int n ∧ 0 ≤ n ∧ n ≤ 1000 ∧ z.length ≤ 1000 ∧ Q (.str (repS z n.toNat)) H
theorem rep_foldl (z : Array Nat) : ∀ (n : Nat) (acc : Array Nat), (List.replicate n z).foldl (· ++ ·) acc = acc ++ (List.replicate n z.toList).flatten.toArray
  | 0, acc => by simp
  | n + 1, acc => by
    rw [List.replicate_succ, List.foldl_cons, rep_foldl z n, List.replicate_succ, List.flatten_cons]
    apply Array.toList_inj.mp
    simp
theorem op_mulS : OpR X (binaryOp .Mult) rMulS := by
  intro pins s σ H x y v u Q I rx ry h
  obtain ⟨z, n, rfl, rfl, h0, h1, hz, q⟩ := h
  obtain ⟨t, rfl⟩ := rx
  obtain ⟨t', rfl⟩ := ry
  have big : (1000 : Int) ≤ (2 ^ 63 - 1) / 1000 := by decide
  refine PySem.P.mul_str (by rw [decide_eq_false (by omega), decide_eq_false (by omega)]; rfl) (fun h2 _ hgt => ?_) (fun h2 _ => ?_) ?_
  · have : (2 ^ 63 - 1) / n ≥ (2 ^ 63 - 1) / 1000 := by
      apply Int.le_ediv_of_mul_le (by omega)
      have a1 : (2 ^ 63 - 1) / 1000 * n ≤ (2 ^ 63 - 1) / 1000 * 1000 := Int.mul_le_mul_of_nonneg_left h1 (by decide)
      have a2 : ((2 ^ 63 - 1) / 1000 * 1000 : Int) ≤ 2 ^ 63 - 1 := by decide
      omega
    omega
  · have a1 : z.length * n.toNat ≤ 1000 * 1000 := Nat.mul_le_mul hz (by omega)
    unfold Builtin.Str.tooLong
    rw [sizeLine_eq]
    exact decide_eq_false (by omega)
  · by_cases hn : n < 1
    · have e : n = 0 := by omega
      subst e
      rw [if_pos (by omega)]
      exact ⟨by decide, .str (repS z (0 : Int).toNat), H, I.tok _, ⟨_, rfl⟩, q⟩
    · rw [if_neg hn]
      by_cases h2 : (n == 1 || z.length == 0) = true
      · rw [if_pos h2]
        have e : repS z n.toNat = z := by
          rw [Bool.or_eq_true] at h2
          rcases h2 with h2 | h2
          · have e1 : n = 1 := eq_of_beq h2
            subst e1
            unfold repS
            simp
          · have e1 : z.cps.size = 0 := eq_of_beq h2
            have e2 : z.cps = #[] := Array.eq_empty_of_size_eq_zero e1
            unfold repS
            rw [e2]
            simp
            cases z
            congr 1
            exact e2.symm
        rw [e] at q
        exact ⟨.str z, H, I, ⟨_, rfl⟩, q⟩
      · rw [if_neg h2]
        have e : (⟨(List.replicate n.toNat z.cps).foldl (· ++ ·) #[]⟩ : Str) = repS z n.toNat := by rw [rep_foldl]; unfold repS; simp
        rw [e]
        refine ⟨?_, .str (repS z n.toNat), H, I.tok _, ⟨_, rfl⟩, q⟩
        have a1 : n.toNat * z.cps.size ≤ 1000 * 1000 := Nat.mul_le_mul (by omega) hz
        show (repS z n.toNat).cps.size ≤ sizeLine
        unfold repS
        rw [List.size_toArray, PyProof.Rows.lm_len_rep_flat, Array.length_toList, sizeLine_eq]
        omega
/-- list(text): its signs -/
def rListS : List V → Hp → VK → Prop := fun xs H Q => ∃ z, xs = [.str z] ∧ z.length ≤ 1000 ∧ ∀ p, H p = none → Q (.ref p) (upd H p (.lst (z.cps.toList.map fun c => V.str ⟨#[c]⟩)))
theorem cr_listS (hc : X.calm = true) : CallR X (.type "list") rListS := by
  intro pins s σ H xs us Q I r h
  obtain ⟨z, e, hz, q⟩ := h
  subst e
  obtain ⟨u, eu, rx⟩ := vals1 r
  subst eu
  obtain ⟨t, rfl⟩ := rx
  have hz2 : z.cps.size ≤ sizeLine := Nat.le_trans hz (by decide)
  refine PySem.call_list_str (I.ok.hd hc) z t (fun h' tk acc' c' hkeep hS hacc => ?_) hz2
  refine ⟨.ref s.heap.objs.size, upd H s.heap.objs.size (.lst (z.cps.toList.map fun c => V.str ⟨#[c]⟩)), I.laid hkeep (Nat.le_refl _) (show ObjOk X.prog X.w _ _ _ (.lst (z.cps.toList.map fun c => V.str ⟨#[c]⟩)) from ⟨?_, acc'.toList, c', ?_, ?_⟩), rfl, q _ (I.hok.fresh (Nat.le_refl _))⟩
  · rw [List.length_map, Array.length_toList]; exact hz2
  · have el : acc'.toList.length = acc'.size := by simp
    refine vals_of_at (by rw [List.length_map, el, hacc.1, Array.length_toList]) fun j x w h1 h2 => ?_
    have hs := hacc.2 j w (by rw [← Array.getElem?_toList]; exact h2)
    obtain ⟨c, u, hc1, rfl⟩ := hs
    rw [List.getElem?_map, Array.getElem?_toList, hc1] at h1
    cases h1
    exact ⟨u, rfl⟩
  · rw [Array.toArray_toList]; exact hS
end
end Qe
set_option maxRecDepth 100000
set_option maxHeartbeats 4000000
/-! The draws as numbers: from any state a word that begins with a given letter is drawn. -/
namespace Qn
def invs1 : List Int := [1205582182, 779941293, 591703458, 1502032532, 288865675, 880587422, 1352831449, 962017802, 1432699554, 927904781, 128666634, 2063716673, 1877152965, 632197543, 867546538, 638220818, 679381320, 1781127643, 605640528, 2005910369, 1586226135, 2078812342, 1214818027, 1273300047, 947589524, 763901756, 1109188843, 504948053, 1049393938, 1064720707, 802780748, 937220269, 134488313, 938179489, 1650834894, 220938279, 1030310235, 1626523555, 504514476, 361031968, 1145181942, 1867883861, 926760588, 1291869796, 1002280941, 789255486, 1780437747, 710068898, 1553164491, 137339503, 1506768713, 1180438773, 444518459, 1542741782, 1216358227, 1004919072, 66226505, 1331952165, 1913162870, 227089903, 476209765, 132778796, 1776867450, 1632882210]
def invs2 : List Int := [275025249, 1140029759, 709356420, 1725644089, 42849082, 1137780967, 545856801, 556070778, 1665992313, 2005717227, 357387723, 542361775, 1455788297, 1946898299, 1957794201, 221409741, 1935166767, 1315911684, 1184215216, 1582920764, 1892912217, 537463907, 581587346, 237745208, 1111030566, 1662203127, 38578365, 866765837, 333295158, 1366951581, 1545534075, 820580757, 1111396485, 1390543369, 1204509690, 791796526, 361742855, 590040259, 897645098, 357370255, 2037655455, 21233134, 1224694070, 1067888065, 1497828202, 1805991292, 30414441, 1146293843, 1919963558, 1784081882, 1059171993, 602173631, 1478438251, 1788902492, 1619219956, 103174550, 1556244951, 1603773266, 724851864, 284764003, 374027230, 1091836693, 551701441, 430413945]
def invs3 : List Int := [1419347343, 347557379, 1590066861, 847256278, 1462761509, 1774704950, 487534935, 1971304333, 408940469, 1302925771, 1870179674, 1631053694, 55381432, 2049974403, 667679734, 9873746, 1055874355, 781851530, 474388795, 1520512293, 652726122, 1635078249, 1404607963, 860444482, 1590609095, 1887491724, 2090243197, 112718994, 1304194969, 1093210966, 99323286, 782266491, 1448097156, 1990463639, 1070898647, 211107409, 1224110375, 418275916, 2133384192, 1100529630, 996446619, 2067029230, 1546842161, 1271545874, 297140261, 899193807, 279846889, 1493099733, 1387551531, 885615159, 814974700, 1457353183, 1443336335, 1761273202, 2088426005, 1590067037, 1935868037, 1297077803, 188786117, 25712268, 1481326497, 1260127301, 1238946965, 1915669160]
def tgt : List Int := [0, 9433443264004454036610744, 18866886528008908073221488, 28300329792013362109832232, 37733773056017816146442977, 47167216320022270183053721, 56600659584026724219664465, 66034102848031178256275210, 75467546112035632292885954]
def us1 : List Int := [0, 1250913670, 952367335, 470573317, 1236049407, 751529387, 1768010943, 442030105, 1943851108]
def us2 : List Int := [0, 551032143, 458324651, 1159615656, 955834410, 185202117, 1812740653, 945060200, 906482288]
def us3 : List Int := [0, 434731467, 1138727727, 936179083, 157096495, 1989918685, 1255087669, 351870122, 480293331]
def e1 : Int := 235208588510193165138497345
def e2 : Int := 1293459670181656490358913329
def e3 : Int := 8374851257769530234286113860
def big : Int := 9903519516461379889783524533
def p1 : Int := 2147483579
def p2 : Int := 2147483629
def p3 : Int := 2147483563
/-- the sum of one prime -/
def blendP (cells : List Int) (turn p : Int) : Int := cells.foldl (fun b c => (b * 69621 + c + turn) % p) (48271 * turn + p / 53)
def mixP (cells : List Int) (turn : Int) (found p : Int) : Int := found * 2147483647 + (blendP cells turn p) ^ 5 % p
def blended (cells : List Int) (turn : Int) : Int := mixP cells turn (mixP cells turn (mixP cells turn 0 p1) p2) p3
def coef : Nat → Int
  | 0 => 48271
  | n + 1 => 69621 * coef n + 1
theorem coef_inv : ∀ n, n < 64 → coef n * invs1.getD n 0 % p1 = 1 ∧ coef n * invs2.getD n 0 % p2 = 1 ∧ coef n * invs3.getD n 0 % p3 = 1 := by decide +kernel
theorem dvd_mod {p a b : Int} (h : p ∣ a - b) : a % p = b % p := Int.emod_eq_emod_iff_emod_sub_eq_zero.mpr (Int.emod_eq_zero_of_dvd h)
/-- it is linear in the turn -/
theorem blend_lin (p : Int) : ∀ cells : List Int, ∃ B : Int, ∀ turn, blendP cells turn p % p = (coef cells.length * turn + B) % p := by
  intro cells
  rw [← List.reverse_reverse cells]
  induction cells.reverse with
  | nil => exact ⟨p / 53, fun turn => rfl⟩
  | cons c l ih =>
    rw [List.reverse_cons]
    obtain ⟨B, ih⟩ := ih
    generalize l.reverse = cs at ih ⊢
    refine ⟨69621 * B + c, fun turn => ?_⟩
    have h1 : blendP (cs ++ [c]) turn p = (blendP cs turn p * 69621 + c + turn) % p := by simp [blendP, List.foldl_append]
    rw [h1, Int.emod_emod_of_dvd _ (Int.dvd_refl p), List.length_append]
    show _ = ((69621 * coef cs.length + 1) * turn + (69621 * B + c)) % p
    have h2 : (blendP cs turn p * 69621) % p = ((coef cs.length * turn + B) * 69621) % p := by rw [Int.mul_emod, ih turn, ← Int.mul_emod]
    have h3 : (69621 * coef cs.length + 1) * turn + (69621 * B + c) = (coef cs.length * turn + B) * 69621 + (c + turn) := by
      rw [Int.add_mul, Int.add_mul, Int.mul_assoc, Int.mul_comm 69621 B, Int.mul_comm 69621 (coef cs.length * turn), Int.one_mul]
      omega
    rw [h3, Int.add_assoc, Int.add_emod, h2, ← Int.add_emod]
theorem pow5 {p x y : Int} (h : x % p = y % p) : x ^ 5 % p = y ^ 5 % p := by
  have m : ∀ {a b c d : Int}, a % p = b % p → c % p = d % p → a * c % p = b * d % p := fun {a b c d} h1 h2 => by rw [Int.mul_emod, h1, h2, ← Int.mul_emod]
  have e : ∀ z : Int, z ^ 5 = z * z * z * z * z := fun z => by
    rw [show (5 : Nat) = 4 + 1 from rfl, Int.pow_succ, Int.pow_succ, Int.pow_succ, Int.pow_succ, Int.pow_succ, Int.pow_zero, Int.one_mul]
  rw [e, e]
  exact m (m (m (m h h) h) h) h
theorem tgt_ok : ∀ c, c < 9 → 1 ≤ c → (us1.getD c 0 ^ 5 % p1 * 2147483647 + us2.getD c 0 ^ 5 % p2) * 2147483647 + us3.getD c 0 ^ 5 % p3 = tgt.getD c 0 := by decide +kernel
/-- the turn at which the sums are as wanted -/
theorem crt (t0 r1 r2 r3 : Int) : ∃ t, t0 < t ∧ t ≤ t0 + big ∧ t % p1 = r1 % p1 ∧ t % p2 = r2 % p2 ∧ t % p3 = r3 % p3 := by
  let X := e1 * (r1 - t0 - 1) + e2 * (r2 - t0 - 1) + e3 * (r3 - t0 - 1)
  have hb : (0 : Int) < big := by decide
  refine ⟨t0 + 1 + X % big, ?_, ?_, ?_, ?_, ?_⟩
  · have := Int.emod_nonneg X (Int.ne_of_gt hb); omega
  · have := Int.emod_lt_of_pos X hb; omega
  all_goals
    refine dvd_mod ?_
  · have h : p1 ∣ X % big - X := ⟨-(p2 * p3 * (X / big)), by
      have h1 := Int.emod_add_mul_ediv X big
      have h2 : big = p1 * (p2 * p3) := by decide
      have h3 : p1 * -(p2 * p3 * (X / big)) = -(big * (X / big)) := by rw [h2, Int.mul_neg, ← Int.mul_assoc]
      rw [h3]
      omega⟩
    have h4 : p1 ∣ X - (r1 - t0 - 1) := ⟨(e1 / p1) * (r1 - t0 - 1) + (e2 / p1) * (r2 - t0 - 1) + (e3 / p1) * (r3 - t0 - 1), by
      have a1 : e1 = p1 * (e1 / p1) + 1 := by decide
      have a2 : e2 = p1 * (e2 / p1) := by decide
      have a3 : e3 = p1 * (e3 / p1) := by decide
      show e1 * (r1 - t0 - 1) + e2 * (r2 - t0 - 1) + e3 * (r3 - t0 - 1) - (r1 - t0 - 1) = _
      rw [Int.mul_add, Int.mul_add, ← Int.mul_assoc, ← Int.mul_assoc, ← Int.mul_assoc, ← a2, ← a3]
      have a4 : p1 * (e1 / p1) = e1 - 1 := by omega
      rw [a4, Int.sub_mul, Int.one_mul]
      omega⟩
    have := Int.dvd_add h h4
    have e : t0 + 1 + X % big - r1 = X % big - X + (X - (r1 - t0 - 1)) := by omega
    rw [e]; exact this
  · have h : p2 ∣ X % big - X := ⟨-(p1 * p3 * (X / big)), by
      have h1 := Int.emod_add_mul_ediv X big
      have h2 : big = p2 * (p1 * p3) := by decide
      have h3 : p2 * -(p1 * p3 * (X / big)) = -(big * (X / big)) := by rw [h2, Int.mul_neg, ← Int.mul_assoc]
      rw [h3]
      omega⟩
    have h4 : p2 ∣ X - (r2 - t0 - 1) := ⟨(e1 / p2) * (r1 - t0 - 1) + (e2 / p2) * (r2 - t0 - 1) + (e3 / p2) * (r3 - t0 - 1), by
      have a1 : e2 = p2 * (e2 / p2) + 1 := by decide
      have a2 : e1 = p2 * (e1 / p2) := by decide
      have a3 : e3 = p2 * (e3 / p2) := by decide
      show e1 * (r1 - t0 - 1) + e2 * (r2 - t0 - 1) + e3 * (r3 - t0 - 1) - (r2 - t0 - 1) = _
      rw [Int.mul_add, Int.mul_add, ← Int.mul_assoc, ← Int.mul_assoc, ← Int.mul_assoc, ← a2, ← a3]
      have a4 : p2 * (e2 / p2) = e2 - 1 := by omega
      rw [a4, Int.sub_mul, Int.one_mul]
      omega⟩
    have := Int.dvd_add h h4
    have e : t0 + 1 + X % big - r2 = X % big - X + (X - (r2 - t0 - 1)) := by omega
    rw [e]; exact this
  · have h : p3 ∣ X % big - X := ⟨-(p1 * p2 * (X / big)), by
      have h1 := Int.emod_add_mul_ediv X big
      have h2 : big = p3 * (p1 * p2) := by decide
      have h3 : p3 * -(p1 * p2 * (X / big)) = -(big * (X / big)) := by rw [h2, Int.mul_neg, ← Int.mul_assoc]
      rw [h3]
      omega⟩
    have h4 : p3 ∣ X - (r3 - t0 - 1) := ⟨(e1 / p3) * (r1 - t0 - 1) + (e2 / p3) * (r2 - t0 - 1) + (e3 / p3) * (r3 - t0 - 1), by
      have a1 : e3 = p3 * (e3 / p3) + 1 := by decide
      have a2 : e1 = p3 * (e1 / p3) := by decide
      have a3 : e2 = p3 * (e2 / p3) := by decide
      show e1 * (r1 - t0 - 1) + e2 * (r2 - t0 - 1) + e3 * (r3 - t0 - 1) - (r3 - t0 - 1) = _
      rw [Int.mul_add, Int.mul_add, ← Int.mul_assoc, ← Int.mul_assoc, ← Int.mul_assoc, ← a2, ← a3]
      have a4 : p3 * (e3 / p3) = e3 - 1 := by omega
      rw [a4, Int.sub_mul, Int.one_mul]
      omega⟩
    have := Int.dvd_add h h4
    have e : t0 + 1 + X % big - r3 = X % big - X + (X - (r3 - t0 - 1)) := by omega
    rw [e]; exact this
/-- from any turn on, one comes at which the sum is the wanted one -/
theorem solve {p a i u B t : Int} (hai : a * i % p = 1 % p) (ht : t % p = (i * (u - B)) % p) : (a * t + B) % p = u % p := by
  have h1 : a * t % p = a * (i * (u - B)) % p := by rw [Int.mul_emod, ht, ← Int.mul_emod]
  have h2 : a * (i * (u - B)) % p = (u - B) % p := by rw [← Int.mul_assoc, Int.mul_emod, hai, ← Int.mul_emod, Int.one_mul]
  rw [Int.add_emod, h1, h2, ← Int.add_emod]
  congr 1
  omega
theorem reach (cells : List Int) (hc : cells.length < 64) (c : Nat) (h1 : 1 ≤ c) (h9 : c < 9) (t0 : Int) : ∃ t, t0 < t ∧ t ≤ t0 + big ∧ blended cells t = tgt.getD c 0 := by
  obtain ⟨B1, L1⟩ := blend_lin p1 cells
  obtain ⟨B2, L2⟩ := blend_lin p2 cells
  obtain ⟨B3, L3⟩ := blend_lin p3 cells
  obtain ⟨i1, i2, i3⟩ := coef_inv cells.length hc
  obtain ⟨t, g1, g2, m1, m2, m3⟩ := crt t0 (invs1.getD cells.length 0 * (us1.getD c 0 - B1)) (invs2.getD cells.length 0 * (us2.getD c 0 - B2)) (invs3.getD cells.length 0 * (us3.getD c 0 - B3))
  refine ⟨t, g1, g2, ?_⟩
  have v1 : blendP cells t p1 ^ 5 % p1 = us1.getD c 0 ^ 5 % p1 := pow5 ((L1 t).trans (solve (i1.trans (by decide)) m1))
  have v2 : blendP cells t p2 ^ 5 % p2 = us2.getD c 0 ^ 5 % p2 := pow5 ((L2 t).trans (solve (i2.trans (by decide)) m2))
  have v3 : blendP cells t p3 ^ 5 % p3 = us3.getD c 0 ^ 5 % p3 := pow5 ((L3 t).trans (solve (i3.trans (by decide)) m3))
  unfold blended mixP
  rw [v1, v2, v3, Int.zero_mul, Int.zero_add]
  exact tgt_ok c h9 h1
end Qn
set_option maxRecDepth 100000
set_option maxHeartbeats 4000000
/-! The state of the draws; that the words wanted are drawn at last. -/
namespace Qn
open PySem
structure Dst where
  gs : List Int
  rest : Int
  turn : Int
def Dst.ok (S : Dst) : Prop := (∀ g ∈ S.gs, 0 ≤ g) ∧ 0 ≤ S.rest ∧ 0 ≤ S.turn
def refill (cells : List Int) (S : Dst) : Dst := if S.rest = 0 then (match S.gs with | g :: gs => ⟨gs, g, S.turn⟩ | [] => ⟨[], blended cells (S.turn + 1), S.turn + 1⟩) else S
def drawn (cells : List Int) (room : Int) (S : Dst) : Int × Dst := ((refill cells S).rest % room, ⟨(refill cells S).gs, (refill cells S).rest / room, (refill cells S).turn⟩)
theorem mix_le {cells : List Int} {turn f p B : Int} (hp : 0 < p) (hp2 : p ≤ 2147483647) (h0 : 0 ≤ f) (hB : f < B) : 0 ≤ mixP cells turn f p ∧ mixP cells turn f p < B * 2147483647 := by
  unfold mixP
  have h1 := Int.emod_nonneg (blendP cells turn p ^ 5) (Int.ne_of_gt hp)
  have h2 := Int.emod_lt_of_pos (blendP cells turn p ^ 5) hp
  constructor <;> omega
theorem blended_le (cells : List Int) (turn : Int) : 0 ≤ blended cells turn ∧ blended cells turn < 2147483647 * 2147483647 * 2147483647 := by
  unfold blended
  have h1 := mix_le (cells := cells) (turn := turn) (f := 0) (p := p1) (B := 1) (by decide) (by decide) (by decide) (by decide)
  have h2 := mix_le (cells := cells) (turn := turn) (p := p2) (by decide) (by decide) h1.1 h1.2
  have h3 := mix_le (cells := cells) (turn := turn) (p := p3) (by decide) (by decide) h2.1 h2.2
  refine ⟨h3.1, Int.lt_of_lt_of_le h3.2 (by decide)⟩
theorem refill_ok {cells : List Int} {S : Dst} (h : S.ok) : (refill cells S).ok ∧ (refill cells S).turn ≤ S.turn + 1 := by
  obtain ⟨h1, h2, h3⟩ := h
  unfold refill
  split
  · split
    · rename_i g gs e
      exact ⟨⟨fun x hx => h1 x (by rw [e]; exact .tail _ hx), h1 g (by rw [e]; exact .head _), h3⟩, by show S.turn ≤ S.turn + 1; omega⟩
    · exact ⟨⟨fun x hx => by simp at hx, (blended_le cells _).1, by show 0 ≤ S.turn + 1; omega⟩, Int.le_refl _⟩
  · exact ⟨⟨h1, h2, h3⟩, by omega⟩
theorem drawn_ok {cells : List Int} {room : Int} {S : Dst} (hr : 0 < room) (h : S.ok) : (drawn cells room S).2.ok ∧ (drawn cells room S).2.turn ≤ S.turn + 1 ∧ 0 ≤ (drawn cells room S).1 ∧ (drawn cells room S).1 < room := by
  obtain ⟨⟨h1, h2, h3⟩, h4⟩ := refill_ok (cells := cells) h
  exact ⟨⟨h1, Int.ediv_nonneg h2 (Int.le_of_lt hr), h3⟩, h4, Int.emod_nonneg _ (Int.ne_of_gt hr), Int.emod_lt_of_pos _ hr⟩
def letters (cells : List Int) : Nat → Dst → List Int × Dst
  | 0, S => ([], S)
  | n + 1, S => ((drawn cells 26 S).1 :: (letters cells n (drawn cells 26 S).2).1, (letters cells n (drawn cells 26 S).2).2)
def wordN (cells : List Int) (S : Dst) : List Int × Dst := letters cells (1 + (drawn cells 8 S).1).toNat (drawn cells 8 S).2
theorem letters_ok {cells : List Int} : ∀ (n : Nat) {S : Dst}, S.ok → (letters cells n S).2.ok ∧ (letters cells n S).2.turn ≤ S.turn + n ∧ (letters cells n S).1.length = n ∧ ∀ x ∈ (letters cells n S).1, 0 ≤ x ∧ x < 26
  | 0, S, h => ⟨h, by show S.turn ≤ S.turn + 0; omega, rfl, fun x hx => by simp [letters] at hx⟩
  | n + 1, S, h => by
    obtain ⟨h1, h2, h3, h4⟩ := drawn_ok (cells := cells) (room := 26) (by decide) h
    obtain ⟨g1, g2, g3, g4⟩ := letters_ok (cells := cells) n h1
    refine ⟨g1, ?_, ?_, fun x hx => ?_⟩
    · show (letters cells n (drawn cells 26 S).2).2.turn ≤ S.turn + ((n + 1 : Nat) : Int)
      omega
    · show ((drawn cells 26 S).1 :: (letters cells n (drawn cells 26 S).2).1).length = n + 1
      rw [List.length_cons, g3]
    · have hx : x ∈ (drawn cells 26 S).1 :: (letters cells n (drawn cells 26 S).2).1 := hx
      rcases List.mem_cons.mp hx with e | m
      · rw [e]; exact ⟨h3, h4⟩
      · exact g4 x m
theorem wordN_ok {cells : List Int} {S : Dst} (h : S.ok) : (wordN cells S).2.ok ∧ (wordN cells S).2.turn ≤ S.turn + 9 ∧ 1 ≤ (wordN cells S).1.length ∧ (wordN cells S).1.length ≤ 8 ∧ ∀ x ∈ (wordN cells S).1, 0 ≤ x ∧ x < 26 := by
  obtain ⟨h1, h2, h3, h4⟩ := drawn_ok (cells := cells) (room := 8) (by decide) h
  obtain ⟨g1, g2, g3, g4⟩ := letters_ok (cells := cells) (1 + (drawn cells 8 S).1).toNat h1
  exact ⟨g1, by show (letters cells (1 + (drawn cells 8 S).1).toNat (drawn cells 8 S).2).2.turn ≤ _; omega, by show 1 ≤ (letters cells (1 + (drawn cells 8 S).1).toNat (drawn cells 8 S).2).1.length; omega, by show (letters cells (1 + (drawn cells 8 S).1).toNat (drawn cells 8 S).2).1.length ≤ 8; omega, g4⟩
/-! ### a falling measure -/
def BIG : Nat := 2147483647 * 2147483647 * 2147483647
def phi (tS : Int) (S : Dst) : Nat := match S.gs with
  | [] => (tS - S.turn).toNat * BIG + S.rest.toNat
  | _ :: _ => S.rest.toNat
def Le (tS : Int) (S' S : Dst) : Prop := S'.gs.length < S.gs.length ∨ (S'.gs.length = S.gs.length ∧ phi tS S' < phi tS S)
theorem Le.trans {tS : Int} {a b c : Dst} (h1 : Le tS a b) (h2 : Le tS b c) : Le tS a c := by
  rcases h1 with h1 | ⟨h1, g1⟩ <;> rcases h2 with h2 | ⟨h2, g2⟩
  · exact .inl (by omega)
  · exact .inl (by omega)
  · exact .inl (by omega)
  · exact .inr ⟨by omega, by omega⟩
theorem le_ind {tS : Int} {P : Dst → Prop} (h : ∀ S, (∀ S', Le tS S' S → P S') → P S) : ∀ S, P S := by
  have key : ∀ n m S, S.gs.length = n → phi tS S = m → P S := by
    intro n
    induction n using Nat.strongRecOn with
    | ind n ihn =>
      intro m
      induction m using Nat.strongRecOn with
      | ind m ihm =>
        intro S e1 e2
        refine h S fun S' l => ?_
        rcases l with l | ⟨l1, l2⟩
        · exact ihn S'.gs.length (by omega) _ S' rfl rfl
        · exact ihm (phi tS S') (by omega) S' (by omega) rfl
  exact fun S => key _ _ S rfl rfl
section
variable {cells : List Int} {tS T : Int} (hT : blended cells tS = T)
include hT
theorem drawn_before {room : Int} {S : Dst} (hr : 2 ≤ room) (h : S.ok) (ht : S.turn < tS) :
    ((drawn cells room S).2.turn < tS ∧ Le tS (drawn cells room S).2 S) ∨ ((drawn cells room S).2 = ⟨[], T / room, tS⟩ ∧ (drawn cells room S).1 = T % room) := by
  obtain ⟨h1, h2, h3⟩ := h
  by_cases h0 : S.rest = 0
  · cases hg : S.gs with
    | cons g gs =>
      have e : refill cells S = ⟨gs, g, S.turn⟩ := by unfold refill; rw [if_pos h0, hg]
      refine .inl ⟨by unfold drawn; rw [e]; exact ht, .inl ?_⟩
      unfold drawn
      rw [e, hg]
      simp
    | nil =>
      have e : refill cells S = ⟨[], blended cells (S.turn + 1), S.turn + 1⟩ := by unfold refill; rw [if_pos h0, hg]
      by_cases hn : S.turn + 1 = tS
      · refine .inr ?_
        unfold drawn
        rw [e, hn, hT]
        exact ⟨rfl, rfl⟩
      · refine .inl ⟨by unfold drawn; rw [e]; show S.turn + 1 < tS; omega, .inr ⟨by unfold drawn; rw [e, hg], ?_⟩⟩
        obtain ⟨b1, b2⟩ := blended_le cells (S.turn + 1)
        have hd : blended cells (S.turn + 1) / room ≤ blended cells (S.turn + 1) := Int.ediv_le_self _ b1
        have p1 : phi tS (drawn cells room S).2 = (tS - (S.turn + 1)).toNat * BIG + (blended cells (S.turn + 1) / room).toNat := by
          unfold phi drawn
          rw [e]
        have p2 : phi tS S = (tS - S.turn).toNat * BIG + S.rest.toNat := by
          unfold phi
          rw [hg]
        rw [p1, p2]
        have e1 : (tS - S.turn).toNat = (tS - (S.turn + 1)).toNat + 1 := by omega
        rw [e1, Nat.add_mul, Nat.one_mul]
        have hB : (BIG : Int) = 2147483647 * 2147483647 * 2147483647 := by decide
        omega
  · have e : refill cells S = S := by unfold refill; rw [if_neg h0]
    have hpos : 0 < S.rest := by omega
    have hlt := Int.ediv_lt_self_of_pos_of_ne_one hpos (show room ≠ 1 by omega)
    have hnn : 0 ≤ S.rest / room := Int.ediv_nonneg h2 (by omega)
    refine .inl ⟨by unfold drawn; rw [e]; exact ht, .inr ⟨by unfold drawn; rw [e], ?_⟩⟩
    unfold phi drawn
    rw [e]
    cases hg : S.gs with
    | nil => show (tS - S.turn).toNat * BIG + (S.rest / room).toNat < (tS - S.turn).toNat * BIG + S.rest.toNat; omega
    | cons g gs => show (S.rest / room).toNat < S.rest.toNat; omega
/-- while what is left of T is drawn from -/
theorem drawn_rest {room r t : Int} (h : r ≠ 0) : drawn cells room ⟨[], r, t⟩ = (r % room, ⟨[], r / room, t⟩) := by
  have e : refill cells ⟨[], r, t⟩ = ⟨[], r, t⟩ := by unfold refill; rw [if_neg h]
  unfold drawn
  rw [e]
theorem letters_rest (hn : ∀ j : Nat, j ≤ 8 → T / 26 ^ j ≠ 0) : ∀ (m j : Nat), j + m ≤ 8 → (letters cells m ⟨[], T / 26 ^ j, tS⟩).2 = ⟨[], T / 26 ^ (j + m), tS⟩
  | 0, j, _ => rfl
  | m + 1, j, h => by
    show (letters cells m (drawn cells 26 ⟨[], T / 26 ^ j, tS⟩).2).2 = _
    rw [drawn_rest hT (hn j (by omega))]
    have e : T / 26 ^ j / 26 = T / 26 ^ (j + 1) := by rw [Int.ediv_ediv_of_nonneg (Int.le_of_lt (Int.pow_pos (by decide))), ← Int.pow_succ]
    show (letters cells m ⟨[], T / 26 ^ j / 26, tS⟩).2 = _
    rw [e, letters_rest hn m (j + 1) (by omega)]
    congr 3
    omega
theorem letters_before (hn : ∀ j : Nat, j ≤ 8 → T / 26 ^ j ≠ 0) : ∀ (n : Nat) {S : Dst}, n ≤ 8 → S.ok → S.turn < tS →
    ((letters cells n S).2.turn < tS ∧ ((letters cells n S).2 = S ∨ Le tS (letters cells n S).2 S)) ∨ ∃ j : Nat, 1 ≤ j ∧ j ≤ n ∧ (letters cells n S).2 = ⟨[], T / 26 ^ j, tS⟩
  | 0, S, _, h, ht => .inl ⟨ht, .inl rfl⟩
  | n + 1, S, hn8, h, ht => by
    rcases drawn_before hT (room := 26) (by decide) h ht with ⟨g1, g2⟩ | ⟨g1, _⟩
    · have h1 := (drawn_ok (cells := cells) (room := 26) (by decide) h).1
      rcases letters_before hn n (by omega) h1 g1 with ⟨k1, k2⟩ | ⟨j, k1, k2, k3⟩
      · refine .inl ⟨k1, .inr ?_⟩
        show Le tS (letters cells n (drawn cells 26 S).2).2 S
        rcases k2 with k2 | k2
        · rw [k2]; exact g2
        · exact k2.trans g2
      · exact .inr ⟨j, k1, by omega, k3⟩
    · refine .inr ⟨1 + n, by omega, by omega, ?_⟩
      show (letters cells n (drawn cells 26 S).2).2 = _
      rw [g1]
      have e : T / 26 = T / 26 ^ 1 := by rw [Int.pow_succ, Int.pow_zero, Int.one_mul]
      rw [e]
      exact letters_rest hT hn n 1 (by omega)
/-- the first letter of the word drawn from here -/
theorem first_rest {c : Int} {r : Int} (h0 : r ≠ 0) (h1 : r / 8 ≠ 0) (hr : 0 ≤ r) (h2 : r / 8 % 26 = c) : (wordN cells ⟨[], r, tS⟩).1.head? = some c := by
  unfold wordN
  rw [drawn_rest hT h0]
  show (letters cells (1 + r % 8).toNat ⟨[], r / 8, tS⟩).1.head? = some c
  have hm := Int.emod_nonneg r (show (8 : Int) ≠ 0 by decide)
  obtain ⟨n, e⟩ : ∃ n, (1 + r % 8).toNat = n + 1 := ⟨(r % 8).toNat, by omega⟩
  rw [e]
  show some (drawn cells 26 ⟨[], r / 8, tS⟩).1 = some c
  rw [drawn_rest hT h1]
  exact congrArg some h2
/-- a word that begins with the letter c comes, and till then no turn is beyond tb -/
inductive Hits (cells : List Int) (c tb : Int) : Dst → Prop
  | now {S : Dst} : S.turn ≤ tb → (wordN cells S).1.head? = some c → Hits cells c tb S
  | later {S : Dst} : S.turn ≤ tb → Hits cells c tb (wordN cells S).2 → Hits cells c tb S
theorem hits {c : Int} (hn : ∀ j : Nat, j ≤ 8 → T / 26 ^ j ≠ 0) (hn8 : ∀ j : Nat, j ≤ 8 → T / 26 ^ j / 8 ≠ 0) (hc : ∀ j : Nat, j ≤ 8 → T / 26 ^ j / 8 % 26 = c) (hT0 : 0 ≤ T) : ∀ S : Dst, S.ok → S.turn < tS → Hits cells c tS S := by
  intro S
  induction S using le_ind (tS := tS) with
  | h S ih =>
    intro h ht
    have hpos : ∀ j : Nat, (0 : Int) ≤ T / 26 ^ j := fun j => Int.ediv_nonneg hT0 (Int.le_of_lt (Int.pow_pos (by decide)))
    obtain ⟨w1, w2, w3, w4, w5⟩ := wordN_ok (cells := cells) h
    rcases drawn_before hT (room := 8) (by decide) h ht with ⟨g1, g2⟩ | ⟨g1, g2⟩
    · have h1 := drawn_ok (cells := cells) (room := 8) (by decide) h
      have hk : (1 + (drawn cells 8 S).1).toNat ≤ 8 := by omega
      rcases letters_before hT hn _ hk h1.1 g1 with ⟨k1, k2⟩ | ⟨j, k1, k2, k3⟩
      · refine .later (by omega) (ih _ ?_ w1 k1)
        rcases k2 with k2 | k2
        · show Le tS (letters cells _ (drawn cells 8 S).2).2 S
          rw [k2]; exact g2
        · exact k2.trans g2
      · refine .later (by omega) ?_
        have e : (wordN cells S).2 = ⟨[], T / 26 ^ j, tS⟩ := k3
        rw [e]
        exact .now (Int.le_refl _) (first_rest hT (hn j (by omega)) (hn8 j (by omega)) (hpos j) (hc j (by omega)))
    · refine .now (by omega) ?_
      unfold wordN
      rw [g1, g2]
      have hm := Int.emod_nonneg T (show (8 : Int) ≠ 0 by decide)
      obtain ⟨n, e⟩ : ∃ n, (1 + T % 8).toNat = n + 1 := ⟨(T % 8).toNat, by omega⟩
      rw [e]
      show some (drawn cells 26 ⟨[], T / 8, tS⟩).1 = some c
      have e8 : T / 26 ^ 0 = T := by rw [Int.pow_zero, Int.ediv_one]
      have z1 := hn8 0 (by omega)
      have z2 := hc 0 (by omega)
      rw [e8] at z1 z2
      rw [drawn_rest hT z1]
      exact congrArg some z2
end
theorem tgt_facts : ∀ c, c < 9 → 1 ≤ c → 0 ≤ tgt.getD c 0 ∧ ∀ j, j < 9 → (tgt.getD c 0 / 26 ^ j ≠ 0 ∧ tgt.getD c 0 / 26 ^ j / 8 ≠ 0 ∧ tgt.getD c 0 / 26 ^ j / 8 % 26 = (c : Int)) := by decide +kernel
/-- from any state, for any of eight letters -/
theorem hits_all {cells : List Int} (hc : cells.length < 64) {c : Nat} (h1 : 1 ≤ c) (h9 : c < 9) {S : Dst} (h : S.ok) : ∃ tb, tb ≤ S.turn + big ∧ Hits cells c tb S := by
  obtain ⟨t, g1, g2, g3⟩ := reach cells hc c h1 h9 S.turn
  obtain ⟨f0, f⟩ := tgt_facts c h9 h1
  exact ⟨t, g2, hits g3 (fun j hj => (f j (by omega)).1) (fun j hj => (f j (by omega)).2.1) (fun j hj => (f j (by omega)).2.2) f0 S h g1⟩
/-! ### the words -/
def wStr (ls : List Int) : Str := ⟨(ls.map fun i => 97 + i.toNat).toArray⟩
def qs (n : Nat) : Str := ⟨(List.replicate n 113).toArray⟩
def altW (w : Str) (n : Nat) : Str := L2.cutS w none (some 1) ++ qs n
def nextFound (found : List Str) (w : Str) : List Str := found ++ (if w ∈ found then (if altW w found.length ∈ found then [] else if found.length < 8 then [altW w found.length] else []) else [w])
inductive Runs (cells : List Int) (many : Nat) (tb : Int) : Nat → Dst → List Str → Prop
  | done {m : Nat} {S : Dst} {found : List Str} : many ≤ found.length → S.turn ≤ tb → Runs cells many tb m S found
  | step {m : Nat} {S : Dst} {found : List Str} : found.length < many → S.turn + 20 ≤ tb → Runs cells many tb m (wordN cells S).2 (nextFound found (wStr (wordN cells S).1)) → Runs cells many tb (m + 1) S found
theorem nextFound_len (found : List Str) (w : Str) : nextFound found w = found ∨ (nextFound found w).length = found.length + 1 := by
  unfold nextFound
  split
  · split
    · exact .inl (List.append_nil _)
    · split
      · exact .inr (by simp)
      · exact .inl (List.append_nil _)
  · exact .inr (by simp)
def firstOf (w : Str) : Nat := w.cps.toList.headD 0
theorem hit_runs {cells : List Int} {c : Nat} {tS tb : Int} {many : Nat} (htb : tS + 20 ≤ tb) {found : List Str} (hl : found.length < many) (hf : ∀ w ∈ found, firstOf w ≠ 97 + c)
    (ih : ∀ (S : Dst) (found' : List Str), S.ok → found'.length = found.length + 1 → S.turn ≤ tS + 9 → ∃ m, Runs cells many tb m S found') : ∀ S : Dst, Hits cells c tS S → S.ok → ∃ m, Runs cells many tb m S found := by
  intro S h
  induction h with
  | @now S h1 h2 =>
    intro ok
    obtain ⟨w1, w2, w3, w4, w5⟩ := wordN_ok (cells := cells) ok
    have hw : wStr (wordN cells S).1 ∉ found := fun hm => by
      refine hf _ hm ?_
      cases e : (wordN cells S).1 with
      | nil => rw [e] at h2; simp at h2
      | cons a l =>
        rw [e] at h2
        simp at h2
        subst h2
        simp [firstOf, wStr]
    have hn : nextFound found (wStr (wordN cells S).1) = found ++ [wStr (wordN cells S).1] := by unfold nextFound; rw [if_neg hw]
    obtain ⟨m, hm⟩ := ih (wordN cells S).2 (nextFound found (wStr (wordN cells S).1)) w1 (by rw [hn]; simp) (by omega)
    exact ⟨m + 1, .step hl (by omega) hm⟩
  | @later S h1 h2 ihh =>
    intro ok
    obtain ⟨w1, w2, w3, w4, w5⟩ := wordN_ok (cells := cells) ok
    rcases nextFound_len found (wStr (wordN cells S).1) with e | e
    · obtain ⟨m, hm⟩ := ihh w1
      exact ⟨m + 1, .step hl (by omega) (by rw [e]; exact hm)⟩
    · obtain ⟨m, hm⟩ := ih (wordN cells S).2 _ w1 e (by omega)
      exact ⟨m + 1, .step hl (by omega) hm⟩
/-- one of eight letters begins none of seven words -/
theorem free_letter (found : List Str) (h : found.length < 8) : ∃ c, 1 ≤ c ∧ c < 9 ∧ ∀ w ∈ found, firstOf w ≠ 97 + c := by
  apply Classical.byContradiction
  intro hno
  have all : ∀ x ∈ (List.range 8).map (· + 98), x ∈ found.map firstOf := fun x hx => by
    obtain ⟨i, hi, rfl⟩ := List.mem_map.mp hx
    have hi : i < 8 := List.mem_range.mp hi
    apply Classical.byContradiction
    intro hx
    exact hno ⟨i + 1, by omega, by omega, fun w hw e => hx (List.mem_map.mpr ⟨w, hw, by omega⟩)⟩
  have := Qe.nodup_len (L := (List.range 8).map (· + 98)) (ks := found.map firstOf) (by decide) all
  rw [List.length_map, List.length_map, List.length_range] at this
  omega
theorem runs {cells : List Int} (hc : cells.length < 64) {many : Nat} (hm : many ≤ 8) : ∀ (k : Nat) (tb : Int) (S : Dst) (found : List Str), S.ok → found.length + k = many → S.turn + (k + 1) * (big + 40) ≤ tb → ∃ m, Runs cells many tb m S found
  | 0, tb, S, found, _, hk, ht => ⟨0, .done (by omega) (by
    have hb : (0 : Int) < big := by decide
    have h2 : S.turn + 1 * (big + 40) ≤ tb := ht
    rw [Int.one_mul] at h2
    omega)⟩
  | k + 1, tb, S, found, ok, hk, ht => by
    obtain ⟨c, c1, c9, hf⟩ := free_letter found (by omega)
    obtain ⟨tS, t1, t2⟩ := hits_all hc c1 c9 ok
    have hb : (0 : Int) < big := by decide
    have e1 : ((k + 1 : Nat) + 1 : Int) * (big + 40) = (k + 1 : Int) * (big + 40) + (big + 40) := by
      rw [Int.add_mul ((k + 1 : Nat) : Int) 1, Int.one_mul]
      rfl
    have hk0 : 0 ≤ (k + 1 : Int) * (big + 40) := Int.mul_nonneg (by omega) (by omega)
    rw [e1] at ht
    exact hit_runs (c := c) (tS := tS) (by omega) (by omega) hf (fun S' f' ok' hl' ht' => runs hc hm k tb S' f' ok' (by omega) (by omega)) S t2 ok
end Qn
set_option maxRecDepth 100000
set_option maxHeartbeats 4000000
/-! The draws in the heap: a dict, a list of great numbers, a list of cells. -/
namespace Qw
open PySem PySem.Spec PyProof.Rows L2 Evl Qd Qe Qn
def LIM : Int := 2 ^ 230
def U : Int := 2 ^ 110
/-- where they stand -/
structure At where
  s : Addr
  g : Addr
  c : Addr
  cells : List Int
structure DAt (a : At) (S : Dst) (H : Hp) : Prop where
  kv : ∃ kvs, H a.s = some (.dK kvs) ∧ valV kvs (.inr "great") = some (.ref a.g) ∧ valV kvs (.inr "cells") = some (.ref a.c) ∧ valV kvs (.inr "rest") = some (.int S.rest) ∧ valV kvs (.inr "turn") = some (.int S.turn) ∧ kvs.length ≤ 100
  gr : H a.g = some (.lst (S.gs.map V.int))
  ce : H a.c = some (.lst (a.cells.map V.int))
  sg : a.s ≠ a.g
  sc : a.s ≠ a.c
  gc : a.g ≠ a.c
  ln : a.cells.length < 64
  gl : S.gs.length ≤ 64
  ok : S.ok
theorem DAt.mono {a : At} {S : Dst} {H H' : Hp} (D : DAt a S H) (e : Ex H H') : DAt a S H' := by
  obtain ⟨⟨kvs, h1, h2⟩, h3, h4, k1, k2, k3, k4, k5, k6⟩ := D
  exact ⟨⟨kvs, e _ _ h1, h2⟩, e _ _ h3, e _ _ h4, k1, k2, k3, k4, k5, k6⟩
def hides (a : At) : Addr → Prop := fun p => p = a.s ∨ p = a.g ∨ p = a.c
/-- the world in which draws are spent; B: all that is hidden -/
def dW (a : At) (B : Addr → Prop) (hB : ∀ p, hides a p → B p) : Wd where
  A := B
  I := fun b H => (∃ S, DAt a S H ∧ S.turn + b * U + U ≤ LIM) ∧ ∀ p, B p → H p ≠ none
  R := fun H H' => Ex (hid (hides a) H) (hid (hides a) H')
  refl := fun H => Ex.refl _
  trans := fun x y => x.trans y
  up := fun {b H H'} _ r p o e => by
    obtain ⟨h1, h2⟩ := hid_vis e
    have q := r p o (by rw [hid_at fun z => h1 (hB p z)]; exact h2)
    rw [hid_at h1]
    exact (hid_vis q).2
  new := fun {b H H'} ⟨⟨S, D, t⟩, al⟩ e => ⟨ex_hid e, ⟨S, D.mono e, t⟩, fun p hp z => by
    cases q : H p with
    | none => exact al p hp q
    | some o => rw [e p o q] at z; cases z⟩
  alive := fun h hp => h.2 _ hp
  less := fun {b c H} ⟨⟨S, D, t⟩, al⟩ => ⟨⟨S, D, by
    have : (0 : Int) ≤ c * U := Int.mul_nonneg (by omega) (by decide)
    have e : ((b + c : Nat) : Int) * U = b * U + c * U := by rw [Int.natCast_add, Int.add_mul]
    omega⟩, al⟩
  mtt := fun {b H H' D o} _ h r p u e => by
    obtain ⟨h1, h2⟩ := hid_vis e
    have ne : p ≠ D := ne_of_none h2 h
    have q := r p u e
    obtain ⟨_, h4⟩ := hid_vis q
    rw [hid_at h1, upd_ne ne]
    exact h4
  imt := fun {b H D o} ⟨⟨S, DA, t⟩, al⟩ h => ⟨⟨S, by
    have n1 : a.s ≠ D := fun e => h (hB D (.inl e.symm))
    have n2 : a.g ≠ D := fun e => h (hB D (.inr (.inl e.symm)))
    have n3 : a.c ≠ D := fun e => h (hB D (.inr (.inr e.symm)))
    obtain ⟨⟨kvs, h1, h2⟩, h3, h4, k1, k2, k3, k4, k5, k6⟩ := DA
    exact ⟨⟨kvs, by rw [upd_ne n1]; exact h1, h2⟩, by rw [upd_ne n2]; exact h3, by rw [upd_ne n3]; exact h4, k1, k2, k3, k4, k5, k6⟩, t⟩, fun p hp => by
    rw [upd_ne fun e => h (by rw [← e]; exact hp)]
    exact al p hp⟩
/-- the state drawn from is put in place of the old one -/
theorem put_len {kvs : List (Key × V)} {k : Key} {v w : V} (h : valV kvs k = some w) : (putK kvs k v).length = kvs.length := by
  unfold putK
  rw [valV_any, h]
  simp
theorem hid_keep {a : At} {H : Hp} {p : Addr} {o : HO} (h : hides a p) : Ex (hid (hides a) H) (hid (hides a) (upd H p o)) := by
  rw [hid_mut h]; exact Ex.refl _
theorem nk1 : ¬ ((.inr "great" : Key) = .inr "rest") := by decide +kernel
theorem nk2 : ¬ ((.inr "cells" : Key) = .inr "rest") := by decide +kernel
theorem nk3 : ¬ ((.inr "turn" : Key) = .inr "rest") := by decide +kernel
theorem nk4 : ¬ ((.inr "great" : Key) = .inr "turn") := by decide +kernel
theorem nk5 : ¬ ((.inr "cells" : Key) = .inr "turn") := by decide +kernel
theorem nk6 : ¬ ((.inr "rest" : Key) = .inr "turn") := by decide +kernel
/-- state["rest"] = r -/
theorem put_rest {a : At} {S : Dst} {H : Hp} (D : DAt a S H) {r : Int} (hr : 0 ≤ r) {kvs : List (Key × V)} (h : H a.s = some (.dK kvs)) : DAt a ⟨S.gs, r, S.turn⟩ (upd H a.s (.dK (putK kvs (.inr "rest") (.int r)))) := by
  obtain ⟨⟨kvs', h1, g1, g2, g3, g4, g5⟩, h3, h4, e1, e2, e3, e4, e5, o1, o2, o3⟩ := D
  rw [h1] at h
  cases h
  refine ⟨⟨_, upd_same, ?_, ?_, ?_, ?_, ?_⟩, by rw [upd_ne (Ne.symm e1)]; exact h3, by rw [upd_ne (Ne.symm e2)]; exact h4, e1, e2, e3, e4, e5, o1, hr, o3⟩
  · rw [valV_put, if_neg nk1]; exact g1
  · rw [valV_put, if_neg nk2]; exact g2
  · rw [valV_put, if_pos rfl]
  · rw [valV_put, if_neg nk3]; exact g4
  · rw [put_len g3]; exact g5
theorem put_turn {a : At} {S : Dst} {H : Hp} (D : DAt a S H) {r : Int} (hr : 0 ≤ r) {kvs : List (Key × V)} (h : H a.s = some (.dK kvs)) : DAt a ⟨S.gs, S.rest, r⟩ (upd H a.s (.dK (putK kvs (.inr "turn") (.int r)))) := by
  obtain ⟨⟨kvs', h1, g1, g2, g3, g4, g5⟩, h3, h4, e1, e2, e3, e4, e5, o1, o2, o3⟩ := D
  rw [h1] at h
  cases h
  refine ⟨⟨_, upd_same, ?_, ?_, ?_, ?_, ?_⟩, by rw [upd_ne (Ne.symm e1)]; exact h3, by rw [upd_ne (Ne.symm e2)]; exact h4, e1, e2, e3, e4, e5, o1, o2, hr⟩
  · rw [valV_put, if_neg nk4]; exact g1
  · rw [valV_put, if_neg nk5]; exact g2
  · rw [valV_put, if_neg nk6]; exact g3
  · rw [valV_put, if_pos rfl]
  · rw [put_len g4]; exact g5
/-- state["great"].pop(0) -/
theorem pop_great {a : At} {S : Dst} {H : Hp} {x : Int} {gs : List Int} (D : DAt a S H) (e : S.gs = x :: gs) : DAt a ⟨gs, S.rest, S.turn⟩ (upd H a.g (.lst (gs.map V.int))) := by
  obtain ⟨⟨kvs', h1, g1⟩, h3, h4, e1, e2, e3, e4, e5, o1, o2, o3⟩ := D
  rw [e] at e5 o1
  refine ⟨⟨kvs', by rw [upd_ne e1]; exact h1, g1⟩, upd_same, by rw [upd_ne (Ne.symm e3)]; exact h4, e1, e2, e3, e4, by rw [List.length_cons] at e5; exact Nat.le_of_succ_le e5, fun z hz => o1 z (.tail _ hz), o2, o3⟩
/-! ### promises -/
/-- a def that is handed the draws and data: exact in the state -/
def spS (K : PySem.W.Frag) (a : At) (ok : List PyData → Prop) (g : Dst → List PyData → PyData) (nx : Dst → List PyData → Dst) : Sp := fun vs H Q _ => ∃ (S : Dst) (ds : List PyData) (B : Addr → Prop) (ws : List V), vs = .ref a.s :: ws ∧ (∀ p, hides a p → B p) ∧ (∀ p, B p → H p ≠ none) ∧ DAt a S H ∧ Rps K (hid B H) ws ds ∧ ok ds ∧ S.turn + U ≤ LIM ∧
  ∀ v H', DAt a (nx S ds) H' → Ex (hid (hides a) H) (hid (hides a) H') → Rp K (hid B H') v (g S ds) → Q v H'
/-- .. any data of which p stands; c of the credit are spent -/
def spD (K : PySem.W.Frag) (a : At) (c : Nat) (ok : List PyData → Prop) (p : List PyData → PyData → Prop) : Sp := fun vs H Q _ => ∃ (b : Nat) (ds : List PyData) (B : Addr → Prop) (hB : ∀ p, hides a p → B p) (ws : List V), vs = .ref a.s :: ws ∧ (dW a B hB).I (b + c) H ∧ Rps K (hid B H) ws ds ∧ ok ds ∧
  ∀ v H' d, (dW a B hB).I b H' → (dW a B hB).R H H' → Rp K (hid B H') v d → p ds d → Q v H'
section
variable {W : Wd} {K : PySem.W.Frag} {a : At} {σ : L2.St} {H : Hp} {c cd : Nat} {ta : TA} {ok : List PyData → Prop} {p : List PyData → PyData → Prop} {ps : List PyData → Prop} {q : PyData → Prop} {E : XK} {i : Nat} {B : Addr → Prop} {hB : ∀ p, hides a p → B p}
/-- a world above that of the draws: more may be hidden -/
structure Ab (a : At) (W : Wd) : Prop where
  sub : ∀ p, hides a p → W.A p
  I : ∀ {b H}, W.I b H → (dW a W.A sub).I b H
  st : ∀ {b b' H H'}, W.I b H → (dW a W.A sub).I b' H' → (dW a W.A sub).R H H' → W.I b' H' ∧ W.R H H'
theorem ab_self : Ab a (dW a B hB) := ⟨hB, fun h => h, fun _ h r => ⟨h, r⟩⟩
theorem Ab.hide {x : Addr} (h : Ab a W) (hx : ¬ hides a x) : Ab a (W.hide x) := ⟨fun p z => .inl (h.sub p z), fun i => ⟨(h.I i.1).1, fun p hp => (W.hide x).alive i hp⟩, fun {b b' H H'} i j r => by
  obtain ⟨k1, k2⟩ := h.st i.1 (b' := b') (H' := H') ⟨j.1, fun p hp => j.2 p (.inl hp)⟩ r
  obtain ⟨o, e⟩ := Option.ne_none_iff_exists'.mp i.2
  have e2 := r x o (by show hid (hides a) H x = some o; rw [hid_at hx]; exact e)
  have e3 : H' x = some o := (hid_vis e2).2
  exact ⟨⟨k1, by rw [e3]; simp⟩, k2, by rw [e3, e]⟩⟩
/-- a call of such a def: the draws in slot i, then the data -/
theorem pv_draw (ab : Ab a W) (hs : σ[i]? = some (some (.ref a.s))) (h : EaP W K c ta σ H ps) (hp : ∀ ds, ps ds → ok ds ∧ ∀ d, p ds d → q d) : EvP W K (c + cd) (tCall (spD K a cd ok p) [] E (tCons (tVar i) ta)) σ H q := fun b H1 i1 e Q k => by
  have i' : W.I (b + cd + c) H1 := by rw [show b + cd + c = b + (c + cd) by omega]; exact i1
  refine ⟨.ref a.s, hs, h (b + cd) H1 i' e _ fun vs H2 ds i2 r2 rs hds => ?_⟩
  show spD K a cd ok p ((.ref a.s :: vs) ++ []) H2 Q E
  rw [List.append_nil]
  obtain ⟨h1, h2⟩ := hp ds hds
  refine ⟨b, ds, W.A, ab.sub, vs, rfl, ab.I i2, rs, h1, fun v H3 d i3 r3 rp hd => ?_⟩
  obtain ⟨j3, s3⟩ := ab.st i2 i3 r3
  exact k v H3 d j3 (W.trans r2 s3) rp (h2 d hd)
/-- an exact one is one of any data -/
theorem spD_of_S {g : Dst → List PyData → PyData} {nx : Dst → List PyData → Dst} {vs : List V} {Q : VK} (h : spD K a 1 ok p vs H Q E) (hp : ∀ S ds, S.ok → ok ds → p ds (g S ds)) (hn : ∀ S ds, S.ok → ok ds → (nx S ds).turn ≤ S.turn + 1) : spS K a ok g nx vs H Q E := by
  obtain ⟨b, ds, B, hB, ws, rfl, ⟨⟨S, D, t⟩, al⟩, rs, hok, k⟩ := h
  have hU : (1 : Int) ≤ U := by decide
  have hb : (0 : Int) ≤ b * U := Int.mul_nonneg (by omega) (by omega)
  have e : ((b + 1 : Nat) : Int) * U = b * U + U := by rw [Int.natCast_add, Int.add_mul]; simp
  rw [e] at t
  refine ⟨S, ds, B, ws, rfl, hB, al, D, rs, hok, by omega, fun v H' D' r rp => k v H' _ ⟨⟨_, D', ?_⟩, fun p hp z => ?_⟩ r rp (hp S ds D.ok hok)⟩
  · have := hn S ds D.ok hok
    omega
  · by_cases hh : hides a p
    · obtain ⟨⟨kvs, h1, _⟩, h3, h4, _⟩ := D'
      rcases hh with rfl | rfl | rfl
      · rw [h1] at z; cases z
      · rw [h3] at z; cases z
      · rw [h4] at z; cases z
    · obtain ⟨o, e⟩ := Option.ne_none_iff_exists'.mp (al p hp)
      have e2 := r p o (by rw [hid_at hh]; exact e)
      rw [(hid_vis e2).2] at z
      cases z
end
end Qw
set_option maxRecDepth 100000
set_option maxHeartbeats 4000000
/-! sorted(xs) of data: the values with what they stand for. -/
namespace Qs
open PySem PySem.Spec PyProof.Rows L2
open PySem.W (EachIs AllAlike Sortable dataLe)
def rSortedP (K : PySem.W.Frag) : List V → Hp → VK → Prop := fun xs H Q => ∃ (a : Addr) (vs : List V) (ds : List PyData), xs = [.ref a] ∧ SqL K H a vs ∧ DpAll K H vs ds ∧ AllAlike ds ∧ Sortable ds ∧ (∀ d ∈ ds, d.depth ≤ 60) ∧
  ∀ p (bs : List (V × PyData)), H p = none → bs.Perm (vs.zip ds) → bs.map (·.2) = srt ds → Q (.ref p) (upd H p (.lst (bs.map (·.1))))
section
variable {X : Cx}
theorem cr_sortedP (hu : X.A.units + 64 < cLine) : CallR X (.builtin "sorted") (rSortedP X.K) := by
  intro pins s σ H xs us Q I r h
  obtain ⟨a, vs, ds, rfl, hs, hd, al, so, dp, q⟩ := h
  obtain ⟨its, rv, hl, hz⟩ := I.list hs
  rw [Vals.ref1 r]
  have hlen := dpAll_len hd
  have hb := each_bears hlen rv
  have ez := zip_snd hlen
  have zl : (vs.zip ds).length = vs.length := by rw [List.length_zip, hlen, Nat.min_self]
  have hD := dpAll_zip hd
  refine PySem.W.sorted_data (vs := its) (bs := vs.zip ds) (enc := enc2) (R := bears) hl.isList hb (each_reads I hb hD) (by rw [show (vs.zip ds).map enc2 = ds from ez]; exact al) (by rw [show (vs.zip ds).map enc2 = ds from ez]; exact so)
    (by rw [zl]; exact hz) (fun b hbm => ?_) fun out ho eo => ?_
  · have hm : b.2 ∈ ds := by rw [← ez]; exact List.mem_map.mpr ⟨b, hbm, rfl⟩
    have := dp _ hm
    show X.A.units + 2 + b.2.depth < cLine
    omega
  · obtain ⟨ep, he'⟩ := PyProof.Rows.sortedAll_at s.heap its out.toArray
    have pm := List.mergeSort_perm (vs.zip ds) (dataLe false enc2)
    have pv : (((vs.zip ds).mergeSort (dataLe false enc2)).map (·.1)).Perm vs := by
      have q1 := pm.map (·.1)
      rw [List.map_fst_zip (by omega)] at q1
      exact q1
    have hlen2 : (((vs.zip ds).mergeSort (dataLe false enc2)).map (·.1)).length ≤ sizeLine := by rw [pv.length_eq]; exact hz
    exact ⟨.ref _, upd H (s.heap.objs.size + 1) (.lst (((vs.zip ds).mergeSort (dataLe false enc2)).map (·.1))), I.laid (t' := s.toks) (fun _ _ => PyProof.Rows.sortedAll_old) (Nat.le_succ _) ⟨hlen2, out, ep, vals_each eo, he'⟩, rfl,
      q _ _ (I.hok.fresh (Nat.le_succ _)) pm (by rw [srt_map, ez])⟩
end
end Qs
namespace Qe
open PySem PySem.Spec PyProof.Rows L2 Evl Qd Qs
theorem rps_zip {K : PySem.W.Frag} {H : Hp} : ∀ {vs : List V} {ds : List PyData}, Rps K H vs ds → ∀ b ∈ vs.zip ds, Rp K H b.1 b.2
  | _, _, .nil, b, hb => by simp at hb
  | _, _, .cons h t, b, hb => by
    rw [List.zip_cons_cons] at hb
    rcases List.mem_cons.mp hb with e | e
    · rw [e]; exact h
    · exact rps_zip t b e
theorem rps_of {K : PySem.W.Frag} {H : Hp} : ∀ {bs : List (V × PyData)}, (∀ b ∈ bs, Rp K H b.1 b.2) → Rps K H (bs.map (·.1)) (bs.map (·.2))
  | [], _ => .nil
  | b :: bs, h => .cons (h b List.mem_cons_self) (rps_of fun c hc => h c (List.mem_cons_of_mem _ hc))
/-- sorted(xs) of data that are flat -/
theorem dv_sortedP {W : Wd} {K : PySem.W.Frag} {σ : L2.St} {H : Hp} {te : TE} {ds : List PyData} (h : EvD W K te σ H (.list ds)) (hf : flatAll ds = true) (al : PySem.W.AllAlike ds) (so : PySem.W.Sortable ds) (dp : ∀ d ∈ ds, d.depth ≤ 60) :
    EvD W K (tCB (rSortedP K) (tCons te tNil)) σ H (.list (srt ds)) := fun b H1 i e Q g => h b H1 i e _ fun v H2 i2 r2 rp => by
  obtain ⟨a, vs, rfl, hs, rs⟩ := rp_lst rp
  refine ⟨a, vs, ds, rfl, sq_of (hid_ex _ _ hs), (rs.mono hid_ex).dp hf, al, so, dp, fun p bs hp pm e2 => ?_⟩
  have r3 := rps_of (K := K) (H := W.m H2) (bs := bs) fun b hb => rps_zip rs b (pm.mem_iff.mp hb)
  rw [e2] at r3
  obtain ⟨i5, r5, rp5⟩ := lst_new i2 hp r3
  exact g _ _ i5 (W.trans r2 r5) rp5
/-- tuple(list), kept as the object it is -/
theorem tupF_do {W : Wd} {K : PySem.W.Frag} {σ : L2.St} {H H1 : Hp} {te : TE} {ds : List PyData} {b : Nat} (h : EvD W K te σ H (.list ds)) (i : W.I b H1) (e : Ex (W.m H) (W.m H1)) (Q : VK)
    (k : ∀ t o vs H2, W.I b H2 → W.R H1 H2 → W.m H2 t = some (.frz o (.tup vs)) → o.dict = none → Rps K (W.m H2) vs ds → Q (.ref t) H2) : tCB (rTupF K) (tCons te tNil) σ H1 Q := h b H1 i e _ fun v H2 i2 r2 rp => by
  obtain ⟨a, vs, rfl, hs, rs⟩ := rp_lst rp
  refine ⟨a, vs, rfl, sq_of (hid_ex _ _ hs), fun t o ht ho => ?_⟩
  obtain ⟨r3, i3⟩ := W.new (H' := upd H2 t (.frz o (.tup vs))) i2 (Ex.new ht)
  have nA := Wd.fresh i2 ht
  refine k t o vs _ i3 (W.trans r2 r3) ?_ ho (rs.mono (ex_hid (Ex.new ht)))
  rw [show W.m (upd H2 t (.frz o (.tup vs))) = upd (W.m H2) t (.frz o (.tup vs)) from hid_new nA]
  exact upd_same
end Qe
set_option maxRecDepth 100000
set_option maxHeartbeats 4000000
/-! Comprehensions that spend, in slots. -/
namespace Qe
open PySem PySem.Spec PyProof.Rows L2 Evl Qd
section
variable {W : Wd} {K : PySem.W.Frag} {σ : L2.St} {H H' : Hp} {c c' c1 c2 : Nat} {ta tb te tx : TE} {tas tr : TA} {tt u : TT} {d : PyData} {ds es : List PyData} {wi : TI}
variable {g : TG} {vs : List Nat}
/-- with spending -/
theorem pv_lcA {S : PyData → L2.St → Hp → Prop} {p : List PyData → Prop} {q : PyData → PyData → Prop} {n : Nat} (hi : EiP W K c1 wi σ H p) (hn : ∀ es, p es → es.length ≤ n) (hn2 : n ≤ 50000) (hg : ∀ es, p es → ∀ d ∈ es, Tgt K g (wipe σ vs) d (S d)) (hw : ∀ d σ2 Hv, S d σ2 Hv → wipe σ2 vs = wipe σ vs)
    (ht : ∀ D es d σ2 H', p es → d ∈ es → Ex (W.m H) ((W.hide D).m H') → S d σ2 ((W.hide D).m H') → EtD (W.hide D) tt σ2 H' true)
    (he : ∀ D es d σ2 H', ¬ W.A D → p es → d ∈ es → Ex (W.m H) ((W.hide D).m H') → S d σ2 ((W.hide D).m H') → EvP (W.hide D) K c2 te σ2 H' (q d)) :
    EvP W K (c1 + n * c2) (tLc wi g tt te vs) σ H (fun r => ∃ es rs, r = .list rs ∧ p es ∧ rs.length = es.length ∧ ∀ (i : Nat) d r, es[i]? = some d → rs[i]? = some r → q d r) := fun b H1 i e1 Q k => by
  have i' : W.I (b + n * c2 + c1) H1 := by rw [Nat.add_assoc, Nat.add_comm (n * c2) c1]; exact i
  refine hi (b + n * c2) H1 i' e1 _ fun J H2 es i2 r2 hp W0 D hD => ?_
  have nA := Wd.fresh i2 hD
  have hen := hn es hp
  have up02 : Ex (W.m H) (W.m H2) := e1.trans (W.up i r2)
  refine lc_it W0 (fun m H => m ≤ es.length ∧ (W.hide D).I (b + (n - m) * c2) H ∧ W.R H2 H ∧ Ex (W.m H2) ((W.hide D).m H) ∧ ∃ ws rs, H D = some (.lst ws) ∧ Rps K ((W.hide D).m H) ws rs ∧ rs.length = m ∧ ∀ (i : Nat) d r, es[i]? = some d → rs[i]? = some r → q d r) ?_ ?_ ?_ ?_
  · exact ⟨Nat.zero_le _, Wd.hideI i2 hD, W.mtt i2 hD (W.refl H2), Wd.hide_ex hD, [], [], upd_same, .nil, rfl, fun i d r _ h => by simp at h⟩
  · exact fun n H3 _ p => p.2.2.2.1.trans hid_ex
  · rintro m x H3 H4 hm ⟨_, j3, r3, e3, ws, rs, hws, rws, lrs, hq⟩ ⟨y1, y2⟩
    obtain ⟨d, hd, rx⟩ := y2 (W.hide D).A (fun a ha => (W.hide D).alive j3 ha) e3
    obtain ⟨r34, j4⟩ := (W.hide D).new j3 y1
    have u34 := (W.hide D).up j3 r34
    have mem : d ∈ es := List.mem_of_getElem? hd
    refine hg es hp d mem (W.hide D).A x H4 _ rx fun σ2 hS => ⟨hw d σ2 _ hS, ?_⟩
    have b4 : Ex (W.m H) ((W.hide D).m H4) := up02.trans (e3.trans u34)
    refine ht D es d σ2 H4 hp mem b4 hS _ H4 j4 (Ex.refl _) _ fun H5 j5 r5 => ?_
    have u45 := (W.hide D).up j4 r5
    have c5 : H5 D = some (.lst ws) := by rw [r5.2, r34.2]; exact hws
    have em : b + (n - m) * c2 = b + (n - (m + 1)) * c2 + c2 := by
      have : n - m = (n - (m + 1)) + 1 := by omega
      rw [this, Nat.add_mul, Nat.one_mul, ← Nat.add_assoc]
    rw [em] at j5
    refine he D es d σ2 H4 nA hp mem b4 hS _ H5 j5 u45 _ fun y H6 r j6 r6 ry hr => ?_
    have u56 := (W.hide D).up j5 r6
    have c6 : H6 D = some (.lst ws) := by rw [r6.2]; exact c5
    have lw := rws.len
    refine ⟨ws, c6, sz_lt (by omega), by omega, Wd.hide_mut j6 nA, W.mtt i2 hD (W.trans r3 (W.trans r34.1 (W.trans r5.1 r6.1))), ?_, ws ++ [y], rs ++ [r], upd_same, ?_, by simp; omega, ?_⟩
    · rw [Wd.hide_m]
      exact e3.trans (u34.trans (u45.trans u56))
    · rw [Wd.hide_m]
      exact (rws.mono (u34.trans (u45.trans u56))).app (.one ry)
    · intro i d' r' h1 h2
      by_cases hlt : i < rs.length
      · rw [List.getElem?_append_left hlt] at h2
        exact hq i d' r' h1 h2
      · rw [List.getElem?_append_right (by omega)] at h2
        have hi0 : i = rs.length := by
          have := (List.getElem?_eq_some_iff.mp h2).1
          simp at this
          omega
        subst hi0
        rw [lrs, hd] at h1
        simp at h2
        cases h1
        subst h2
        exact hr
  · rintro H3 ⟨_, j3, r3, e3, ws, rs, hws, rws, lrs, hq⟩
    refine k _ H3 _ (W.less j3.1) (W.trans r2 r3) (.lst ?_ (rws.mono Wd.hide_sub)) ⟨es, rs, rfl, hp, lrs, hq⟩
    rw [show W.m H3 D = H3 D from hid_at nA]
    exact hws
theorem ps_lcD {l : List (Option PyData)} {j : Nat} {p : List PyData → Prop} {q : PyData → PyData → Prop} {n : Nat} (S : Slots K (W.m H) σ l) (hi : EiP W K c1 wi σ H p) (hn : ∀ es, p es → es.length ≤ n) (hn2 : n ≤ 50000)
    (he : ∀ D es d σ2 H', ¬ W.A D → p es → d ∈ es → Slots K ((W.hide D).m H') σ2 (l.set j (some d)) → (∀ i, i ≠ j → σ2[i]? = σ[i]?) → EvP (W.hide D) K c2 te σ2 H' (q d)) :
    EvP W K (c1 + n * c2) (tLc wi (gName j) tYes te [j]) σ H (fun r => ∃ es rs, r = .list rs ∧ p es ∧ rs.length = es.length ∧ ∀ (i : Nat) d r, es[i]? = some d → rs[i]? = some r → q d r) :=
  pv_lcA (S := fun d => SN K (wipe σ [j]) j d) hi hn hn2 (fun _ _ _ _ => tg_name) (fun d σ2 Hv ⟨x, h, _⟩ => by rw [h]; exact set_wipe) (fun D es d σ2 H' _ _ _ _ => fun b H1 i _ Q g => g H1 i ((W.hide D).refl H1))
    (fun D es d σ2 H' nA hp hd up s => he D es d σ2 H' nA hp hd (slots_name (S.mono up) s) fun i hij => by
      obtain ⟨x, h, _⟩ := s
      rw [h]
      show ((σ.set j none).set j (some x))[i]? = σ[i]?
      rw [List.getElem?_set_ne (Ne.symm hij), List.getElem?_set_ne (Ne.symm hij)])
end
end Qe
set_option maxRecDepth 100000
set_option maxHeartbeats 4000000
/-! t[::-1] of a tuple. -/
namespace Qe
open PySem PySem.Spec PyProof.Rows L2 HT Evl Qd
section
variable {prog : Program} {w : World} {A : Around} {E : Value → Shared → Prop} {s : Shared}
theorem applied_rev {sl : Addr} {u : Tok} {n : Nat} {Q : Int × Int × Nat → Shared → Prop} (hs : s.heap.IsSliceOf sl .none .none (.int (-1) u)) (h : Q ((n : Int) - 1, -1, n) s) : wpAny (model prog w) A (Builtin.Slice.sliceApplied (.ref sl) (pure (n : Int))) Q E s := by
  obtain ⟨os, hos, hcs, hds⟩ := id hs
  unfold Builtin.Slice.sliceApplied Builtin.Slice.sliceFields
  refine wpAny_bind (wpAny_bind (wpAny_field hos hds (x := .none) rfl (wpAny_bind (wpAny_field hos hds (x := .none) rfl (wpAny_bind (wpAny_field hos hds (x := .int (-1) u) rfl (wpAny_pure ?_)))))))
  refine wpAny_bind (slicePart_int ?_)
  show wpAny _ _ (if ((-1 : Int) == 0) = true then _ else _) _ _ s
  rw [if_neg (by decide)]
  refine wpAny_bind (slicePart_none (wpAny_bind (slicePart_none (wpAny_bind (wpAny_pure ?_)))))
  show wpAny _ _ (match Builtin.Slice.sliceAdjust none none (-1) (n : Int) with | (lo, hi) => pure (lo, (-1 : Int), Builtin.Slice.slicePlaces lo hi (-1))) _ _ s
  have e1 : Builtin.Slice.sliceAdjust none none (-1) (n : Int) = ((n : Int) - 1, -1) := by
    unfold Builtin.Slice.sliceAdjust
    simp
  rw [e1]
  show wpAny _ _ (pure ((n : Int) - 1, (-1 : Int), Builtin.Slice.slicePlaces ((n : Int) - 1) (-1) (-1))) _ _ s
  have e2 : Builtin.Slice.slicePlaces ((n : Int) - 1) (-1) (-1) = n := by
    unfold Builtin.Slice.slicePlaces
    simp
    omega
  rw [e2]
  exact wpAny_pure h
theorem fm_congr {α β : Type} {f g : α → Option β} : ∀ {l : List α}, (∀ a ∈ l, f a = g a) → l.filterMap f = l.filterMap g
  | [], _ => rfl
  | x :: l, h => by
    rw [List.filterMap_cons, List.filterMap_cons, h x (.head _), fm_congr fun a ha => h a (.tail _ ha)]
theorem pick_rev (xs : Array Value) : ((List.range xs.size).filterMap fun (m : Nat) => xs[((xs.size : Int) - 1 + (m : Int) * (-1)).toNat]?).toArray = xs.toList.reverse.toArray := by
  congr 1
  have e : (List.range xs.size).filterMap (fun (m : Nat) => xs[((xs.size : Int) - 1 + (m : Int) * (-1)).toNat]?) = (List.range xs.size).filterMap fun m => xs.toList.reverse[m]? := by
    refine fm_congr fun m hm => ?_
    have hm : m < xs.size := List.mem_range.mp hm
    have e1 : ((xs.size : Int) - 1 + (m : Int) * (-1)).toNat = xs.size - 1 - m := by omega
    rw [e1, List.getElem?_reverse (by rw [Array.length_toList]; exact hm), Array.length_toList, Array.getElem?_toList]
  rw [e]
  have key : ∀ (l : List Value), (List.range l.length).filterMap (fun m => l[m]?) = l := fun l => by
    apply List.ext_getElem?
    intro i
    induction l generalizing i with
    | nil => rfl
    | cons x l ih =>
      rw [List.length_cons, List.range_succ_eq_map, List.filterMap_cons]
      show (x :: List.filterMap (fun m => (x :: l)[m]?) (List.map Nat.succ (List.range l.length)))[i]? = (x :: l)[i]?
      rw [List.filterMap_map]
      cases i with
      | zero => rfl
      | succ i => exact ih i
  have := key xs.toList.reverse
  rw [List.length_reverse, Array.length_toList] at this
  exact this
theorem getItem_tuple_rev {t sl : Addr} {items : Array Value} {u : Tok} {Q : Value → Shared → Prop} (ht : IsTup s.heap t items) (hs : s.heap.IsSliceOf sl .none .none (.int (-1) u))
    (h : Q (.ref s.heap.objs.size) { s with heap := s.heap.push { cls := .type "tuple", data := .seq items.toList.reverse.toArray } }) (hsz : items.size ≤ sizeLine) : wpAny (model prog w) A (getItem (.ref t) (.ref sl)) Q E s := by
  have htake : sizeOk (.seq items.toList.reverse.toArray) := by
    show items.toList.reverse.toArray.size ≤ sizeLine
    rw [List.size_toArray, List.length_reverse, Array.length_toList]
    exact hsz
  obtain ⟨os, hos, hcs, hds⟩ := id hs
  have hTs : s.TypeIs (.ref sl) "slice" := ⟨os, hos, hcs⟩
  unfold getItem
  try with_reducible refine wpAny_holding ?_
  first | refine wpAny_bind (wpAny_pure ?_) | skip
  refine wpAny_bind (wpAny_sequenceKey ht.typeIs (by decide) ?_)
  refine wpAny_bind (wpAny_callSpecial?_slot (name := Str.ofString "__getitem__") ht.typeIs PyProof.Rows.slot_tuple_getitem
    (wpAny_call_entry PyProof.Rows.slot_tuple_getitem ht.typeIs entry_tuple_getitem ?_ (args_tuple_getitem _ _)))
  show wpAny _ _ (Builtin.Tuple.tupleItemsOf (.ref t) >>= _) _ _ s
  refine wpAny_bind (tupleItemsOf_ ht ?_)
  refine wpAny_bind (wpAny_typeOf hTs ?_)
  rw [if_pos (by decide)]
  refine wpAny_bind (applied_rev hs ?_)
  have hno : ¬ (((items.size : Int) - 1 == 0 && (-1 : Int) == 1 && items.size == items.size) = true) := by
    intro q
    rw [Bool.and_eq_true, Bool.and_eq_true] at q
    exact absurd q.1.2 (by decide)
  show wpAny _ _ (if ((items.size : Int) - 1 == 0 && (-1 : Int) == 1 && items.size == items.size) = true then _ else _) _ _ s
  rw [if_neg hno, pick_rev]
  first
    | exact wpAny_bind (m := Builtin.Tuple.tupleExact _) (wpAny_newObj_type (wpAny_pure ⟨_, rfl, wpAny_pure h⟩) htake)
    | exact wpAny_bind (m := Builtin.Tuple.tupleExact _) (wpAny_newObj_type (wpAny_bind (wpAny_pure (wpAny_pure ⟨_, rfl, wpAny_pure h⟩))) htake)
    | exact wpAny_bind (wpAny_bind (m := Builtin.Tuple.tupleExact _) (wpAny_newObj_type (wpAny_pure (wpAny_pure ⟨_, rfl, wpAny_pure h⟩)) htake))
    | exact wpAny_bind (wpAny_bind (m := Builtin.Tuple.tupleExact _) (wpAny_newObj_type (wpAny_pure ⟨_, rfl, wpAny_pure h⟩) htake))
end
section
variable {X : Cx}
def tRevT (K : PySem.W.Frag) (te : TE) : TE := fun σ H Q => te σ H fun x H1 => ∃ a xs, x = .ref a ∧ SqT K H1 a xs ∧ ∀ p, H1 p = none → Q (.ref p) (upd H1 p (.tup xs.reverse))
theorem pe_revT {e : Expr} {te : TE} {k : Nat} {p1 p2 p3 pos : Pos} (he : PE X e te) : PE X (.Subscript e (.Slice none none (some (.UnaryOp .USub (.Constant (.int 1) k p1) p2)) p3) pos) (tRevT X.K te) := by
  refine ⟨fun pins s σ H Q I h => ?_⟩
  refine Subscript_ (thn (he.run pins s σ H _ I h) fun v s1 ⟨x, H1, I1, r1, q1⟩ => ?_)
  obtain ⟨a, xs, ex, hx, q⟩ := q1
  subst ex
  cases r1
  have hst : PO X (some (.UnaryOp .USub (.Constant (.int 1) k p1) p2)) (tPart (tUn (rU fun i => .int (-i)) (tC (.int 1)))) := po_some (pe_un un_neg pe_int)
  refine wpAny_Slice (thn (po_none.run pins s1 σ H1 (fun o H2 => o = none ∧ H2 = H1) I1 ⟨rfl, rfl⟩) fun vl s2 ⟨l, H2, I2, pl, el, e2⟩ => ?_)
  subst el e2
  refine thn (po_none.run pins s2 σ H2 (fun o H3 => o = none ∧ H3 = H2) I2 ⟨rfl, rfl⟩) fun vu s3 ⟨u, H3, I3, pu, eu, e3⟩ => ?_
  subst eu e3
  refine thn (hst.run pins s3 σ H3 (fun o H4 => o = some (-1) ∧ H4 = H3) I3 ⟨1, rfl, -1, rfl, rfl, rfl⟩) fun vs s4 ⟨o, H4, I4, ps, eo, e4⟩ => ?_
  subst eo e4
  have I5 : Inv X pins σ H4 { s4 with heap := s4.heap.push { cls := .type "slice", data := .fields #[vl, vu, vs] } } := I4.kept (t' := s4.toks) fun b ob q => Heap.get?_push_of_some _ q
  obtain ⟨its, r, ht, hz⟩ := I5.tuple hx
  have hlen := r.length
  show wpAny (model X.prog X.w) X.A (subscriptTail e (.Slice none none (some (.UnaryOp .USub (.Constant (.int 1) k p1) p2)) p3) (.ref a) (.ref s4.heap.objs.size)) (EP X pins σ Q) X.xe { s4 with heap := s4.heap.push { cls := .type "slice", data := .fields #[vl, vu, vs] } }
  cases pl
  cases pu
  cases ps with
  | int _ t =>
    refine tail_any (ops := [.ref a, .ref s4.heap.objs.size]) ht.typeIs PyProof.Rows.slot_tuple_getitem.lookup ?_ (by with_unfolding_all rfl)
    refine getItem_tuple_rev ht (Heap.IsSliceOf.new _ .none .none (.int (-1) t)) ?_ (by rw [List.size_toArray]; omega)
    refine ⟨.ref _, _, I5.laid (t' := s4.toks) (o := .tup xs.reverse) (fun b ob q => Heap.get?_push_of_some _ q) (Nat.le_refl _) ?_, rfl, q _ (I5.hok.fresh (Nat.le_refl _))⟩
    exact ⟨by rw [List.length_reverse]; exact hz, its.reverse, r.reverse, IsTup.new _ _⟩
end
theorem rps_rev {K : PySem.W.Frag} {H : Hp} : ∀ {vs : List V} {ds : List PyData}, Rps K H vs ds → Rps K H vs.reverse ds.reverse
  | _, _, .nil => .nil
  | _, _, .cons r t => by
    rw [List.reverse_cons, List.reverse_cons]
    exact (rps_rev t).app (.one r)
theorem dv_revT {W : Wd} {K : PySem.W.Frag} {σ : L2.St} {H : Hp} {te : TE} {ds : List PyData} (h : EvD W K te σ H (.tuple ds)) : EvD W K (tRevT K te) σ H (.tuple ds.reverse) := fun b H1 i e Q g => h b H1 i e _ fun v H2 i2 r2 rp => by
  obtain ⟨a, xs, rfl, hs, rs⟩ := rp_tup rp
  refine ⟨a, xs, rfl, ex_t hid_ex hs, fun p hp => ?_⟩
  obtain ⟨i5, r5, rp5⟩ := seq_new i2 hp (rps_rev rs)
  exact g _ _ i5 (W.trans r2 r5) rp5
end Qe
set_option maxRecDepth 100000
set_option maxHeartbeats 2000000
/-! A tuple times one: itself. -/
namespace Qr
open PySem PySem.Spec PyProof.Rows L2
theorem tuple_mul1 (l : Addr) (items : Array Value) (n : Nat) (dd : Option Addr) (sl : Array (Option Value)) (u : Tok) :
    Meets (Builtin.«tuple.__mul__» ⟨[.ref l, .int 1 u], []⟩) (fun _ R s => s.heap.get? l = some { cls := .type "tuple", dict := dd, data := .seq items n, slots := sl } ∧ R (.ok (.ret (Value.ref l))) s) :=
  .of_wp fun prog w A R s h => by
    obtain ⟨hp, g, d, tk, os⟩ := s
    obtain ⟨hl, h⟩ := h
    have f1 := AutoSeq1.idx_int
    have c0 : (decide ((1 : Int) < -(2 ^ 63)) || decide ((1 : Int) ≥ 2 ^ 63)) = false := by decide
    have c1 : (items.isEmpty || ((1 : Int) == 1)) = true := by simp
    wp_walk using wpAny_loadPart' hl
    repeat (first
      | (refine wpAny_ite_false (decide_eq_false (by rw [c0]; exact Bool.false_ne_true)) ?_; wp_walk using wpAny_loadPart' hl)
      | (refine wpAny_ite_true (decide_eq_true c1) ?_; wp_walk using wpAny_loadPart' hl))
    all_goals first | exact ⟨_, rfl, h⟩ | skip
def rRep1 (K : PySem.W.Frag) : R2 := fun x y H Q => ∃ l xs, x = .ref l ∧ y = .int 1 ∧ SqT K H l xs ∧ Q (.ref l) H
theorem op_rep1 {X : Cx} : OpR X (binaryOp .Mult) (rRep1 X.K) := by
  intro pins s σ H x y v u Q I rx ry h
  obtain ⟨l, xs, rfl, rfl, hT, q⟩ := h
  cases rx
  obtain ⟨t, rfl⟩ := ry
  obtain ⟨its, r, ⟨⟨cls, dd, data, sl⟩, ho, hc, n, hd⟩, hs⟩ := I.tuple hT
  simp only at hc hd
  subst hc hd
  refine wpAny_binaryOp_repeat_ref (T := "tuple") (U := "int") (by decide) ⟨_, ho, rfl⟩ (fun s' => typeIs_int s' 1 t) noFill_tuple_mul F.fills_int_mul F.slot_int_rmul repeat_tuple F.slot_int_index.lookup
    (call_meets F.slot_int_rmul (typeIs_int s 1 t) F.entry_int_rmul (F.args_int_rmul_2 _ _) (int_rmul_tuple 1 t l its.toArray n dd sl)
      ⟨ho, rfl, ⟨_, ho, rfl⟩, call_meets F.slot_tuple_mul ⟨_, ho, rfl⟩ F.entry_tuple_mul (F.args_tuple_mul_2 _ _) (tuple_mul1 l its.toArray n dd sl t) ⟨ho, ?_⟩⟩)
  exact ⟨.ref l, H, I, rfl, q⟩
/-- a tuple times a number from one on -/
def rRepA (K : PySem.W.Frag) : R2 := fun x y H Q => rRep1 K x y H Q ∨ rRepT K x y H Q
theorem op_repA {X : Cx} : OpR X (binaryOp .Mult) (rRepA X.K) := fun pins s σ H x y v u Q I rx ry h => h.elim (op_rep1 pins s σ H x y v u Q I rx ry) (op_repT pins s σ H x y v u Q I rx ry)
end Qr
set_option maxRecDepth 100000
set_option maxHeartbeats 4000000
/-! The program's tests of words and schemas. -/
namespace Qt
open PySem PySem.Spec PyProof.Rows L2 Evl Qd Qe
open C8 (Cal pe_c)
local macro_rules | `(tactic| walk_at "r2s") => `(tactic| first
    | exact r2_I0b | exact r2_I0 | exact r2_eqI | exact r2_neI | exact r2_eqS | exact r2_neS | exact r2_eqB | exact r2_neB | exact r2_ltS | exact r2_inSign | exact r2_notInSign
    | exact r2_ixT rfl | exact r2_ixL rfl | exact r2_isN | exact r2_notN | exact r2_isBl)
local macro_rules | `(tactic| walk_at "dvs") => `(tactic| first
    | exact dv_int | exact dv_str | exact dv_bl | exact dv_non
    | (refine' ds_var ?hS ?hE; (case hS => assumption); (case hE => exact rfl))
    | (refine' dv_isa ?hT ?hA; (case hT => decide); (case hA => walk_at "dvs"))
    | (refine' dv_cb (da_cons ?hA da_nil) ?hR; (case hA => walk_at "dvs"); (case hR => first | exact ra_lenT | exact ra_lenL | exact ra_lenS (by assumption) | exact ra_all))
    | (refine' dv_op ?hA ?hB ?hR; (case hA => walk_at "dvs"); (case hB => walk_at "dvs"); (case hR => walk_at "r2s"))
    | (refine' dv_call (da_cons ?hA da_nil) (ra_sp ?hO); (case hA => walk_at "dvs"); (case hO => assumption)))
theorem b_isinstance : bootBuiltins "isinstance" = some (.builtin "isinstance") := by decide +kernel
theorem b_all : bootBuiltins "all" = some (.builtin "all") := by decide +kernel
theorem b_abs : bootBuiltins "abs" = some (.builtin "abs") := by decide +kernel
theorem b_min : bootBuiltins "min" = some (.builtin "min") := by decide +kernel
theorem b_sorted : bootBuiltins "sorted" = some (.builtin "sorted") := by decide +kernel
def abc : Str := "abcdefghijklmnopqrstuvwxyz"
def keptS : List Str := ["and", "both", "either", "is", "keep", "of", "or", "same"]
/-- what the top has left: built-ins as they were, the constants -/
structure Top (K : PySem.W.Frag) (mg : Str → Option Value) : Prop where
  isinstance : mg "isinstance" = none
  len : mg "len" = none
  all : mg "all" = none
  str : mg "str" = none
  int : mg "int" = none
  bool : mg "bool" = none
  tuple : mg "tuple" = none
  list : mg "list" = none
  dict : mg "dict" = none
  set : mg "set" = none
  zip : mg "zip" = none
  abs : mg "abs" = none
  min : mg "min" = none
  range : mg "range" = none
  sorted : mg "sorted" = none
  letters : ∃ t, mg "LETTERS" = some (.str abc t)
  width : ∃ t, mg "MOST_WIDTH" = some (.int 3 t)
  tables : ∃ t, mg "MOST_TABLES" = some (.int 3 t)
  names : ∃ t, mg "MOST_NAMES" = some (.int 2 t)
  kept : ∃ a, mg "KEPT" = some (.ref a) ∧ ∀ H, SqT K H a (keptS.map V.str)
section
variable {X : Cx}
theorem pe_gstr {x z : Str} {t : Tok} {pos : Pos} (hg : Gl X x) (hm : X.mg x = some (.str z t)) (hd : (x == ("__debug__" : Str)) = false := by decide) : PE X (.Name x pos) (tC (.str z)) := pe_glob hg hm ⟨t, rfl⟩ hd
theorem pe_gint {x : Str} {z : Int} {t : Tok} {pos : Pos} (hg : Gl X x) (hm : X.mg x = some (.int z t)) (hd : (x == ("__debug__" : Str)) = false := by decide) : PE X (.Name x pos) (tC (.int z)) := pe_glob hg hm ⟨t, rfl⟩ hd
theorem pe_gref {x : Str} {a : Addr} {pos : Pos} (hg : Gl X x) (hm : X.mg x = some (.ref a)) (hd : (x == ("__debug__" : Str)) = false := by decide) : PE X (.Name x pos) (tC (.ref a)) := pe_glob hg hm (show RelV (.ref a) (.ref a) from rfl) hd
theorem pe_ty {x : Str} {T : String} {pos : Pos} (hg : Gl X x) (hm : X.mg x = none) (hv : bootBuiltins x = some (.type T)) (hn : x ≠ "__name__" := by decide) (hd : (x == ("__debug__" : Str)) = false := by decide) : PE X (.Name x pos) (tC (.ty T)) := pe_bltn hg hm hv (show RelV (.ty T) (.type T) from rfl) hn hd
end
theorem all_map_id {α : Type} (f : α → Bool) (xs : List α) : (xs.map f).all id = xs.all f := by
  rw [List.all_map]; rfl
theorem isA_str {d : PyData} (h : isA "str" d = true) : ∃ x, d = .str x := by
  cases d <;> first | exact ⟨_, rfl⟩ | (simp [isA, isN, tyName] at h)
theorem isA_tup {d : PyData} (h : isA "tuple" d = true) : ∃ x, d = .tuple x := by
  cases d <;> first | exact ⟨_, rfl⟩ | (simp [isA, isN, tyName] at h)
theorem isA_int {d : PyData} (h : isA "int" d = true) : (∃ x, d = .int x) ∨ ∃ x, d = .bool x := by
  cases d <;> first | exact .inl ⟨_, rfl⟩ | exact .inr ⟨_, rfl⟩ | (simp [isA, isN, tyName] at h)
/-- one argument, small -/
def ok1 (ds : List PyData) : Prop := ∃ d, ds = [d] ∧ sm d = true
theorem ok1_mk {d : PyData} (h : sm d = true) : ok1 [d] := ⟨d, rfl, h⟩
/-! ### what they tell -/
def isWordS (x : Str) : Bool := decide (1 ≤ (x.length : Int)) && decide ((x.length : Int) ≤ 8) && (x.cps.toList.all fun c => decide (c ∈ abc.cps.toList))
def isWordD : PyData → Bool
  | .str x => isWordS x
  | _ => false
def isWholeD : PyData → Bool
  | .int _ => true
  | _ => false
def isFreeD (d : PyData) : Bool := isWordD d && !strIn d keptS
def upto3 : PyData → Bool
  | .int i => decide (1 ≤ i) && decide (i ≤ 3)
  | _ => false
def pairOk : PyData → Bool
  | .tuple [w, n] => isFreeD w && upto3 n
  | _ => false
def strS : PyData → Str
  | .str x => x
  | _ => ""
def fstS : PyData → Str
  | .tuple (.str x :: _) => x
  | _ => ""
def asc (f : PyData → Str) (ds : List PyData) : Bool := (ds.zip (ds.drop 1)).all fun p => decide ((f p.1).cps.toList < (f p.2).cps.toList)
def tablesOk : PyData → Bool
  | .tuple ps => decide (1 ≤ (ps.length : Int)) && decide ((ps.length : Int) ≤ 3) && ps.all pairOk && asc fstS ps
  | _ => false
def namesOk : PyData → Bool
  | .tuple ns => decide ((ns.length : Int) ≤ 2) && ns.all isFreeD && asc strS ns
  | _ => false
def schemaOk : PyData → Bool
  | .tuple [.str n, t, m] => decide (n = "schema") && tablesOk t && namesOk m
  | _ => false
section
variable {P : Program} {w : World} {K : PySem.W.Frag} {mg : Str → Option Value} {base : Heap}
/-- a test: small data in, a bool out -/
abbrev spB (K : PySem.W.Frag) (g : PyData → Bool) : Sp := spP K ok1 fun ds => .bool (g (ds.getD 0 .none))
theorem rb {g : PyData → Bool} {d : PyData} {W : Wd} {E : XK} (h : sm d = true) : RaD W K (fun vs H Q => spB K g vs H Q E) [d] (.bool (g d)) := ra_sp (ok1_mk h)
abbrev names_is_word : List Str := ["value", "letter"]
theorem sc_is_word : FnScope names_is_word ["value"] (defScope s_is_word) := ⟨rfl, rfl, rfl, by decide +kernel, rfl, by decide +kernel, by decide +kernel⟩
theorem ok_is_word {f : Addr} {fd : FuncData} (F : Fun K "is_word" "is_word" s_is_word f fd) (T : Top K mg) : FnOk P w K mg base CX0 1 f fd ["value"] (spB K isWordD) := by
  obtain ⟨tl, h_LETTERS⟩ := T.letters
  refine fn_pure F sc_is_word (fun ds h => by obtain ⟨d, rfl, _⟩ := h; rfl) (by decide) fun cdv A outer s H E hr => ⟨_, (pss_one (ps_ret (pe_and (pe_callB call_isi (by rfl) T.isinstance b_isinstance (pa_cons (pv 0) (pa_cons (pe_ty (by rfl) T.str boot_str) pa_nil))) (pe_and (pe_chain op_le op_le pe_int (pe_callB call_len (by rfl) T.len boot_len (pa_cons (pv 0) pa_nil)) pe_int) (pe_one (pe_callB (cr_all rfl) (by rfl) T.all b_all (pa_cons (pe_lc (own := [("letter", 1)]) (g := gName 1) (tt := tYes) rfl sc_is_word.nd (pi_str (pv 0)) (blkOk_by (N := names_is_word) (sc := defScope s_is_word) (by decide +kernel)) (fun _ _ _ _ _ => (pg_name (i := 1) sc_is_word.nd rfl (by first | exact .inl rfl | exact .inr rfl))) (fun _ _ _ _ _ => pts_nil) (fun _ _ _ _ _ => (pe_cmpR op_in_sign (pv 1) (pe_gstr (by rfl) h_LETTERS) rfl))) pa_nil))))))), ?_⟩
  rintro W ds σ Q ⟨d, rfl, hd⟩ i S q
  refine qs_ret i (EvD.is (dv_andV (k' := isWordD d) (dv_isa (by decide) (ds_var S rfl)) fun h => ?_) ?_) fun v H1 _ r rv => q v H1 r rv
  · obtain ⟨x, rfl⟩ := isA_str h
    have hx : x.length ≤ 1000 := sm_str hd
    refine EvD.is (dv_andV (dv_chain dv_int (by walk_at "dvs") r2_I0b (fun _ => dv_int) (fun _ => r2_I0b)) fun _ =>
      dv_cb (da_cons (EvD.is (ds_mapOf (W := W) S x.cps.toList sgn sgn_inj (fun c => .bool (decide (c ∈ abc.cps.toList))) (ei_str (ds_var S rfl)) ?_ fun W' c σ2 H' hd' S' => dv_op (ds_var S' rfl) dv_str r2_inSign) (e := .list ((x.cps.toList.map (fun c => decide (c ∈ abc.cps.toList))).map .bool)) ?_) da_nil) (ra_all (bs := x.cps.toList.map fun c => decide (c ∈ abc.cps.toList)))) ?_
    · exact Nat.le_trans hx (by decide)
    · rw [List.map_map]; rfl
    · rw [all_map_id]; rfl
  · cases d <;> simp [isA, isN, tyName, isWordD]
abbrev names_is_whole : List Str := ["value"]
theorem sc_is_whole : FnScope names_is_whole ["value"] (defScope s_is_whole) := ⟨rfl, rfl, rfl, by decide +kernel, rfl, by decide +kernel, by decide +kernel⟩
theorem ok_is_whole {f : Addr} {fd : FuncData} (F : Fun K "is_whole" "is_whole" s_is_whole f fd) (T : Top K mg) : FnOk P w K mg base CX0 1 f fd ["value"] (spB K isWholeD) := by
  refine fn_pure F sc_is_whole (fun ds h => by obtain ⟨d, rfl, _⟩ := h; rfl) (by decide) fun cdv A outer s H E hr => ⟨_, (pss_one (ps_ret (pe_and (pe_callB call_isi (by rfl) T.isinstance b_isinstance (pa_cons (pv 0) (pa_cons (pe_ty (by rfl) T.int boot_int) pa_nil))) (pe_one (pe_not (pe_callB call_isi (by rfl) T.isinstance b_isinstance (pa_cons (pv 0) (pa_cons (pe_ty (by rfl) T.bool boot_bool) pa_nil)))))))), ?_⟩
  rintro W ds σ Q ⟨d, rfl, hd⟩ i S q
  refine qs_ret i (EvD.is (dv_andV (by walk_at "dvs") fun h => dv_notV (by walk_at "dvs")) ?_) fun v H1 _ r rv => q v H1 r rv
  cases d <;> simp [isA, isN, tyName, isWholeD]
abbrev names_is_free_word : List Str := ["value"]
theorem sc_is_free_word : FnScope names_is_free_word ["value"] (defScope s_is_free_word) := ⟨rfl, rfl, rfl, by decide +kernel, rfl, by decide +kernel, by decide +kernel⟩
theorem ok_is_free_word {f : Addr} {fd : FuncData} (F : Fun K "is_free_word" "is_free_word" s_is_free_word f fd) (T : Top K mg) (c_is_word : Cal P w K mg base 1 "is_word" (spB K isWordD) []) : FnOk P w K mg base CX0 2 f fd ["value"] (spB K isFreeD) := by
  obtain ⟨ak, h_KEPT, hk⟩ := T.kept
  refine fn_pure F sc_is_free_word (fun ds h => by obtain ⟨d, rfl, _⟩ := h; rfl) (by decide) fun cdv A outer s H E hr => ⟨_, (pss_one (ps_ret (pe_and (pe_c c_is_word hr (by decide) (by rfl) (pa_cons (pv 0) pa_nil)) (pe_one (pe_cmpR op_notIn_seq (pv 0) (pe_gref (by rfl) h_KEPT) rfl))))), ?_⟩
  rintro W ds σ Q ⟨d, rfl, hd⟩ i S q
  refine qs_ret i (dv_andV (dv_call (da_cons (ds_var S rfl) da_nil) (rb hd)) fun h => ?_) fun v H1 _ r rv => q v H1 r rv
  refine dv_op (ds_var S rfl) (dv_c fun H => .tup (hk H) (Rps.of_strs _)) (r2_inS (neg := true) ?_ (.inl rfl))
  cases d <;> first | rfl | (simp [isWordD] at h)
/-- the answer at the end of a branch -/
theorem fin_b {g : PyData → Bool} {d : PyData} {W : Wd} {H H1 : Hp} {Q : VK} {v : V} {b : Bool} (q : ∀ (v : V) (H1 : Hp), W.R H H1 → Rp K (W.m H1) v (.bool (g (([d] : List PyData).getD 0 .none))) → Q v H1) (r : W.R H H1) (rv : Rp K (W.m H1) v (.bool b)) (e : g d = b) : Q v H1 := q v H1 r (by
  rw [show (([d] : List PyData).getD 0 .none) = d from rfl, e]
  exact rv)
theorem sm1 {a : PyData} {ps : List PyData} (h : sm (.tuple ps) = true) (hm : a ∈ ps) : sm a = true := (sm_tup h).2 a hm
abbrev names_is_table_pair : List Str := ["value"]
theorem sc_is_table_pair : FnScope names_is_table_pair ["value"] (defScope s_is_table_pair) := ⟨rfl, rfl, rfl, by decide +kernel, rfl, by decide +kernel, by decide +kernel⟩
theorem ok_is_table_pair {f : Addr} {fd : FuncData} (F : Fun K "is_table_pair" "is_table_pair" s_is_table_pair f fd) (T : Top K mg) (c_is_free_word : Cal P w K mg base 2 "is_free_word" (spB K isFreeD) []) (c_is_whole : Cal P w K mg base 1 "is_whole" (spB K isWholeD) []) :
    FnOk P w K mg base CX0 3 f fd ["value"] (spB K pairOk) := by
  obtain ⟨t3, h_MOST_WIDTH⟩ := T.width
  refine fn_pure F sc_is_table_pair (fun ds h => by obtain ⟨d, rfl, _⟩ := h; rfl) (by decide) fun cdv A outer s H E hr => by
    have hu := hu_room hr
    refine ⟨_, (pss_cons (ps_if (PW.pt (pw_or (pt_not (pt_val (pe_callB call_isi (by rfl) T.isinstance b_isinstance (pa_cons (pv 0) (pa_cons (pe_ty (by rfl) T.tuple boot_tuple) pa_nil))))) (pw_or (pt_cmpR (op_neU hu) (pe_callB call_len (by rfl) T.len boot_len (pa_cons (pv 0) pa_nil)) pe_int rfl) (pw_or1 (pt_not (pt_val (pe_c c_is_free_word hr (by decide) (by rfl) (pa_cons (pe_ix ix_seq (pv 0) pe_int (fun _ _ => rfl)) pa_nil)))))))) (pss_one (ps_ret pe_bl)) pss_nil)
  (pss_one (ps_ret (pe_and (pe_c c_is_whole hr (by decide) (by rfl) (pa_cons (pe_ix ix_seq (pv 0) pe_int (fun _ _ => rfl)) pa_nil)) (pe_one (pe_chain op_le op_le pe_int (pe_ix ix_seq (pv 0) pe_int (fun _ _ => rfl)) (pe_gint (by rfl) h_MOST_WIDTH))))))), ?_⟩
    rintro W ds σ Q ⟨d, rfl, hd⟩ i S q
    cases ht : isA "tuple" d with
    | false =>
      refine qs_when S i (EtD.is (dt_or (k' := true) (dt_not (dt_B (by walk_at "dvs"))) fun h => by rw [ht] at h; cases h) (by rw [ht]; rfl) (k' := true)) (fun _ H1 i1 r1 S1 => ?_) fun h => by cases h
      exact qs_ret i1 dv_bl fun v H2 _ r2 rv => fin_b q (W.trans r1 r2) rv (by cases d <;> first | rfl | (simp [isA, isN, tyName] at ht))
    | true =>
      obtain ⟨ps, rfl⟩ := isA_tup ht
      by_cases hl : ps.length = 2
      · match ps, hl with
        | [a, n], _ =>
          have ha : sm a = true := sm1 hd (by simp)
          have hn : sm n = true := sm1 hd (by simp)
          refine qs_when S i (EtD.is (dt_or (dt_not (dt_B (by walk_at "dvs"))) fun _ => dt_or (dt_test (by walk_at "dvs")) fun _ => dt_not (dt_B (dv_call (da_cons (by walk_at "dvs") da_nil) (rb ha)))) (k' := !isFreeD a) (by rw [ht]; simp)) (fun hf H1 i1 r1 S1 => ?_) fun hf H1 i1 r1 S1 => ?_
          · exact qs_ret i1 dv_bl fun v H2 _ r2 rv => fin_b q (W.trans r1 r2) rv (by simp at hf; simp [pairOk, hf])
          · refine qs_ret i1 (dv_andV (k' := upto3 n) (dv_call (da_cons (by walk_at "dvs") da_nil) (rb hn)) fun h => ?_) fun v H2 _ r2 rv => fin_b q (W.trans r1 r2) rv (by simp at hf; simp [pairOk, hf]; cases n <;> simp [isWholeD, upto3])
            cases n with
            | int k => exact dv_chain dv_int (by walk_at "dvs") r2_I0b (fun _ => dv_int) fun _ => r2_I0b
            | _ => simp [isWholeD] at h
      · refine qs_when S i (EtD.is (dt_or (dt_not (dt_B (by walk_at "dvs"))) fun _ => dt_or (k' := true) (dt_test (by walk_at "dvs")) fun h => by simp at h; omega) (k' := true) (by simp)) (fun _ H1 i1 r1 S1 => ?_) fun h => by cases h
        exact qs_ret i1 dv_bl fun v H2 _ r2 rv => fin_b q (W.trans r1 r2) rv (by match ps, hl with | [], _ => rfl | [_], _ => rfl | _ :: _ :: _ :: _, _ => rfl)
end
end Qt
set_option maxRecDepth 100000
set_option maxHeartbeats 4000000
/-! The program's tests of schemas. -/
namespace Qt
open PySem PySem.Spec PyProof.Rows L2 Evl Qd Qe
open C8 (Cal pe_c)
local macro_rules | `(tactic| walk_at "r2s") => `(tactic| first
    | exact r2_I0b | exact r2_I0 | exact r2_eqI | exact r2_neI | exact r2_eqS | exact r2_neS | exact r2_eqB | exact r2_neB | exact r2_ltS | exact r2_inSign | exact r2_notInSign
    | exact r2_ixT rfl | exact r2_ixL rfl | exact r2_isN | exact r2_notN | exact r2_isBl)
local macro_rules | `(tactic| walk_at "dvs") => `(tactic| first
    | exact dv_int | exact dv_str | exact dv_bl | exact dv_non
    | (refine' ds_var ?hS ?hE; (case hS => assumption); (case hE => exact rfl))
    | (refine' dv_isa ?hT ?hA; (case hT => decide); (case hA => walk_at "dvs"))
    | (refine' dv_cb (da_cons ?hA da_nil) ?hR; (case hA => walk_at "dvs"); (case hR => first | exact ra_lenT | exact ra_lenL | exact ra_lenS (by assumption) | exact ra_all))
    | (refine' dv_op ?hA ?hB ?hR; (case hA => walk_at "dvs"); (case hB => walk_at "dvs"); (case hR => walk_at "r2s"))
    | (refine' dv_call (da_cons ?hA da_nil) (ra_sp ?hO); (case hA => walk_at "dvs"); (case hO => assumption)))
theorem cut1 (ds : List PyData) : Qe.cutD ds (some 1) none = ds.drop 1 := by
  unfold Qe.cutD
  show (ds.drop (HT.sIx ds.length 0 (some ((1 : Nat) : Int)))).take (HT.sIx ds.length ds.length none - HT.sIx ds.length 0 (some ((1 : Nat) : Int))) = _
  rw [HT.sIx_nat, HT.sIx_none]
  by_cases h : 1 ≤ ds.length
  · rw [Nat.min_eq_left h, ← List.length_drop, List.take_length]
  · have : ds = [] := by cases ds with | nil => rfl | cons a t => simp at h
    subst this
    rfl
theorem free_str {d : PyData} (h : isFreeD d = true) : ∃ x, d = .str x := by
  cases d <;> first | exact ⟨_, rfl⟩ | (simp [isFreeD, isWordD] at h)
theorem pair_shape {d : PyData} (h : pairOk d = true) : ∃ x n, d = .tuple [.str x, .int n] := by
  unfold pairOk at h
  split at h
  · rw [Bool.and_eq_true] at h
    obtain ⟨x, rfl⟩ := free_str h.1
    rename_i n
    cases n <;> first | exact ⟨_, _, rfl⟩ | (simp [upto3] at h)
  · cases h
theorem zip_drop_mem {ps : List PyData} {a b : PyData} (h : (a, b) ∈ ps.zip (ps.drop 1)) : a ∈ ps ∧ b ∈ ps := by
  obtain ⟨h1, h2⟩ := List.of_mem_zip h
  exact ⟨h1, List.mem_of_mem_drop h2⟩
section
variable {P : Program} {w : World} {K : PySem.W.Frag} {mg : Str → Option Value} {base : Heap}
/-- all([g(x) for x in value]) -/
theorem dv_allB {W : Wd} {σ : L2.St} {H : Hp} {l : List (Option PyData)} {j : Nat} {wi : TI} {te : TE} {es : List PyData} {g : PyData → Bool} (S : Slots K (W.m H) σ l) (hi : EiD W K wi σ H es) (hl : es.length ≤ 50000)
    (he : ∀ (W' : Wd) d σ2 H', d ∈ es → Slots K (W'.m H') σ2 (l.set j (some d)) → EvD W' K te σ2 H' (.bool (g d))) : EvD W K (tCB (rAll K) (tCons (tLc wi (gName j) tYes te [j]) tNil)) σ H (.bool (es.all g)) := by
  refine EvD.is (dv_cb (da_cons (EvD.is (ds_map (W := W) S (fun d => .bool (g d)) hi hl he) (e := .list ((es.map g).map .bool)) ?_) da_nil) (ra_all (bs := es.map g))) ?_
  · rw [List.map_map]; rfl
  · rw [all_map_id]
theorem dv_allZ {W : Wd} {σ : L2.St} {H : Hp} {l : List (Option PyData)} {j1 j2 : Nat} {wi : TI} {te : TE} {as bs : List PyData} {g : PyData → PyData → Bool} (S : Slots K (W.m H) σ l) (hi : EiD W K wi σ H (zipD as bs)) (hl : as.length ≤ 50000)
    (he : ∀ (W' : Wd) d1 d2 σ2 H', (d1, d2) ∈ as.zip bs → Slots K (W'.m H') σ2 (((l.set j2 none).set j1 (some d1)).set j2 (some d2)) → EvD W' K te σ2 H' (.bool (g d1 d2))) :
    EvD W K (tCB (rAll K) (tCons (tLc wi (gTup K 2 (gCons (gName j1) (gCons (gName j2) gNil))) tYes te [j1, j2]) tNil)) σ H (.bool ((as.zip bs).all fun p => g p.1 p.2)) := by
  refine EvD.is (dv_cb (da_cons (EvD.is (ds_zip (W := W) S (fun a b => .bool (g a b)) hi hl he) (e := .list (((as.zip bs).map fun p => g p.1 p.2).map .bool)) ?_) da_nil) (ra_all (bs := (as.zip bs).map fun p => g p.1 p.2))) ?_
  · rw [List.map_map]; rfl
  · rw [all_map_id]
abbrev names_are_tables : List Str := ["value", "pair", "one", "other"]
theorem sc_are_tables : FnScope names_are_tables ["value"] (defScope s_are_tables) := ⟨rfl, rfl, rfl, by decide +kernel, rfl, by decide +kernel, by decide +kernel⟩
theorem ok_are_tables {f : Addr} {fd : FuncData} (F : Fun K "are_tables" "are_tables" s_are_tables f fd) (T : Top K mg) (c_is_table_pair : Cal P w K mg base 3 "is_table_pair" (spB K pairOk) []) :
    FnOk P w K mg base CX0 4 f fd ["value"] (spB K tablesOk) := by
  obtain ⟨t3, h_MOST_TABLES⟩ := T.tables
  refine fn_pure F sc_are_tables (fun ds h => by obtain ⟨d, rfl, _⟩ := h; rfl) (by decide) fun cdv A outer s H E hr => by
    have hu := hu_room hr
    refine ⟨_, (pss_cons (ps_if (PW.pt (pw_or (pt_not (pt_val (pe_callB call_isi (by rfl) T.isinstance b_isinstance (pa_cons (pv 0) (pa_cons (pe_ty (by rfl) T.tuple boot_tuple) pa_nil))))) (pw_or1 (pt_not (pt_chain op_le op_le pe_int (pe_callB call_len (by rfl) T.len boot_len (pa_cons (pv 0) pa_nil)) (pe_gint (by rfl) h_MOST_TABLES)))))) (pss_one (ps_ret pe_bl)) pss_nil)
  (pss_cons (ps_if (pt_not (pt_val (pe_callB (cr_all rfl) (by rfl) T.all b_all (pa_cons (pe_lc (own := [("pair", 1)]) (g := gName 1) (tt := tYes) rfl sc_are_tables.nd (pi_tup (pv 0)) (blkOk_by (N := names_are_tables) (sc := defScope s_are_tables) (by decide +kernel)) (fun _ _ _ _ _ => (pg_name (i := 1) sc_are_tables.nd rfl (by first | exact .inl rfl | exact .inr rfl))) (fun _ _ _ _ _ => pts_nil) (fun _ _ _ _ _ => (pe_c c_is_table_pair hr (by decide) (by rfl) (pa_cons (pv 1) pa_nil)))) pa_nil)))) (pss_one (ps_ret pe_bl)) pss_nil)
  (pss_one (ps_ret (pe_callB (cr_all rfl) (by rfl) T.all b_all (pa_cons (pe_lc (own := [("one", 2), ("other", 3)]) (g := gTup K 2 (gCons (gName 2) (gCons (gName 3) gNil))) (tt := tYes) rfl sc_are_tables.nd (RZ.pi_zipA (by rfl) T.zip (pa_cons (pv 0) (pa_cons (pe_slice sl_tupA (pv 0) (po_some pe_int) po_none) pa_nil))) (blkOk_by (N := names_are_tables) (sc := defScope s_are_tables) (by decide +kernel)) (fun _ _ _ _ _ => (pg_tup rfl (pgs_cons (pg_name (i := 2) sc_are_tables.nd rfl (by first | exact .inl rfl | exact .inr rfl)) (pgs_cons (pg_name (i := 3) sc_are_tables.nd rfl (by first | exact .inl rfl | exact .inr rfl)) pgs_nil)))) (fun _ _ _ _ _ => pts_nil) (fun _ _ _ _ _ => (pe_cmpR op_lt_str (pe_ix (ixK (K := K) rfl) (pv 2) pe_int (fun _ _ => rfl)) (pe_ix (ixK (K := K) rfl) (pv 3) pe_int (fun _ _ => rfl)) rfl))) pa_nil)))))), ?_⟩
    rintro W ds σ Q ⟨d, rfl, hd⟩ i S q
    cases ht : isA "tuple" d with
    | false =>
      refine qs_when S i (EtD.is (dt_or (k' := true) (dt_not (dt_B (by walk_at "dvs"))) fun h => by rw [ht] at h; cases h) (by rw [ht]; rfl) (k' := true)) (fun _ H1 i1 r1 S1 => ?_) fun h => by cases h
      exact qs_ret i1 dv_bl fun v H2 _ r2 rv => fin_b q (W.trans r1 r2) rv (by cases d <;> first | rfl | (simp [isA, isN, tyName] at ht))
    | true =>
      obtain ⟨ps, rfl⟩ := isA_tup ht
      have hs := sm_tup hd
      refine qs_when S i (EtD.is (dt_or (dt_not (dt_B (by walk_at "dvs"))) fun _ => dt_not (dt_test (dv_chain dv_int (by walk_at "dvs") r2_I0b (fun _ => dv_int) fun _ => r2_I0b))) (k' := !(decide (1 ≤ (ps.length : Int)) && decide ((ps.length : Int) ≤ 3))) (by rw [ht]; simp)) (fun hf H1 i1 r1 S1 => ?_) fun hf H1 i1 r1 S1 => ?_
      · exact qs_ret i1 dv_bl fun v H2 _ r2 rv => fin_b q (W.trans r1 r2) rv (by rw [Bool.not_eq_true'] at hf; simp only [tablesOk, hf, Bool.false_and])
      · rw [Bool.not_eq_false'] at hf
        refine qs_when S1 i1 (dt_not (dt_B (dv_allB S1 (ei_tup (by walk_at "dvs")) (by omega) (g := pairOk) fun W' d σ2 H' hm S' => dv_call (da_cons (by walk_at "dvs") da_nil) (rb (hs.2 d hm))))) (fun ha H2 i2 r2 S2 => ?_) fun ha H2 i2 r2 S2 => ?_
        · exact qs_ret i2 dv_bl fun v H3 _ r3 rv => fin_b q (W.trans r1 (W.trans r2 r3)) rv (by rw [Bool.not_eq_true'] at ha; simp only [tablesOk, hf, ha, Bool.false_and, Bool.and_false])
        · rw [Bool.not_eq_false'] at ha
          refine qs_ret i2 (dv_allZ S2 (ei_zipT (da_cons (by walk_at "dvs") (da_cons (EvD.is (dv_slT (by walk_at "dvs") (fun _ => en_int) fun _ => en_none) (by rw [cut1])) da_nil))) (by omega) (g := fun a b => decide ((fstS a).cps.toList < (fstS b).cps.toList)) fun W' d1 d2 σ2 H' hm S' => ?_)
            fun v H3 _ r3 rv => fin_b q (W.trans r1 (W.trans r2 r3)) rv (by simp only [tablesOk, hf, ha, Bool.true_and]; rfl)
          obtain ⟨m1, m2⟩ := zip_drop_mem hm
          obtain ⟨x1, n1, rfl⟩ := pair_shape (List.all_eq_true.mp ha _ m1)
          obtain ⟨x2, n2, rfl⟩ := pair_shape (List.all_eq_true.mp ha _ m2)
          walk_at "dvs"
abbrev names_are_names : List Str := ["value", "word", "one", "other"]
theorem sc_are_names : FnScope names_are_names ["value"] (defScope s_are_names) := ⟨rfl, rfl, rfl, by decide +kernel, rfl, by decide +kernel, by decide +kernel⟩
theorem ok_are_names {f : Addr} {fd : FuncData} (F : Fun K "are_names" "are_names" s_are_names f fd) (T : Top K mg) (c_is_free_word : Cal P w K mg base 2 "is_free_word" (spB K isFreeD) []) :
    FnOk P w K mg base CX0 3 f fd ["value"] (spB K namesOk) := by
  obtain ⟨t3, h_MOST_NAMES⟩ := T.names
  refine fn_pure F sc_are_names (fun ds h => by obtain ⟨d, rfl, _⟩ := h; rfl) (by decide) fun cdv A outer s H E hr => by
    have hu := hu_room hr
    refine ⟨_, (pss_cons (ps_if (PW.pt (pw_or (pt_not (pt_val (pe_callB call_isi (by rfl) T.isinstance b_isinstance (pa_cons (pv 0) (pa_cons (pe_ty (by rfl) T.tuple boot_tuple) pa_nil))))) (pw_or (pt_cmpR op_gt (pe_callB call_len (by rfl) T.len boot_len (pa_cons (pv 0) pa_nil)) (pe_gint (by rfl) h_MOST_NAMES) rfl) (pw_or1 (pt_not (pt_val (pe_callB (cr_all rfl) (by rfl) T.all b_all (pa_cons (pe_lc (own := [("word", 1)]) (g := gName 1) (tt := tYes) rfl sc_are_names.nd (pi_tup (pv 0)) (blkOk_by (N := names_are_names) (sc := defScope s_are_names) (by decide +kernel)) (fun _ _ _ _ _ => (pg_name (i := 1) sc_are_names.nd rfl (by first | exact .inl rfl | exact .inr rfl))) (fun _ _ _ _ _ => pts_nil) (fun _ _ _ _ _ => (pe_c c_is_free_word hr (by decide) (by rfl) (pa_cons (pv 1) pa_nil)))) pa_nil)))))))) (pss_one (ps_ret pe_bl)) pss_nil)
  (pss_one (ps_ret (pe_callB (cr_all rfl) (by rfl) T.all b_all (pa_cons (pe_lc (own := [("one", 2), ("other", 3)]) (g := gTup K 2 (gCons (gName 2) (gCons (gName 3) gNil))) (tt := tYes) rfl sc_are_names.nd (RZ.pi_zipA (by rfl) T.zip (pa_cons (pv 0) (pa_cons (pe_slice sl_tupA (pv 0) (po_some pe_int) po_none) pa_nil))) (blkOk_by (N := names_are_names) (sc := defScope s_are_names) (by decide +kernel)) (fun _ _ _ _ _ => (pg_tup rfl (pgs_cons (pg_name (i := 2) sc_are_names.nd rfl (by first | exact .inl rfl | exact .inr rfl)) (pgs_cons (pg_name (i := 3) sc_are_names.nd rfl (by first | exact .inl rfl | exact .inr rfl)) pgs_nil)))) (fun _ _ _ _ _ => pts_nil) (fun _ _ _ _ _ => (pe_cmpR op_lt_str (pv 2) (pv 3) rfl))) pa_nil))))), ?_⟩
    rintro W ds σ Q ⟨d, rfl, hd⟩ i S q
    cases ht : isA "tuple" d with
    | false =>
      refine qs_when S i (EtD.is (dt_or (k' := true) (dt_not (dt_B (by walk_at "dvs"))) fun h => by rw [ht] at h; cases h) (by rw [ht]; rfl) (k' := true)) (fun _ H1 i1 r1 S1 => ?_) fun h => by cases h
      exact qs_ret i1 dv_bl fun v H2 _ r2 rv => fin_b q (W.trans r1 r2) rv (by cases d <;> first | rfl | (simp [isA, isN, tyName] at ht))
    | true =>
      obtain ⟨ps, rfl⟩ := isA_tup ht
      have hs := sm_tup hd
      refine qs_when S i (EtD.is (dt_or (dt_not (dt_B (by walk_at "dvs"))) fun _ => dt_or (dt_test (by walk_at "dvs")) fun _ => dt_not (dt_B (dv_allB S (ei_tup (by walk_at "dvs")) (by omega) (g := isFreeD) fun W' d σ2 H' hm S' => dv_call (da_cons (by walk_at "dvs") da_nil) (rb (hs.2 d hm)))))
        (k' := !(decide ((ps.length : Int) ≤ 2) && ps.all isFreeD)) (by rw [ht]; rw [Bool.not_and, ← decide_not, show decide ((2 : Int) < ps.length) = decide (¬ (ps.length : Int) ≤ 2) from decide_eq_decide.mpr (by omega)]; rfl)) (fun hf H1 i1 r1 S1 => ?_) fun hf H1 i1 r1 S1 => ?_
      · exact qs_ret i1 dv_bl fun v H2 _ r2 rv => fin_b q (W.trans r1 r2) rv (by rw [Bool.not_eq_true'] at hf; simp only [namesOk, hf, Bool.false_and])
      · rw [Bool.not_eq_false'] at hf
        have ha := (Bool.and_eq_true_iff.mp hf).2
        refine qs_ret i1 (dv_allZ S1 (ei_zipT (da_cons (by walk_at "dvs") (da_cons (EvD.is (dv_slT (by walk_at "dvs") (fun _ => en_int) fun _ => en_none) (by rw [cut1])) da_nil))) (by omega) (g := fun a b => decide ((strS a).cps.toList < (strS b).cps.toList)) fun W' d1 d2 σ2 H' hm S' => ?_)
            fun v H3 _ r3 rv => fin_b q (W.trans r1 r3) rv (by simp only [namesOk, hf, Bool.true_and]; rfl)
        obtain ⟨m1, m2⟩ := zip_drop_mem hm
        obtain ⟨x1, rfl⟩ := free_str (List.all_eq_true.mp ha _ m1)
        obtain ⟨x2, rfl⟩ := free_str (List.all_eq_true.mp ha _ m2)
        walk_at "dvs"
abbrev names_is_schema : List Str := ["value"]
theorem sc_is_schema : FnScope names_is_schema ["value"] (defScope s_is_schema) := ⟨rfl, rfl, rfl, by decide +kernel, rfl, by decide +kernel, by decide +kernel⟩
theorem ok_is_schema {f : Addr} {fd : FuncData} (F : Fun K "is_schema" "is_schema" s_is_schema f fd) (T : Top K mg) (c_are_tables : Cal P w K mg base 4 "are_tables" (spB K tablesOk) []) (c_are_names : Cal P w K mg base 3 "are_names" (spB K namesOk) []) :
    FnOk P w K mg base CX0 5 f fd ["value"] (spB K schemaOk) := by
  refine fn_pure F sc_is_schema (fun ds h => by obtain ⟨d, rfl, _⟩ := h; rfl) (by decide) fun cdv A outer s H E hr => by
    have hu := hu_room hr
    refine ⟨_, (pss_cons (ps_if (PW.pt (pw_or (pt_not (pt_val (pe_callB call_isi (by rfl) T.isinstance b_isinstance (pa_cons (pv 0) (pa_cons (pe_ty (by rfl) T.tuple boot_tuple) pa_nil))))) (pw_or (pt_cmpR (op_neU hu) (pe_callB call_len (by rfl) T.len boot_len (pa_cons (pv 0) pa_nil)) pe_int rfl) (pw_or (pt_not (pt_val (pe_callB call_isi (by rfl) T.isinstance b_isinstance (pa_cons (pe_ix ix_seq (pv 0) pe_int (fun _ _ => rfl)) (pa_cons (pe_ty (by rfl) T.str boot_str) pa_nil))))) (pw_or1 (pt_cmpR (op_neU hu) (pe_ix ix_seq (pv 0) pe_int (fun _ _ => rfl)) pe_str rfl)))))) (pss_one (ps_ret pe_bl)) pss_nil)
  (pss_one (ps_ret (pe_and (pe_c c_are_tables hr (by decide) (by rfl) (pa_cons (pe_ix ix_seq (pv 0) pe_int (fun _ _ => rfl)) pa_nil)) (pe_one (pe_c c_are_names hr (by decide) (by rfl) (pa_cons (pe_ix ix_seq (pv 0) pe_int (fun _ _ => rfl)) pa_nil))))))), ?_⟩
    rintro W ds σ Q ⟨d, rfl, hd⟩ i S q
    cases ht : isA "tuple" d with
    | false =>
      refine qs_when S i (EtD.is (dt_or (k' := true) (dt_not (dt_B (by walk_at "dvs"))) fun h => by rw [ht] at h; cases h) (by rw [ht]; rfl) (k' := true)) (fun _ H1 i1 r1 S1 => ?_) fun h => by cases h
      exact qs_ret i1 dv_bl fun v H2 _ r2 rv => fin_b q (W.trans r1 r2) rv (by cases d <;> first | rfl | (simp [isA, isN, tyName] at ht))
    | true =>
      obtain ⟨ps, rfl⟩ := isA_tup ht
      by_cases hl : ps.length = 3
      · match ps, hl with
        | [n, a, b], _ =>
          have ha : sm a = true := sm1 hd (by simp)
          have hb : sm b = true := sm1 hd (by simp)
          refine qs_when S i (EtD.is (dt_or (dt_not (dt_B (by walk_at "dvs"))) fun _ => dt_or (dt_test (by walk_at "dvs")) fun _ => dt_or (dt_not (dt_B (by walk_at "dvs"))) fun h => dt_test (K := K) (k := !decide (strS n = "schema")) ?_) (k' := !(isA "str" n && decide (strS n = "schema"))) (by rw [ht]; simp)) (fun hf H1 i1 r1 S1 => ?_) fun hf H1 i1 r1 S1 => ?_
          · rw [Bool.not_eq_false'] at h
            obtain ⟨x, rfl⟩ := isA_str h
            walk_at "dvs"
          · exact qs_ret i1 dv_bl fun v H2 _ r2 rv => fin_b q (W.trans r1 r2) rv (by
              cases n with
              | str x =>
                have h2 : decide (x = "schema") = false := by
                  have h4 : (!(true && decide (x = "schema"))) = true := hf
                  rw [Bool.true_and, Bool.not_eq_true'] at h4
                  exact h4
                simp only [schemaOk, h2, Bool.false_and]
              | _ => rfl)
          · rw [Bool.not_eq_false', Bool.and_eq_true] at hf
            obtain ⟨x, rfl⟩ := isA_str hf.1
            refine qs_ret i1 (dv_andV (dv_call (da_cons (by walk_at "dvs") da_nil) (rb ha)) fun h => dv_call (da_cons (by walk_at "dvs") da_nil) (rb hb)) fun v H2 _ r2 rv => fin_b q (W.trans r1 r2) rv (by
              have h2 : decide (x = "schema") = true := hf.2
              simp only [schemaOk, h2, Bool.true_and])
      · refine qs_when S i (EtD.is (dt_or (dt_not (dt_B (by walk_at "dvs"))) fun _ => dt_or (k' := true) (dt_test (by walk_at "dvs")) fun h => by simp at h; omega) (k' := true) (by simp)) (fun _ H1 i1 r1 S1 => ?_) fun h => by cases h
        exact qs_ret i1 dv_bl fun v H2 _ r2 rv => fin_b q (W.trans r1 r2) rv (by match ps, hl with | [], _ => rfl | [x], _ => cases x <;> rfl | [x, _], _ => cases x <;> rfl | x :: _ :: _ :: _ :: _, _ => cases x <;> rfl)
end
end Qt
set_option maxRecDepth 100000
set_option maxHeartbeats 4000000
/-! The program's functions that raise. -/
namespace Qt
open PySem PySem.Spec PyProof.Rows L2 Evl Qd Qe
open C8 (Cal pe_c)
local macro_rules | `(tactic| walk_at "r2s") => `(tactic| first
    | exact r2_I0b | exact r2_I0 | exact r2_eqI | exact r2_neI | exact r2_eqS | exact r2_neS | exact r2_eqB | exact r2_neB | exact r2_ltS | exact r2_inSign | exact r2_notInSign
    | exact r2_ixT rfl | exact r2_ixL rfl | exact r2_isN | exact r2_notN | exact r2_isBl)
local macro_rules | `(tactic| walk_at "dvs") => `(tactic| first
    | exact dv_int | exact dv_str | exact dv_bl | exact dv_non
    | (refine' ds_var ?hS ?hE; (case hS => assumption); (case hE => exact rfl))
    | (refine' dv_isa ?hT ?hA; (case hT => decide); (case hA => walk_at "dvs"))
    | (refine' dv_cb (da_cons ?hA da_nil) ?hR; (case hA => walk_at "dvs"); (case hR => first | exact ra_lenT | exact ra_lenL | exact ra_lenS (by assumption) | exact ra_all))
    | (refine' dv_op ?hA ?hB ?hR; (case hA => walk_at "dvs"); (case hB => walk_at "dvs"); (case hR => walk_at "r2s"))
    | (refine' dv_call (da_cons ?hA da_nil) (ra_sp ?hO); (case hA => walk_at "dvs"); (case hO => assumption)))
/-- an error class of the program's own -/
structure ErrC (K : PySem.W.Frag) (mg : Str → Option Value) (nm : Str) (C : Addr) : Prop where
  mgC : mg nm = some (.ref C)
  exc : PySem.W.excIn K C [.type "ValueError", .type "Exception", .type "BaseException", .type "object"] "ValueError.__new__" = true
  keep : PySem.W.keepIn K (.ref C) = true
  base : PySem.W.subIn K (.ref C) (.type "BaseException") = some true
  typ : PySem.W.typeIn K (.ref C) = some (.type "type")
/-- a def that may raise, by its name -/
structure CalX (P : Program) (w : World) (K : PySem.W.Frag) (mg : Str → Option Value) (base : Heap) (k : Nat) (x : Str) (sp : Sp) : Prop where
  ex : ∃ (f : Addr) (fd : FuncData) (ps : List Str), FnOk P w K mg base (L2.CX P w) k f fd ps sp ∧ mg x = some (.ref f) ∧ PySem.W.keepIn K (.ref f) = true ∧ Binds K fd ps []
section
variable {X : Cx} {x : Str} {p pos : Pos} {e : Expr} {es : List Expr} {t : TA} {sp : Sp} {k j : Nat} {E : XK}
theorem pe_cx (c : CalX X.prog X.w X.K X.mg X.base k x sp) (hr : Room j X.A) (hk : k ≤ j) (hg : Gl X x) (hx : Passes (L2.CX X.prog X.w) X E) (ha : PA X (e :: es) t)
    (hdb : (x == ("__debug__" : Str)) = false := by decide) (he : starEach (e :: es) X.env = (false, eval e X.env) :: starEach es X.env := by rfl) (hpl : (backTo pos (starEach es X.env)).any (·.1) = false := by rfl) :
    PE X (.Call (.Name x p) (e :: es) [] pos) (tCall sp [] E t) := by
  obtain ⟨f, fd, ps, F, hm, kp, b⟩ := c.ex
  exact pe_call F (hr.mono hk) hg hm kp b .nil hx ha hdb he hpl
end
/-- a promise on data, of a def that may raise: pre on the values, err the class -/
def spX (K : PySem.W.Frag) (pre : List V → Hp → List PyData → Prop) (ok : List PyData → Prop) (err : List PyData → Option Addr) (g : List PyData → PyData) : Sp := fun vs H Q E => ∃ (A : Addr → Prop) (ds : List PyData), (∀ a, A a → H a ≠ none) ∧ Rps K (hid A H) vs ds ∧ ok ds ∧ pre vs (hid A H) ds ∧
  (err ds = none → ∀ v H', Ex H H' → Rp K (hid A H') v (g ds) → Q v H') ∧ (∀ C, err ds = some C → ∀ H', Ex H H' → E (.ref C) none H')
section
variable {P : Program} {w : World} {K : PySem.W.Frag} {mg : Str → Option Value} {base : Heap}
theorem fn_X {pre : List V → Hp → List PyData → Prop} {ok : List PyData → Prop} {err : List PyData → Option Addr} {g : List PyData → PyData} {x qual : Str} {st : Stmt} {f : Addr} {fd : FuncData} {N ps : List Str} {k : Nat} (F : Fun K x qual st f fd) (S : FnScope N ps (defScope st)) (hok : ∀ ds, ok ds → ds.length = ps.length)
    (hbody : ∀ (cdv : Value) (A : Around) (outer : List Env) (s : Shared) (H : Hp) (E : XK), Room k (A.deeper (envOfC qual (defScope st) s.heap.objs.size f cdv)) →
      ∃ t, PSs (cxOf (L2.CX P w) P w K mg base N qual (defScope st) f cdv A outer s H E) (defBody st) t ∧
        ∀ (W : Wd) ds vs (Q : VK), ok ds → W.I 0 H → Rps K (W.m H) vs ds → pre vs (W.m H) ds → (err ds = none → ∀ v H1, W.R H H1 → Rp K (W.m H1) v (g ds) → Q v H1) →
          (∀ C, err ds = some C → ∀ H1, W.R H H1 → E (.ref C) none H1) → t { nx := fun _ H' => Q .non H', rt := Q } (L2.start N vs) H) :
    FnOk P w K mg base (L2.CX P w) (k + 1) f fd ps (spX K pre ok err g) := by
  refine F.okX S (fun vs H Q E h => ?_) (fun cdv A outer s H vs Q E hr h => ?_)
  · obtain ⟨B, ds, _, r, h, _⟩ := h
    rw [r.len]
    exact hok ds h
  · obtain ⟨B, ds, al, r, h, hp, q, q2⟩ := h
    obtain ⟨t, ht, hq⟩ := hbody cdv A outer s H E hr
    exact ⟨t, ht, hq (Wd.pure B) ds _ Q h al r hp (fun z v H1 e rv => q z v H1 e rv) fun C z H1 e => q2 C z H1 e⟩
/-- such a call as a statement -/
theorem q_callX {pre : List V → Hp → List PyData → Prop} {ok : List PyData → Prop} {err : List PyData → Option Addr} {g : List PyData → PyData} {W : Wd} {σ : L2.St} {H : Hp} {b : Nat} {ta : TA} {vs : List V} {ds : List PyData} {E : XK} {D : Ends} {tz : TS}
    (h : EvA ta σ (W.m H) vs) (i : W.I b H) (r : Rps K (W.m H) vs ds) (hok : ok ds) (hp : ∀ H1, W.R H H1 → pre vs (W.m H1) ds) (k : err ds = none → ∀ H1, W.I b H1 → W.R H H1 → tz D σ H1) (hx : ∀ C, err ds = some C → ∀ H1, W.R H H1 → E (.ref C) none H1) :
    tSeq (tDrop (tCall (spX K pre ok err g) [] E ta)) tz D σ H := h H hid_ex _ fun H1 e => by
  obtain ⟨r1, i1⟩ := W.new i e
  show spX K pre ok err g (vs ++ []) H1 _ E
  rw [List.append_nil]
  exact ⟨W.A, ds, fun a ha => W.alive i1 ha, r.mono (W.up i r1), hok, hp H1 r1, fun z v H2 e2 rv => by
    obtain ⟨r2, i2⟩ := W.new i1 e2
    exact k z H2 i2 (W.trans r1 r2), fun C z H2 e2 => by
    obtain ⟨r2, i2⟩ := W.new i1 e2
    exact hx C z H2 (W.trans r1 r2)⟩
/-! ### need_schema -/
def d0 (ds : List PyData) : PyData := ds.getD 0 .none
def d1 (ds : List PyData) : PyData := ds.getD 1 .none
def errS (CS : Addr) (ds : List PyData) : Option Addr := if schemaOk (d0 ds) = true then none else some CS
abbrev spNS (K : PySem.W.Frag) (CS : Addr) : Sp := spX K (fun _ _ _ => True) ok1 (errS CS) fun _ => .none
abbrev names_need_schema : List Str := ["schema"]
theorem sc_need_schema : FnScope names_need_schema ["schema"] (defScope s_need_schema) := ⟨rfl, rfl, rfl, by decide +kernel, rfl, by decide +kernel, by decide +kernel⟩
theorem ok_need_schema {f CS : Addr} {fd : FuncData} (F : Fun K "need_schema" "need_schema" s_need_schema f fd) (c_is_schema : Cal P w K mg base 5 "is_schema" (spB K schemaOk) []) (e_BadSchema : ErrC K mg "BadSchema" CS) :
    FnOk P w K mg base (L2.CX P w) 6 f fd ["schema"] (spNS K CS) := by
  refine fn_X F sc_need_schema (fun ds h => by obtain ⟨d, rfl, _⟩ := h; rfl) fun cdv A outer s H E hr => ⟨_, (pss_one (ps_if (pt_not (pt_val (pe_c c_is_schema hr (by decide) (by rfl) (pa_cons (pv 0) pa_nil)))) (pss_one (ps_raise rfl (takes_of rfl rfl rfl rfl) (pmk_own PySem.F.excBase_ValueError e_BadSchema.exc e_BadSchema.mgC e_BadSchema.keep (raises_own e_BadSchema.base e_BadSchema.typ) rfl))) pss_nil)), ?_⟩
  rintro W ds vs Q ⟨d, rfl, hd⟩ i r _ q qx
  have S := slots_start (N := names_need_schema) r (Nat.le_refl _)
  refine qs_last S i (dt_not (dt_B (dv_call (da_cons (by walk_at "dvs") da_nil) (rb hd)))) (fun h H1 i1 r1 S1 => ?_) fun h H1 i1 r1 S1 => ?_
  · exact qx CS (by rw [Bool.not_eq_true'] at h; show (if schemaOk d = true then none else some CS) = some CS; rw [h]; rfl) H1 r1
  · exact q (by rw [Bool.not_eq_false'] at h; show (if schemaOk d = true then none else some CS) = none; rw [h]; rfl) .non H1 r1 .non
/-! ### widths_of -/
def kvD : PyData → Key × V
  | .tuple [.str x, .int k] => (.inr x, .int k)
  | _ => (.inl 0, .non)
/-- the table's widths -/
def wids (ps : List PyData) : List (Key × V) := mergeK [] (ps.map kvD)
/-- a schema whose tuple of tables is known to the object -/
def FzS (K : PySem.W.Frag) (H : Hp) (v : V) (ps : List PyData) : Prop := ∃ a n t m o addrs, v = .ref a ∧ SqT K H a [n, .ref t, m] ∧ H t = some (.frz o (.tup (addrs.map V.ref))) ∧ o.dict = none ∧ Paired (fun p kv => SqT K H p [kV kv.1, kv.2]) addrs (ps.map kvD)
theorem paired_mono {H H' : Hp} (e : Ex H H') : ∀ {addrs : List Addr} {kvs : List (Key × V)}, Paired (fun p kv => SqT K H p [kV kv.1, kv.2]) addrs kvs → Paired (fun p kv => SqT K H' p [kV kv.1, kv.2]) addrs kvs
  | _, _, .nil => .nil
  | _, _, .cons h t => .cons (ex_t e h) (paired_mono e t)
theorem FzS.mono {H H' : Hp} {v : V} {ps : List PyData} (e : Ex H H') (h : FzS K H v ps) : FzS K H' v ps := by
  obtain ⟨a, n, t, m, o, addrs, h1, h2, h3, h4, h5⟩ := h
  exact ⟨a, n, t, m, o, addrs, h1, ex_t e h2, e _ _ h3, h4, paired_mono e h5⟩
def spW (K : PySem.W.Frag) : Sp := fun vs H Q _ => ∃ v ps, vs = [v] ∧ FzS K H v ps ∧ ∀ p H', H p = none → Ex H H' → H' p = some (.dK (wids ps)) → Q (.ref p) H'
abbrev names_widths_of : List Str := ["schema"]
theorem sc_widths_of : FnScope names_widths_of ["schema"] (defScope s_widths_of) := ⟨rfl, rfl, rfl, by decide +kernel, rfl, by decide +kernel, by decide +kernel⟩
theorem ok_widths_of {f : Addr} {fd : FuncData} (F : Fun K "widths_of" "widths_of" s_widths_of f fd) (T : Top K mg) : FnOk P w K mg base CX0 1 f fd ["schema"] (spW K) := by
  refine F.ok sc_widths_of (fun vs H Q E h => by obtain ⟨v, ps, rfl, _⟩ := h; rfl) fun cdv A outer s H vs Q E hr h => ⟨_, (pss_one (ps_ret (pe_callTy (cr_dictT rfl) (by rfl) T.dict boot_dict (pa_cons (pe_ix ix_seq (pv 0) pe_int (fun _ _ => rfl)) pa_nil)))), ?_⟩
  obtain ⟨v, ps, rfl, ⟨a, n, t, m, o, addrs, rfl, h2, h3, h4, h5⟩, q⟩ := h
  refine ⟨.ref a, rfl, .inr (.inl ⟨a, _, 1, .ref t, rfl, rfl, h2, rfl, t, o, addrs, _, rfl, h3, h4, h5, fun p hp => q p _ hp (Ex.new hp) upd_same⟩)⟩
/-- where a dict of widths is made and read -/
theorem widths_do {W : Wd} {σ : L2.St} {H H1 : Hp} {E : XK} {v : V} {ps : List PyData} {b i : Nat} (hs : σ[i]? = some (some v)) (h : FzS K (W.m H) v ps) (i1 : W.I b H1) (e : Ex (W.m H) (W.m H1)) (Q : VK)
    (k : ∀ p H2, W.I b H2 → W.R H1 H2 → H2 p = some (.dK (wids ps)) → Q (.ref p) H2) : tCall (spW K) [] E (tCons (tVar i) tNil) σ H1 Q :=
  ⟨v, hs, v, ps, rfl, (h.mono e).mono hid_ex, fun p H2 hp e2 h2 => by
    obtain ⟨r2, i2⟩ := W.new i1 e2
    exact k p H2 i2 r2 h2⟩
/-! ### need_table -/
def pairsOf : PyData → List PyData
  | .tuple [_, .tuple ps, _] => ps
  | _ => []
def widD (d t : PyData) : Option V := match t with
  | .str x => valV (wids (pairsOf d)) (.inr x)
  | _ => none
def errT (CT : Addr) (ds : List PyData) : Option Addr := if (widD (d0 ds) (d1 ds)).isSome = true then none else some CT
def preS (K : PySem.W.Frag) (vs : List V) (H : Hp) (ds : List PyData) : Prop := schemaOk (d0 ds) = true → ∃ v vs', vs = v :: vs' ∧ FzS K H v (pairsOf (d0 ds))
theorem preS.mono {H H' : Hp} {vs : List V} {ds : List PyData} (e : Ex H H') (h : preS K vs H ds) : preS K vs H' ds := fun z => by
  obtain ⟨v, vs', h1, h2⟩ := h z
  exact ⟨v, vs', h1, h2.mono e⟩
def ok2 (ds : List PyData) : Prop := ∃ d t, ds = [d, t] ∧ sm d = true ∧ sm t = true
abbrev spNT (K : PySem.W.Frag) (CT : Addr) : Sp := spX K (preS K) (fun ds => ok2 ds ∧ schemaOk (d0 ds) = true) (errT CT) fun _ => .none
abbrev names_need_table : List Str := ["schema", "table"]
theorem sc_need_table : FnScope names_need_table ["schema", "table"] (defScope s_need_table) := ⟨rfl, rfl, rfl, by decide +kernel, rfl, by decide +kernel, by decide +kernel⟩
theorem ok_need_table {f CT : Addr} {fd : FuncData} (F : Fun K "need_table" "need_table" s_need_table f fd) (T : Top K mg) (c_widths_of : Cal P w K mg base 1 "widths_of" (spW K) []) (e_BadTable : ErrC K mg "BadTable" CT) :
    FnOk P w K mg base (L2.CX P w) 2 f fd ["schema", "table"] (spNT K CT) := by
  refine fn_X F sc_need_table (fun ds h => by obtain ⟨⟨d, t, rfl, _⟩, _⟩ := h; rfl) fun cdv A outer s H E hr => by
    have hu1 := hu_room1 hr
    refine ⟨_, (pss_one (ps_if (PW.pt (pw_or (pt_not (pt_val (pe_callB call_isi (by rfl) T.isinstance b_isinstance (pa_cons (pv 1) (pa_cons (pe_ty (by rfl) T.str boot_str) pa_nil))))) (pw_or1 (pt_cmp (pc_dnotin hu1 (pv 1) (pe_c c_widths_of hr (by decide) (by rfl) (pa_cons (pv 0) pa_nil))))))) (pss_one (ps_raise rfl (takes_of rfl rfl rfl rfl) (pmk_own PySem.F.excBase_ValueError e_BadTable.exc e_BadTable.mgC e_BadTable.keep (raises_own e_BadTable.base e_BadTable.typ) rfl))) pss_nil)), ?_⟩
    rintro W ds vs Q ⟨⟨d, t, rfl, hd, ht⟩, hs⟩ i r pr q qx
    have S := slots_start (N := names_need_table) r (Nat.le_refl _)
    obtain ⟨v, vs', rfl, fz⟩ := pr hs
    refine qs_last (q := !(widD d t).isSome) S i (EtD.is (dt_or (k' := !(widD d t).isSome) (dt_not (dt_B (by walk_at "dvs"))) fun h => ?_) ?_) (fun h H1 i1 r1 S1 => ?_) fun h H1 i1 r1 S1 => ?_
    · rw [Bool.not_eq_false'] at h
      obtain ⟨x, rfl⟩ := isA_str h
      intro b H1 i1 e Q1 g
      obtain ⟨vt, st, rt⟩ := S.2 1 (.str x) rfl
      have et := rp_str rt
      subst et
      refine ⟨.str x, st, widths_do rfl fz i1 e _ fun p H2 i2 r2 h2 => ⟨p, _, rfl, DGet.k (k := Sum.inr x) h2, _, rfl, ?_⟩⟩
      exact g H2 i2 r2
    · cases t <;> simp [isA, isN, tyName, widD]
    · exact qx CT (by show (if (widD d t).isSome = true then none else some CT) = some CT; rw [Bool.not_eq_true'] at h; rw [h]; rfl) H1 r1
    · exact q (by show (if (widD d t).isSome = true then none else some CT) = none; rw [Bool.not_eq_false'] at h; rw [h]; rfl) .non H1 r1 .non
/-! ### table_words, table_width, is_row, is_row_of -/
theorem schema_shape {d : PyData} (h : schemaOk d = true) : ∃ ps ns, d = .tuple [.str "schema", .tuple ps, .tuple ns] ∧ ps.all pairOk = true ∧ asc fstS ps = true ∧ 1 ≤ ps.length ∧ ps.length ≤ 3 ∧ ns.length ≤ 2 ∧ ns.all isFreeD = true ∧ asc strS ns = true := by
  unfold schemaOk at h
  split at h
  · rename_i n t m
    simp only [Bool.and_eq_true] at h
    obtain ⟨⟨h1, h2⟩, h3⟩ := h
    have h1 := of_decide_eq_true h1
    subst h1
    cases t with
    | tuple ps =>
      cases m with
      | tuple ns =>
        simp only [tablesOk, namesOk, Bool.and_eq_true, decide_eq_true_eq] at h2 h3
        exact ⟨ps, ns, rfl, h2.1.2, h2.2, by omega, by omega, by omega, h3.1.2, h3.2⟩
      | _ => cases h3
    | _ => cases h2
  · cases h
theorem pair_sm {a : PyData} {ps : List PyData} (h : ps.all pairOk = true) (hm : a ∈ ps) : ∃ x n, a = .tuple [.str x, .int n] := pair_shape (List.all_eq_true.mp h a hm)
abbrev spTW (K : PySem.W.Frag) (CS : Addr) : Sp := spX K (fun _ _ _ => True) ok1 (errS CS) fun ds => .tuple ((pairsOf (d0 ds)).map fun p => .str (fstS p))
abbrev names_table_words : List Str := ["schema", "pair"]
theorem sc_table_words : FnScope names_table_words ["schema"] (defScope s_table_words) := ⟨rfl, rfl, rfl, by decide +kernel, rfl, by decide +kernel, by decide +kernel⟩
theorem ok_table_words {f CS : Addr} {fd : FuncData} (F : Fun K "table_words" "table_words" s_table_words f fd) (T : Top K mg) (c_need_schema : CalX P w K mg base 6 "need_schema" (spNS K CS)) :
    FnOk P w K mg base (L2.CX P w) 7 f fd ["schema"] (spTW K CS) := by
  refine fn_X F sc_table_words (fun ds h => by obtain ⟨d, rfl, _⟩ := h; rfl) fun cdv A outer s H E hr => ⟨_, (pss_cons (ps_expr (pe_cx c_need_schema hr (by decide) (by rfl) (passes_call (takes_of rfl rfl rfl rfl) fun _ _ _ _ h => h) (pa_cons (pv 0) pa_nil)))
  (pss_one (ps_ret (pe_callTy call_tuple_of (by rfl) T.tuple boot_tuple (pa_cons (pe_lc (own := [("pair", 1)]) (g := gName 1) (tt := tYes) rfl sc_table_words.nd (pi_tup (pe_ix ix_seq (pv 0) pe_int (fun _ _ => rfl))) (blkOk_by (N := names_table_words) (sc := defScope s_table_words) (by decide +kernel)) (fun _ _ _ _ _ => (pg_name (i := 1) sc_table_words.nd rfl (by first | exact .inl rfl | exact .inr rfl))) (fun _ _ _ _ _ => pts_nil) (fun _ _ _ _ _ => (pe_ix (ixK (K := K) rfl) (pv 1) pe_int (fun _ _ => rfl)))) pa_nil))))), ?_⟩
  rintro W ds vs Q ⟨d, rfl, hd⟩ i r _ q qx
  match vs, r with
  | [v], r =>
    refine q_callX (W := W) (ea_cons (ev_var rfl) ea_nil) i r ⟨d, rfl, hd⟩ (fun _ _ => trivial) (fun he H1 i1 r1 => ?_) qx
    have S : Slots K (W.m H1) _ _ := slots_start (N := names_table_words) (r.mono (W.up i r1)) (by show 1 ≤ 2; decide)
    have hs : schemaOk d = true := by
      by_cases h : schemaOk d = true
      · exact h
      · exfalso
        have : (if schemaOk d = true then none else some CS) = none := he
        rw [if_neg h] at this
        cases this
    obtain ⟨ps, ns, rfl, hp, _, _, h3, _⟩ := schema_shape hs
    refine qs_ret i1 (dv_cb (da_cons (ds_map (W := W) S (fun p => .str (fstS p)) (ei_tup (by walk_at "dvs")) (by show ps.length ≤ 50000; omega) fun W' d σ2 H' hm S' => ?_) da_nil) (ra_tuple (.inr rfl))) fun v2 H2 _ r2 rv => q he v2 H2 (W.trans r1 r2) rv
    obtain ⟨x, n, rfl⟩ := pair_sm hp hm
    walk_at "dvs"
/-- a schema's function of a table: which error -/
def errST (CS CT : Addr) (ds : List PyData) : Option Addr := if schemaOk (d0 ds) = true then (if (widD (d0 ds) (d1 ds)).isSome = true then none else some CT) else some CS
theorem errS_none {CS : Addr} {d : PyData} (h : errS CS [d] = none) : schemaOk d = true := by
  by_cases z : schemaOk d = true
  · exact z
  · have : (if schemaOk d = true then none else some CS) = none := h
    rw [if_neg z] at this
    cases this
theorem errS_some {CS C : Addr} {d : PyData} (h : errS CS [d] = some C) : schemaOk d = false ∧ C = CS := by
  cases z : schemaOk d with
  | false =>
    have : (if schemaOk d = true then none else some CS) = some C := h
    rw [z] at this
    exact ⟨rfl, (Option.some.inj this).symm⟩
  | true =>
    have : (if schemaOk d = true then none else some CS) = some C := h
    rw [z] at this
    cases this
theorem errT_none {CT : Addr} {d t : PyData} (h : errT CT [d, t] = none) : (widD d t).isSome = true := by
  by_cases z : (widD d t).isSome = true
  · exact z
  · have : (if (widD d t).isSome = true then none else some CT) = none := h
    rw [if_neg z] at this
    cases this
theorem errT_some {CT C : Addr} {d t : PyData} (h : errT CT [d, t] = some C) : (widD d t).isSome = false ∧ C = CT := by
  cases z : (widD d t).isSome with
  | false =>
    have : (if (widD d t).isSome = true then none else some CT) = some C := h
    rw [z] at this
    exact ⟨rfl, (Option.some.inj this).symm⟩
  | true =>
    have : (if (widD d t).isSome = true then none else some CT) = some C := h
    rw [z] at this
    cases this
/-- all that such a table holds are whole numbers -/
def intV : V → Int
  | .int i => i
  | _ => 0
theorem valV_put_int {kvs : List (Key × V)} {k : Key} {i : Int} (h : ∀ p ∈ kvs, ∃ j, p.2 = V.int j) : ∀ p ∈ putK kvs k (.int i), ∃ j, p.2 = V.int j := by
  unfold putK
  split
  · intro p hp
    obtain ⟨z, hz, rfl⟩ := List.mem_map.mp hp
    split
    · exact ⟨i, rfl⟩
    · exact h z hz
  · intro p hp
    rcases List.mem_append.mp hp with hp | hp
    · exact h p hp
    · rcases List.mem_singleton.mp hp with rfl
      exact ⟨i, rfl⟩
theorem merge_int : ∀ (more : List (Key × V)) {kvs : List (Key × V)}, (∀ p ∈ more, ∃ j, p.2 = V.int j) → (∀ p ∈ kvs, ∃ j, p.2 = V.int j) → ∀ p ∈ mergeK kvs more, ∃ j, p.2 = V.int j
  | [], _, _, h => h
  | (k, v) :: more, kvs, h1, h => by
    obtain ⟨j, e⟩ := h1 _ (.head _)
    have e : v = .int j := e
    subst e
    show ∀ p ∈ mergeK (putK kvs k (.int j)) more, _
    exact merge_int more (fun p hp => h1 p (.tail _ hp)) (valV_put_int h)
theorem wid_int {ps : List PyData} (h : ps.all pairOk = true) {k : Key} {v : V} (e : valV (wids ps) k = some v) : ∃ i, v = .int i := by
  unfold valV at e
  cases q : (wids ps).find? fun kv => decide (kv.1 = k) with
  | none => rw [q] at e; cases e
  | some p =>
    rw [q] at e
    cases e
    refine merge_int _ (fun p hp => ?_) (by simp) p (List.mem_of_find?_eq_some q)
    obtain ⟨a, ha, rfl⟩ := List.mem_map.mp hp
    obtain ⟨x, n, rfl⟩ := pair_sm h ha
    exact ⟨n, rfl⟩
/-- the width of table t -/
def widI (d t : PyData) : Int := match widD d t with
  | some v => intV v
  | none => 0
def ok2S (ds : List PyData) : Prop := ok2 ds
abbrev spTWd (K : PySem.W.Frag) (CS CT : Addr) : Sp := spX K (preS K) ok2 (errST CS CT) fun ds => .int (widI (d0 ds) (d1 ds))
abbrev names_table_width : List Str := ["schema", "table"]
theorem sc_table_width : FnScope names_table_width ["schema", "table"] (defScope s_table_width) := ⟨rfl, rfl, rfl, by decide +kernel, rfl, by decide +kernel, by decide +kernel⟩
theorem dv_width {W : Wd} {σ : L2.St} {H : Hp} {E : XK} {v : V} {d t : PyData} {i j : Nat} {l : List (Option PyData)} (hs : σ[i]? = some (some v)) (hd : schemaOk d = true) (h : FzS K (W.m H) v (pairsOf d)) (S : Slots K (W.m H) σ l) (ht : l[j]? = some (some t)) (hw : (widD d t).isSome = true) :
    EvD W K (tDGet (tCall (spW K) [] E (tCons (tVar i) tNil)) (tVar j)) σ H (.int (widI d t)) := fun b H1 i1 e Q g => by
  obtain ⟨vt, st, rt⟩ := S.2 j t ht
  refine widths_do hs h i1 e _ fun p H2 i2 r2 h2 => ⟨vt, st, ?_⟩
  cases t with
  | str x =>
    have et := rp_str rt
    subst et
    cases q : valV (wids (pairsOf d)) (.inr x) with
    | none =>
      have : (valV (wids (pairsOf d)) (.inr x)).isSome = true := hw
      rw [q] at this
      cases this
    | some z =>
      obtain ⟨ps, ns, rfl, hp, _⟩ := schema_shape hd
      obtain ⟨n, rfl⟩ := wid_int hp q
      refine ⟨p, .int n, rfl, ?_, ?_⟩
      · have := DGet.k (k := Sum.inr x) h2
        rw [q] at this
        exact this
      · refine g _ H2 i2 r2 ?_
        have : widI (.tuple [.str "schema", .tuple ps, .tuple ns]) (.str x) = n := by
          show (match valV (wids (pairsOf (.tuple [.str "schema", .tuple ps, .tuple ns]))) (Sum.inr x) with | some v => intV v | none => 0) = n
          rw [q]
          rfl
        rw [this]
        exact .int n
  | _ => cases hw
theorem ok_table_width {f CS CT : Addr} {fd : FuncData} (F : Fun K "table_width" "table_width" s_table_width f fd) (c_need_schema : CalX P w K mg base 6 "need_schema" (spNS K CS)) (c_need_table : CalX P w K mg base 2 "need_table" (spNT K CT)) (c_widths_of : Cal P w K mg base 1 "widths_of" (spW K) []) :
    FnOk P w K mg base (L2.CX P w) 7 f fd ["schema", "table"] (spTWd K CS CT) := by
  refine fn_X F sc_table_width (fun ds h => by obtain ⟨d, t, rfl, _⟩ := h; rfl) fun cdv A outer s H E hr => by
    have hu1 := hu_room1 hr
    refine ⟨_, (pss_cons (ps_expr (pe_cx c_need_schema hr (by decide) (by rfl) (passes_call (takes_of rfl rfl rfl rfl) fun _ _ _ _ h => h) (pa_cons (pv 0) pa_nil)))
  (pss_cons (ps_expr (pe_cx c_need_table hr (by decide) (by rfl) (passes_call (takes_of rfl rfl rfl rfl) fun _ _ _ _ h => h) (pa_cons (pv 0) (pa_cons (pv 1) pa_nil))))
  (pss_one (ps_ret (pe_dget hu1 (pe_c c_widths_of hr (by decide) (by rfl) (pa_cons (pv 0) pa_nil)) (pv 1) (fun _ _ => rfl)))))), ?_⟩
    rintro W ds vs Q ⟨d, t, rfl, hd, ht⟩ i r pr q qx
    match vs, r with
    | [v, vt], .cons rv (.cons rt .nil) =>
      refine q_callX (W := W) (ea_cons (ev_var rfl) ea_nil) i (.cons rv .nil) ⟨d, rfl, hd⟩ (fun _ _ => trivial) (fun he H1 i1 r1 => ?_) fun C he H1 r1 => ?_
      · have hs := errS_none he
        have u1 := W.up i r1
        obtain ⟨v', vs', e1, fz⟩ := pr hs
        cases e1
        refine q_callX (W := W) (ea_cons (ev_var rfl) (ea_cons (ev_var rfl) ea_nil)) i1 (.cons (rv.mono u1) (.cons (rt.mono u1) .nil)) ⟨⟨d, t, rfl, hd, ht⟩, hs⟩ (fun H2 r2 _ => ⟨v, [vt], rfl, fz.mono (u1.trans (W.up i1 r2))⟩) (fun he2 H2 i2 r2 => ?_) fun C he2 H2 r2 => ?_
        · have hw := errT_none he2
          have u2 := W.up i1 r2
          have S : Slots K (W.m H2) _ _ := slots_start (N := names_table_width) (.cons (rv.mono (u1.trans u2)) (.cons (rt.mono (u1.trans u2)) .nil)) (by show 2 ≤ 2; decide)
          refine qs_ret i2 (dv_width rfl hs (fz.mono (u1.trans u2)) S rfl hw) fun v2 H3 _ r3 rv => q ?_ v2 H3 (W.trans r1 (W.trans r2 r3)) rv
          show (if schemaOk d = true then (if (widD d t).isSome = true then none else some CT) else some CS) = none
          rw [hs, hw]; rfl
        · obtain ⟨hw, rfl⟩ := errT_some he2
          refine qx _ ?_ H2 (W.trans r1 r2)
          show (if schemaOk d = true then (if (widD d t).isSome = true then none else some _) else some CS) = _
          rw [hs, hw]; rfl
      · obtain ⟨hs, rfl⟩ := errS_some he
        refine qx _ ?_ H1 r1
        show (if schemaOk d = true then (if (widD d t).isSome = true then none else some CT) else some _) = _
        rw [hs]; rfl
def isRowD (d : PyData) (n : Int) : Bool := match d with
  | .tuple ws => decide ((ws.length : Int) = n) && ws.all isWordD
  | _ => false
def okR (ds : List PyData) : Prop := ∃ d n, ds = [d, .int n] ∧ sm d = true
def intD : PyData → Int
  | .int i => i
  | _ => 0
abbrev spR (K : PySem.W.Frag) : Sp := spP K okR fun ds => .bool (isRowD (d0 ds) (intD (d1 ds)))
abbrev names_is_row : List Str := ["value", "width", "word"]
theorem sc_is_row : FnScope names_is_row ["value", "width"] (defScope s_is_row) := ⟨rfl, rfl, rfl, by decide +kernel, rfl, by decide +kernel, by decide +kernel⟩
theorem ok_is_row {f : Addr} {fd : FuncData} (F : Fun K "is_row" "is_row" s_is_row f fd) (T : Top K mg) (c_is_word : Cal P w K mg base 1 "is_word" (spB K isWordD) []) : FnOk P w K mg base CX0 2 f fd ["value", "width"] (spR K) := by
  refine fn_pure F sc_is_row (fun ds h => by obtain ⟨d, n, rfl, _⟩ := h; rfl) (by decide) fun cdv A outer s H E hr => by
    have hu := hu_room hr
    refine ⟨_, (pss_one (ps_ret (pe_and (pe_callB call_isi (by rfl) T.isinstance b_isinstance (pa_cons (pv 0) (pa_cons (pe_ty (by rfl) T.tuple boot_tuple) pa_nil))) (pe_and (pe_cmpR (op_eqU hu) (pe_callB call_len (by rfl) T.len boot_len (pa_cons (pv 0) pa_nil)) (pv 1) rfl) (pe_one (pe_callB (cr_all rfl) (by rfl) T.all b_all (pa_cons (pe_lc (own := [("word", 2)]) (g := gName 2) (tt := tYes) rfl sc_is_row.nd (pi_tup (pv 0)) (blkOk_by (N := names_is_row) (sc := defScope s_is_row) (by decide +kernel)) (fun _ _ _ _ _ => (pg_name (i := 2) sc_is_row.nd rfl (by first | exact .inl rfl | exact .inr rfl))) (fun _ _ _ _ _ => pts_nil) (fun _ _ _ _ _ => (pe_c c_is_word hr (by decide) (by rfl) (pa_cons (pv 2) pa_nil)))) pa_nil))))))), ?_⟩
    rintro W ds σ Q ⟨d, n, rfl, hd⟩ i S q
    refine qs_ret i (EvD.is (dv_andV (k' := isRowD d n) (by walk_at "dvs") fun h => ?_) ?_) fun v H1 _ r rv => q v H1 r rv
    · obtain ⟨ws, rfl⟩ := isA_tup h
      have hs := sm_tup hd
      exact dv_andV (by walk_at "dvs") fun _ => dv_allB S (ei_tup (by walk_at "dvs")) (by omega) (g := isWordD) fun W' d σ2 H' hm S' => dv_call (da_cons (by walk_at "dvs") da_nil) (rb (hs.2 d hm))
    · show PyData.bool (isA "tuple" d && isRowD d n) = .bool (isRowD d n)
      cases d <;> simp [isA, isN, tyName, isRowD]
def ok3 (ds : List PyData) : Prop := ∃ d t x, ds = [d, t, x] ∧ sm d = true ∧ sm t = true ∧ sm x = true
def d2 (ds : List PyData) : PyData := ds.getD 2 .none
abbrev spRO (K : PySem.W.Frag) (CS CT : Addr) : Sp := spX K (preS K) ok3 (errST CS CT) fun ds => .bool (isRowD (d2 ds) (widI (d0 ds) (d1 ds)))
abbrev names_is_row_of : List Str := ["schema", "table", "value"]
theorem sc_is_row_of : FnScope names_is_row_of ["schema", "table", "value"] (defScope s_is_row_of) := ⟨rfl, rfl, rfl, by decide +kernel, rfl, by decide +kernel, by decide +kernel⟩
theorem ok_is_row_of {f CS CT : Addr} {fd : FuncData} (F : Fun K "is_row_of" "is_row_of" s_is_row_of f fd) (c_need_schema : CalX P w K mg base 6 "need_schema" (spNS K CS)) (c_need_table : CalX P w K mg base 2 "need_table" (spNT K CT)) (c_widths_of : Cal P w K mg base 1 "widths_of" (spW K) [])
    (c_is_row : Cal P w K mg base 2 "is_row" (spR K) []) : FnOk P w K mg base (L2.CX P w) 7 f fd ["schema", "table", "value"] (spRO K CS CT) := by
  refine fn_X F sc_is_row_of (fun ds h => by obtain ⟨d, t, x, rfl, _⟩ := h; rfl) fun cdv A outer s H E hr => by
    have hu1 := hu_room1 hr
    refine ⟨_, (pss_cons (ps_expr (pe_cx c_need_schema hr (by decide) (by rfl) (passes_call (takes_of rfl rfl rfl rfl) fun _ _ _ _ h => h) (pa_cons (pv 0) pa_nil)))
  (pss_cons (ps_expr (pe_cx c_need_table hr (by decide) (by rfl) (passes_call (takes_of rfl rfl rfl rfl) fun _ _ _ _ h => h) (pa_cons (pv 0) (pa_cons (pv 1) pa_nil))))
  (pss_one (ps_ret (pe_c c_is_row hr (by decide) (by rfl) (pa_cons (pv 2) (pa_cons (pe_dget hu1 (pe_c c_widths_of hr (by decide) (by rfl) (pa_cons (pv 0) pa_nil)) (pv 1) (fun _ _ => rfl)) pa_nil))))))), ?_⟩
    rintro W ds vs Q ⟨d, t, x, rfl, hd, ht, hx⟩ i r pr q qx
    match vs, r with
    | [v, vt, vx], .cons rv (.cons rt (.cons rx .nil)) =>
      refine q_callX (W := W) (ea_cons (ev_var rfl) ea_nil) i (.cons rv .nil) ⟨d, rfl, hd⟩ (fun _ _ => trivial) (fun he H1 i1 r1 => ?_) fun C he H1 r1 => ?_
      · have hs := errS_none he
        have u1 := W.up i r1
        obtain ⟨v', vs', e1, fz⟩ := pr hs
        cases e1
        refine q_callX (W := W) (ea_cons (ev_var rfl) (ea_cons (ev_var rfl) ea_nil)) i1 (.cons (rv.mono u1) (.cons (rt.mono u1) .nil)) ⟨⟨d, t, rfl, hd, ht⟩, hs⟩ (fun H2 r2 _ => ⟨v, [vt], rfl, fz.mono (u1.trans (W.up i1 r2))⟩) (fun he2 H2 i2 r2 => ?_) fun C he2 H2 r2 => ?_
        · have hw := errT_none he2
          have u2 := W.up i1 r2
          have S : Slots K (W.m H2) _ _ := slots_start (N := names_is_row_of) (.cons (rv.mono (u1.trans u2)) (.cons (rt.mono (u1.trans u2)) (.cons (rx.mono (u1.trans u2)) .nil))) (by show 3 ≤ 3; decide)
          refine qs_ret i2 (dv_call (da_cons (ds_var S rfl) (da_cons (dv_width rfl hs (fz.mono (u1.trans u2)) S rfl hw) da_nil)) (ra_sp ⟨x, _, rfl, hx⟩)) fun v2 H3 _ r3 rv => q ?_ v2 H3 (W.trans r1 (W.trans r2 r3)) rv
          show (if schemaOk d = true then (if (widD d t).isSome = true then none else some CT) else some CS) = none
          rw [hs, hw]; rfl
        · obtain ⟨hw, rfl⟩ := errT_some he2
          refine qx _ ?_ H2 (W.trans r1 r2)
          show (if schemaOk d = true then (if (widD d t).isSome = true then none else some _) else some CS) = _
          rw [hs, hw]; rfl
      · obtain ⟨hs, rfl⟩ := errS_some he
        refine qx _ ?_ H1 r1
        show (if schemaOk d = true then (if (widD d t).isSome = true then none else some CT) else some _) = _
        rw [hs]; rfl
end
end Qt
set_option maxRecDepth 100000
set_option maxHeartbeats 4000000
/-! The law's own tests. -/
namespace Qt
open PySem PySem.Spec PyProof.Rows L2 Evl Qd Qe Qs
open C8 (Cal pe_c)
local macro_rules | `(tactic| walk_at "r2s") => `(tactic| first
    | exact r2_I0b | exact r2_I0 | exact r2_eqI | exact r2_neI | exact r2_eqS | exact r2_neS | exact r2_eqB | exact r2_neB | exact r2_ltS | exact r2_inSign | exact r2_notInSign
    | exact r2_ixT rfl | exact r2_ixL rfl | exact r2_isN | exact r2_notN | exact r2_isBl)
local macro_rules | `(tactic| walk_at "dvs") => `(tactic| first
    | exact dv_int | exact dv_str | exact dv_bl | exact dv_non
    | (refine' ds_var ?hS ?hE; (case hS => assumption); (case hE => exact rfl))
    | (refine' dv_isa ?hT ?hA; (case hT => decide); (case hA => walk_at "dvs"))
    | (refine' dv_cb (da_cons ?hA da_nil) ?hR; (case hA => walk_at "dvs"); (case hR => first | exact ra_lenT | exact ra_lenL | exact ra_lenS (by assumption) | exact ra_all))
    | (refine' dv_op ?hA ?hB ?hR; (case hA => walk_at "dvs"); (case hB => walk_at "dvs"); (case hR => walk_at "r2s"))
    | (refine' dv_call (da_cons ?hA da_nil) (ra_sp ?hO); (case hA => walk_at "dvs"); (case hO => assumption)))
section
variable {X : Cx} {x : Str} {p pos : Pos} {k j : Nat} {sp : Sp} {dvs : List V}
theorem pe_c0 (c : Cal X.prog X.w X.K X.mg X.base k x sp dvs) (hr : Room j X.A) (hk : k ≤ j) (hg : Gl X x) (hdb : (x == ("__debug__" : Str)) = false := by decide) : PE X (.Call (.Name x p) [] [] pos) (tCall sp dvs E0 tNil) := by
  obtain ⟨f, fd, ps, ds, F, hm, kp, b, d⟩ := c.ex
  exact pe_call0 F (hr.mono hk) hg hm kp b d C8.pass0 hdb
end
section
variable {P : Program} {w : World} {K : PySem.W.Frag} {mg : Str → Option Value} {base : Heap}
def boolD : PyData → Bool
  | .bool b => b
  | _ => false
def okBB (ds : List PyData) : Prop := ∃ a b, ds = [.bool a, .bool b]
abbrev spTr (K : PySem.W.Frag) : Sp := spP K okBB fun ds => .bool (decide (boolD (d0 ds) = boolD (d1 ds)))
abbrev names__law_is_truth : List Str := ["found", "due"]
theorem sc__law_is_truth : FnScope names__law_is_truth ["found", "due"] (defScope s__law_is_truth) := ⟨rfl, rfl, rfl, by decide +kernel, rfl, by decide +kernel, by decide +kernel⟩
theorem ok__law_is_truth {f : Addr} {fd : FuncData} (F : Fun K "_law_is_truth" "_law_is_truth" s__law_is_truth f fd) : FnOk P w K mg base CX0 1 f fd ["found", "due"] (spTr K) := by
  refine fn_pure F sc__law_is_truth (fun ds h => by obtain ⟨d, n, rfl⟩ := h; rfl) (by decide) fun cdv A outer s H E hr => ⟨_, (pss_one (ps_ret (pe_ifExp (pt_val (pv 1)) (pe_cmpR op_isBl (pv 0) pe_bl rfl) (pe_cmpR op_isBl (pv 0) pe_bl rfl)))), ?_⟩
  rintro W ds σ Q ⟨a, b, rfl⟩ i S q
  refine qs_ret i (dv_if (d := .bool (decide (a = b))) (dt_B (by walk_at "dvs")) (fun h => EvD.is (by walk_at "dvs") ?_) fun h => EvD.is (by walk_at "dvs") ?_) fun v H1 _ r rv => q v H1 r rv
  · subst h; rfl
  · subst h; rfl
abbrev names__law_kept : List Str := []
theorem sc__law_kept : FnScope names__law_kept [] (defScope s__law_kept) := ⟨rfl, rfl, rfl, by decide +kernel, rfl, by decide +kernel, by decide +kernel⟩
abbrev spK (K : PySem.W.Frag) : Sp := spP K (fun ds => ds = []) fun _ => .list (keptS.map .str)
theorem ok__law_kept {f : Addr} {fd : FuncData} (F : Fun K "_law_kept" "_law_kept" s__law_kept f fd) : FnOk P w K mg base CX0 1 f fd [] (spK K) := by
  refine fn_pure F sc__law_kept (fun ds h => by subst h; rfl) (by decide) fun cdv A outer s H E hr => ⟨_, (pss_one (ps_ret (pe_lst (pa_cons pe_str (pa_cons pe_str (pa_cons pe_str (pa_cons pe_str (pa_cons pe_str (pa_cons pe_str (pa_cons pe_str (pa_cons pe_str pa_nil))))))))))), ?_⟩
  rintro W ds σ Q rfl i S q
  exact qs_ret i (dv_lst (da_cons dv_str (da_cons dv_str (da_cons dv_str (da_cons dv_str (da_cons dv_str (da_cons dv_str (da_cons dv_str (da_cons dv_str da_nil))))))))) fun v H1 _ r rv => q v H1 r rv
abbrev names__law_is_word : List Str := ["value", "letter"]
theorem sc__law_is_word : FnScope names__law_is_word ["value"] (defScope s__law_is_word) := ⟨rfl, rfl, rfl, by decide +kernel, rfl, by decide +kernel, by decide +kernel⟩
theorem filter_nil {α : Type} (p : α → Bool) : ∀ xs : List α, decide (xs.filter (fun a => !p a) = []) = xs.all p
  | [] => rfl
  | x :: xs => by
    have ih := filter_nil p xs
    rw [List.all_cons, ← ih]
    cases h : p x <;> simp [List.filter_cons, h]
theorem strOk_sgn {x : Str} {c : Nat} (h : PyData.strOk x = true) (hc : c ∈ x.cps.toList) : PyData.strOk ⟨#[c]⟩ = true := by
  have : ∀ c ∈ x.cps.toList, c < 1114112 := by
    unfold PyData.strOk at h
    rw [← Array.all_toList] at h
    intro c hc
    simpa using (List.all_eq_true.mp h) c hc
  simp [PyData.strOk, this c hc]
theorem r2_eqNil {W : Wd} {ds : List PyData} (h : flatAll ds = true) (h2 : SeqAt.shaped (.list ds) = true) : R2D W K (rEqU K) (.list ds) (.list []) (.bool (decide (ds = []))) := by
  have e : PyData.eqv (.list ds) (.list []) = decide (ds = []) := by
    simp only [PyData.eqv]
    cases ds <;> simp [PyData.eqvAll]
  rw [← e]
  exact r2_eqU (by rw [okD, flat, h, h2]; rfl) (by simp [okD, flat, flatAll, SeqAt.shaped, PyData.canLay0, PyData.canLayAll0, PyData.depth, PyData.depthAll])
theorem r2_neNil {W : Wd} {ds : List PyData} (h : flatAll ds = true) (h2 : SeqAt.shaped (.list ds) = true) : R2D W K (rNeU K) (.list ds) (.list []) (.bool (!decide (ds = []))) := by
  have e : PyData.eqv (.list ds) (.list []) = decide (ds = []) := by
    simp only [PyData.eqv]
    cases ds <;> simp [PyData.eqvAll]
  rw [← e]
  exact r2_neU (by rw [okD, flat, h, h2]; rfl) (by simp [okD, flat, flatAll, SeqAt.shaped, PyData.canLay0, PyData.canLayAll0, PyData.depth, PyData.depthAll])
/-- texts whose signs are letters, or any that can be laid: what the law's compare of signs wants -/
def okW (d : PyData) : Prop := sm d = true ∧ ∀ x, d = .str x → PyData.strOk x = true
def ok1W (ds : List PyData) : Prop := ∃ d, ds = [d] ∧ okW d
abbrev spBW (K : PySem.W.Frag) (g : PyData → Bool) : Sp := spP K ok1W fun ds => .bool (g (ds.getD 0 .none))
theorem rbW {g : PyData → Bool} {d : PyData} {W : Wd} {E : XK} (h : okW d) : RaD W K (fun vs H Q => spBW K g vs H Q E) [d] (.bool (g d)) := ra_sp ⟨d, rfl, h⟩
theorem sgn_map (xs : List Nat) : xs.map sgn = (xs.map fun c => (⟨#[c]⟩ : Str)).map .str := by
  rw [List.map_map]; rfl
theorem ok__law_is_word {f : Addr} {fd : FuncData} (F : Fun K "_law_is_word" "_law_is_word" s__law_is_word f fd) (T : Top K mg) : FnOk P w K mg base CX0 1 f fd ["value"] (spBW K isWordD) := by
  refine fn_pure F sc__law_is_word (fun ds h => by obtain ⟨d, rfl, _⟩ := h; rfl) (by decide) fun cdv A outer s H E hr => by
    have hu := hu_room hr
    refine ⟨_, (pss_cons (ps_if (PW.pt (pw_or (pt_not (pt_val (pe_callB call_isi (by rfl) T.isinstance b_isinstance (pa_cons (pv 0) (pa_cons (pe_ty (by rfl) T.str boot_str) pa_nil))))) (pw_or1 (pt_not (pt_chain op_le op_le pe_int (pe_callB call_len (by rfl) T.len boot_len (pa_cons (pv 0) pa_nil)) pe_int))))) (pss_one (ps_ret pe_bl)) pss_nil)
  (pss_one (ps_ret (pe_cmpR (op_eqU hu) (pe_lc (own := [("letter", 1)]) (g := gName 1) rfl sc__law_is_word.nd (pi_str (pv 0)) (blkOk_by (N := names__law_is_word) (sc := defScope s__law_is_word) (by decide +kernel)) (fun _ _ _ _ _ => (pg_name (i := 1) sc__law_is_word.nd rfl (by first | exact .inl rfl | exact .inr rfl))) (fun _ _ _ _ _ => pts_one (pt_cmpR op_notIn_sign (pv 1) pe_str rfl)) (fun _ _ _ _ _ => (pv 1))) (pe_lst pa_nil) rfl)))), ?_⟩
    rintro W ds σ Q ⟨d, rfl, hd, hok⟩ i S q
    cases ht : isA "str" d with
    | false =>
      refine qs_when S i (EtD.is (dt_or (k' := true) (dt_not (dt_B (by walk_at "dvs"))) fun h => by rw [ht] at h; cases h) (by rw [ht]; rfl) (k' := true)) (fun _ H1 i1 r1 S1 => ?_) fun h => by cases h
      exact qs_ret i1 dv_bl fun v H2 _ r2 rv => fin_b q (W.trans r1 r2) rv (by cases d <;> first | rfl | (simp [isA, isN, tyName] at ht))
    | true =>
      obtain ⟨x, rfl⟩ := isA_str ht
      have hx : x.length ≤ 1000 := sm_str hd
      refine qs_when S i (EtD.is (dt_or (dt_not (dt_B (by walk_at "dvs"))) fun _ => dt_not (dt_test (dv_chain dv_int (by walk_at "dvs") r2_I0b (fun _ => dv_int) fun _ => r2_I0b))) (k' := !(decide (1 ≤ (x.length : Int)) && decide ((x.length : Int) ≤ 8))) (by rw [ht]; simp)) (fun hf H1 i1 r1 S1 => ?_) fun hf H1 i1 r1 S1 => ?_
      · exact qs_ret i1 dv_bl fun v H2 _ r2 rv => fin_b q (W.trans r1 r2) rv (by rw [Bool.not_eq_true'] at hf; simp only [isWordD, isWordS, hf, Bool.false_and])
      · rw [Bool.not_eq_false'] at hf
        have hx2 := hok x rfl
        refine qs_ret i1 (EvD.is (dv_op (ds_lcOf S1 x.cps.toList sgn sgn_inj (fun c => !decide (c ∈ abc.cps.toList)) sgn (ei_str (by walk_at "dvs")) (Nat.le_trans hx (by decide))
          (fun W' c σ2 H' hm S' => dt_test (K := K) (dv_op (ds_var S' rfl) dv_str r2_notInSign)) fun W' c σ2 H' hm _ S' => by walk_at "dvs") (dv_lst da_nil) (r2_eqNil ?_ ?_)) (e := .bool (isWordS x)) ?_) fun v H2 _ r2 rv => fin_b q (W.trans r1 r2) rv rfl
        · rw [sgn_map]; exact flatAll_strs _
        · rw [sgn_map]
          have := okLS (xs := (x.cps.toList.filter fun c => !decide (c ∈ abc.cps.toList)).map fun c => (⟨#[c]⟩ : Str)) fun y hy => by
            obtain ⟨c, hc, rfl⟩ := List.mem_map.mp hy
            exact strOk_sgn hx2 (List.mem_filter.mp hc).1
          unfold okD at this
          exact (Bool.and_eq_true_iff.mp this).2
        · congr 1
          rw [isWordS, hf, Bool.true_and, ← filter_nil]
          exact decide_eq_decide.mpr (by simp)
abbrev names__law_is_free : List Str := ["value"]
theorem sc__law_is_free : FnScope names__law_is_free ["value"] (defScope s__law_is_free) := ⟨rfl, rfl, rfl, by decide +kernel, rfl, by decide +kernel, by decide +kernel⟩
theorem ok__law_is_free {f : Addr} {fd : FuncData} (F : Fun K "_law_is_free" "_law_is_free" s__law_is_free f fd) (T : Top K mg) (c__law_is_word : Cal P w K mg base 1 "_law_is_word" (spBW K isWordD) []) (c__law_kept : Cal P w K mg base 1 "_law_kept" (spK K) []) :
    FnOk P w K mg base CX0 2 f fd ["value"] (spBW K isFreeD) := by
  refine fn_pure F sc__law_is_free (fun ds h => by obtain ⟨d, rfl, _⟩ := h; rfl) (by decide) fun cdv A outer s H E hr => ⟨_, (pss_one (ps_ret (pe_and (pe_c c__law_is_word hr (by decide) (by rfl) (pa_cons (pv 0) pa_nil)) (pe_one (pe_cmpR op_notIn_seq (pv 0) (pe_c0 c__law_kept hr (by decide) (by rfl)) rfl))))), ?_⟩
  rintro W ds σ Q ⟨d, rfl, hd⟩ i S q
  refine qs_ret i (dv_andV (dv_call (da_cons (ds_var S rfl) da_nil) (rbW hd)) fun h => ?_) fun v H1 _ r rv => q v H1 r rv
  refine dv_op (ds_var S rfl) (dv_call da_nil (ra_sp rfl)) (r2_inS (neg := true) ?_ (.inr rfl))
  cases d <;> first | rfl | (simp [isWordD] at h)
end
end Qt
set_option maxRecDepth 100000
set_option maxHeartbeats 4000000
/-! The law's own test of schemas. -/
namespace Qt
open PySem PySem.Spec PyProof.Rows L2 Evl Qd Qe Qs
open C8 (Cal pe_c)
local macro_rules | `(tactic| walk_at "r2s") => `(tactic| first
    | exact r2_I0b | exact r2_I0 | exact r2_eqI | exact r2_neI | exact r2_eqS | exact r2_neS | exact r2_eqB | exact r2_neB | exact r2_ltS | exact r2_inSign | exact r2_notInSign
    | exact r2_ixT rfl | exact r2_ixL rfl | exact r2_isN | exact r2_notN | exact r2_isBl)
local macro_rules | `(tactic| walk_at "dvs") => `(tactic| first
    | exact dv_int | exact dv_str | exact dv_bl | exact dv_non
    | (refine' ds_var ?hS ?hE; (case hS => assumption); (case hE => exact rfl))
    | (refine' dv_isa ?hT ?hA; (case hT => decide); (case hA => walk_at "dvs"))
    | (refine' dv_cb (da_cons ?hA da_nil) ?hR; (case hA => walk_at "dvs"); (case hR => first | exact ra_lenT | exact ra_lenL | exact ra_lenS (by assumption) | exact ra_all))
    | (refine' dv_op ?hA ?hB ?hR; (case hA => walk_at "dvs"); (case hB => walk_at "dvs"); (case hR => walk_at "r2s"))
    | (refine' dv_call (da_cons ?hA da_nil) (ra_sp ?hO); (case hA => walk_at "dvs"); (case hO => assumption)))
/-! all texts within can be laid -/
mutual
def so : PyData → Bool
  | .none => true
  | .bool _ => true
  | .int _ => true
  | .str x => PyData.strOk x
  | .list xs => soAll xs
  | .tuple xs => soAll xs
  | .dict _ => true
def soAll : List PyData → Bool
  | [] => true
  | x :: xs => so x && soAll xs
end
theorem soAll_mem : ∀ {ds : List PyData}, soAll ds = true → ∀ d ∈ ds, so d = true
  | [], _, d, h => by simp at h
  | x :: xs, e, d, h => by
    rw [soAll, Bool.and_eq_true] at e
    rcases List.mem_cons.mp h with z | z
    · rw [z]; exact e.1
    · exact soAll_mem e.2 d z
theorem so_tup {ds : List PyData} (h : so (.tuple ds) = true) : ∀ d ∈ ds, so d = true := by
  rw [so] at h
  exact soAll_mem h
theorem so_str {x : Str} (h : so (.str x) = true) : PyData.strOk x = true := by
  rw [so] at h
  exact h
def okS2 (d : PyData) : Prop := sm d = true ∧ so d = true
theorem okS2.w {d : PyData} (h : okS2 d) : okW d := ⟨h.1, fun x e => by subst e; exact so_str h.2⟩
theorem okS2.mem {a : PyData} {ps : List PyData} (h : okS2 (.tuple ps)) (hm : a ∈ ps) : okS2 a := ⟨sm1 h.1 hm, so_tup h.2 a hm⟩
def ok1S (ds : List PyData) : Prop := ∃ d, ds = [d] ∧ okS2 d
section
variable {P : Program} {w : World} {K : PySem.W.Frag} {mg : Str → Option Value} {base : Heap}
abbrev spBS (K : PySem.W.Frag) (g : PyData → Bool) : Sp := spP K ok1S fun ds => .bool (g (ds.getD 0 .none))
theorem adj_strs (ns : List PyData) (xs : List Str) (h : ns = xs.map .str) : asc strS ns = adj xs := by
  subst h
  unfold asc adj
  rw [← List.map_drop, List.zip_map, List.all_map]
  rfl
theorem map_all_str {ns : List PyData} (h : ns.all isFreeD = true) : ns = (ns.map strS).map .str := by
  rw [List.map_map]
  refine (List.map_id' ns).symm.trans (List.map_congr_left fun d hd => ?_)
  obtain ⟨x, rfl⟩ := free_str (List.all_eq_true.mp h d hd)
  rfl
theorem asc_map (f : PyData → Str) (ps : List PyData) : asc f ps = adj (ps.map f) := by
  unfold asc adj
  rw [← List.map_drop, List.zip_map, List.all_map]
  rfl
theorem word_ok {x : Str} (h : isWordS x = true) : PyData.strOk x = true := by
  unfold isWordS at h
  rw [Bool.and_eq_true] at h
  unfold PyData.strOk
  rw [← Array.all_toList, List.all_eq_true]
  intro c hc
  have := of_decide_eq_true ((List.all_eq_true.mp h.2) c hc)
  have big : ∀ c ∈ abc.cps.toList, c < 1114112 := by decide +kernel
  exact decide_eq_true (big c this)
theorem free_ok {x : Str} (h : isFreeD (.str x) = true) : PyData.strOk x = true := by
  unfold isFreeD at h
  rw [Bool.and_eq_true] at h
  exact word_ok h.1
theorem filter_map_nil {α β : Type} (p : α → Bool) (g : α → β) (xs : List α) : decide ((xs.filter (fun a => !p a)).map g = []) = xs.all p := by
  rw [← filter_nil]
  exact decide_eq_decide.mpr (by simp)
abbrev names__law_is_schema : List Str := ["value", "tables", "names", "pair", "words", "word"]
theorem sc__law_is_schema : FnScope names__law_is_schema ["value"] (defScope s__law_is_schema) := ⟨rfl, rfl, rfl, by decide +kernel, rfl, by decide +kernel, by decide +kernel⟩
theorem ones_flat : ∀ xs : List PyData, flatAll (xs.map fun _ => .int 1) = true ∧ PyData.canLayAll0 (xs.map fun _ => .int 1) = true ∧ PyData.depthAll (xs.map fun _ => .int 1) = 0
  | [] => by simp [flatAll, PyData.canLayAll0, PyData.depthAll]
  | x :: xs => by
    obtain ⟨h1, h2, h3⟩ := ones_flat xs
    rw [List.map_cons]
    simp [flatAll, PyData.canLayAll0, PyData.depthAll, flat, PyData.canLay0, PyData.depth, h1, h2, h3]
theorem ok__law_is_schema {f : Addr} {fd : FuncData} (F : Fun K "_law_is_schema" "_law_is_schema" s__law_is_schema f fd) (T : Top K mg) (c__law_is_free : Cal P w K mg base 2 "_law_is_free" (spBW K isFreeD) []) :
    FnOk P w K mg base CX0 3 f fd ["value"] (spBS K schemaOk) := by
  refine fn_pure F sc__law_is_schema (fun ds h => by obtain ⟨d, rfl, _⟩ := h; rfl) (by decide) fun cdv A outer s H E hr => by
    have hu := hu_room hr
    refine ⟨_, (pss_cons (ps_if (PW.pt (pw_or (pt_not (pt_val (pe_callB call_isi (by rfl) T.isinstance b_isinstance (pa_cons (pv 0) (pa_cons (pe_ty (by rfl) T.tuple boot_tuple) pa_nil))))) (pw_or (pt_cmpR (op_neU hu) (pe_callB call_len (by rfl) T.len boot_len (pa_cons (pv 0) pa_nil)) pe_int rfl) (pw_or (pt_not (pt_val (pe_callB call_isi (by rfl) T.isinstance b_isinstance (pa_cons (pe_ix ix_seq (pv 0) pe_int (fun _ _ => rfl)) (pa_cons (pe_ty (by rfl) T.str boot_str) pa_nil))))) (pw_or1 (pt_cmpR (op_neU hu) (pe_ix ix_seq (pv 0) pe_int (fun _ _ => rfl)) pe_str rfl)))))) (pss_one (ps_ret pe_bl)) pss_nil)
  (pss_cons (ps_par (i := 1) (j := 2) rfl sc__law_is_schema.nd rfl rfl (by decide) rfl rfl (pa_cons (pe_ix ix_seq (pv 0) pe_int (fun _ _ => rfl)) (pa_cons (pe_ix ix_seq (pv 0) pe_int (fun _ _ => rfl)) pa_nil)) rfl)
  (pss_cons (ps_if (PW.pt (pw_or (pt_not (pt_val (pe_callB call_isi (by rfl) T.isinstance b_isinstance (pa_cons (pv 1) (pa_cons (pe_ty (by rfl) T.tuple boot_tuple) pa_nil))))) (pw_or (pt_not (pt_chain op_le op_le pe_int (pe_callB call_len (by rfl) T.len boot_len (pa_cons (pv 1) pa_nil)) pe_int)) (pw_or (pt_not (pt_val (pe_callB call_isi (by rfl) T.isinstance b_isinstance (pa_cons (pv 2) (pa_cons (pe_ty (by rfl) T.tuple boot_tuple) pa_nil))))) (pw_or1 (pt_cmpR op_gt (pe_callB call_len (by rfl) T.len boot_len (pa_cons (pv 2) pa_nil)) pe_int rfl)))))) (pss_one (ps_ret pe_bl)) pss_nil)
  (pss_cons (ps_for PassesOwn.never rfl (pi_tup (pv 1)) (pg_name (i := 3) sc__law_is_schema.nd rfl (by first | exact .inl rfl | exact .inr rfl))
    (pss_cons (ps_if (PW.pt (pw_or (pt_not (pt_val (pe_callB call_isi (by rfl) T.isinstance b_isinstance (pa_cons (pv 3) (pa_cons (pe_ty (by rfl) T.tuple boot_tuple) pa_nil))))) (pw_or (pt_cmpR (op_neU hu) (pe_callB call_len (by rfl) T.len boot_len (pa_cons (pv 3) pa_nil)) pe_int rfl) (pw_or1 (pt_not (pt_val (pe_c c__law_is_free hr (by decide) (by rfl) (pa_cons (pe_ix ix_seq (pv 3) pe_int (fun _ _ => rfl)) pa_nil)))))))) (pss_one (ps_ret pe_bl)) pss_nil)
    (pss_one (ps_if (PW.pt (pw_or (pt_not (pt_val (pe_callB call_isi (by rfl) T.isinstance b_isinstance (pa_cons (pe_ix ix_seq (pv 3) pe_int (fun _ _ => rfl)) (pa_cons (pe_ty (by rfl) T.int boot_int) pa_nil))))) (pw_or (pt_val (pe_callB call_isi (by rfl) T.isinstance b_isinstance (pa_cons (pe_ix ix_seq (pv 3) pe_int (fun _ _ => rfl)) (pa_cons (pe_ty (by rfl) T.bool boot_bool) pa_nil)))) (pw_or1 (pt_not (pt_chain op_le op_le pe_int (pe_ix ix_seq (pv 3) pe_int (fun _ _ => rfl)) pe_int)))))) (pss_one (ps_ret pe_bl)) pss_nil))))
  (pss_cons (ps_setLc (i := 4) (own := [("pair", 3)]) (g := gName 3) (tt := tYes) rfl sc__law_is_schema.nd rfl rfl (sw_true rfl rfl rfl (by decide +kernel)) (pi_tup (pv 1)) (blkOk_by (N := names__law_is_schema) (sc := defScope s__law_is_schema) (by decide +kernel)) (fun _ _ _ _ _ => (pg_name (i := 3) sc__law_is_schema.nd rfl (by first | exact .inl rfl | exact .inr rfl))) (fun _ _ _ _ _ => pts_nil) (fun _ _ _ _ _ => (pe_ix (ixK (K := K) rfl) (pv 3) pe_int (fun _ _ => rfl))))
  (pss_cons (ps_if (PW.pt (pw_or (pt_cmpR (op_neU hu) (pv 4) (pe_callB (cr_sortedM rfl hu) (by rfl) T.sorted b_sorted (pa_cons (pe_callTy (cr_setOf rfl) (by rfl) T.set boot_set (pa_cons (pv 4) pa_nil)) pa_nil)) rfl) (pw_or1 (pt_cmpR (op_neU hu) (pe_lc (own := [("word", 5)]) (g := gName 5) rfl sc__law_is_schema.nd (pi_tup (pv 2)) (blkOk_by (N := names__law_is_schema) (sc := defScope s__law_is_schema) (by decide +kernel)) (fun _ _ _ _ _ => (pg_name (i := 5) sc__law_is_schema.nd rfl (by first | exact .inl rfl | exact .inr rfl))) (fun _ _ _ _ _ => pts_one (pt_not (pt_val (pe_c c__law_is_free hr (by decide) (by rfl) (pa_cons (pv 5) pa_nil))))) (fun _ _ _ _ _ => pe_int)) (pe_lst pa_nil) rfl)))) (pss_one (ps_ret pe_bl)) pss_nil)
  (pss_one (ps_ret (pe_cmpR (op_eqU hu) (pe_callTy call_list_of (by rfl) T.list boot_list (pa_cons (pv 2) pa_nil)) (pe_callB (cr_sortedM rfl hu) (by rfl) T.sorted b_sorted (pa_cons (pe_callTy (cr_setOf rfl) (by rfl) T.set boot_set (pa_cons (pv 2) pa_nil)) pa_nil)) rfl))))))))), ?_⟩
    rintro W ds σ Q ⟨d, rfl, hd⟩ i S q
    cases ht : isA "tuple" d with
    | false =>
      refine qs_when S i (EtD.is (dt_or (k' := true) (dt_not (dt_B (by walk_at "dvs"))) fun h => by rw [ht] at h; cases h) (by rw [ht]; rfl) (k' := true)) (fun _ H1 i1 r1 S1 => ?_) fun h => by cases h
      exact qs_ret i1 dv_bl fun v H2 _ r2 rv => fin_b q (W.trans r1 r2) rv (by cases d <;> first | rfl | (simp [isA, isN, tyName] at ht))
    | true =>
      obtain ⟨ps, rfl⟩ := isA_tup ht
      by_cases hl : ps.length = 3
      · match ps, hl with
        | [n, a, b], _ =>
          have ha : okS2 a := hd.mem (by simp)
          have hb : okS2 b := hd.mem (by simp)
          refine qs_when S i (EtD.is (dt_or (dt_not (dt_B (by walk_at "dvs"))) fun _ => dt_or (dt_test (by walk_at "dvs")) fun _ => dt_or (dt_not (dt_B (by walk_at "dvs"))) fun h => dt_test (K := K) (k := !decide (strS n = "schema")) ?_) (k' := !(isA "str" n && decide (strS n = "schema"))) (by rw [ht]; simp)) (fun hf H1 i1 r1 S1 => ?_) fun hf H1 i1 r1 S1 => ?_
          · rw [Bool.not_eq_false'] at h
            obtain ⟨x, rfl⟩ := isA_str h
            walk_at "dvs"
          · exact qs_ret i1 dv_bl fun v H2 _ r2 rv => fin_b q (W.trans r1 r2) rv (by
              cases n with
              | str x =>
                have h2 : decide (x = "schema") = false := by
                  have h4 : (!(true && decide (x = "schema"))) = true := hf
                  rw [Bool.true_and, Bool.not_eq_true'] at h4
                  exact h4
                simp only [schemaOk, h2, Bool.false_and]
              | _ => rfl)
          · rw [Bool.not_eq_false', Bool.and_eq_true] at hf
            obtain ⟨x, rfl⟩ := isA_str hf.1
            have hx : x = "schema" := of_decide_eq_true hf.2
            subst hx
            have so0 : schemaOk (.tuple [.str "schema", a, b]) = (tablesOk a && namesOk b) := by simp only [schemaOk, decide_true, Bool.true_and]
            refine qs_par S1 i1 (da_cons (by walk_at "dvs") (da_cons (by walk_at "dvs") da_nil)) fun σ2 H2 i2 r2 S2 => ?_
            have r02 := W.trans r1 r2
            -- the kinds
            cases hta : isA "tuple" a with
            | false =>
              refine qs_when S2 i2 (EtD.is (dt_or (k' := true) (dt_not (dt_B (by walk_at "dvs"))) fun h => by rw [hta] at h; cases h) (by rw [hta]; rfl) (k' := true)) (fun _ H3 i3 r3 S3 => ?_) fun h => by cases h
              exact qs_ret i3 dv_bl fun v H4 _ r4 rv => fin_b q (W.trans r02 (W.trans r3 r4)) rv (by rw [so0]; cases a <;> first | rfl | (simp [isA, isN, tyName] at hta))
            | true =>
              obtain ⟨ts, rfl⟩ := isA_tup hta
              cases htb : isA "tuple" b with
              | false =>
                refine qs_when S2 i2 (EtD.is (dt_or (dt_not (dt_B (by walk_at "dvs"))) fun _ => dt_or (k' := true) (dt_not (dt_test (dv_chain dv_int (by walk_at "dvs") r2_I0b (fun _ => dv_int) fun _ => r2_I0b))) fun _ => EtD.is (dt_or (k' := true) (dt_not (dt_B (by walk_at "dvs"))) fun h => by rw [htb] at h; cases h) (by rw [htb]; rfl)) (k' := true) (by simp)) (fun _ H3 i3 r3 S3 => ?_) fun h => by cases h
                exact qs_ret i3 dv_bl fun v H4 _ r4 rv => fin_b q (W.trans r02 (W.trans r3 r4)) rv (by rw [so0]; cases b <;> first | (simp [isA, isN, tyName] at htb; done) | (simp [namesOk]))
              | true =>
                obtain ⟨ns, rfl⟩ := isA_tup htb
                refine qs_when S2 i2 (EtD.is (dt_or (dt_not (dt_B (by walk_at "dvs"))) fun _ => dt_or (dt_not (dt_test (dv_chain dv_int (by walk_at "dvs") r2_I0b (fun _ => dv_int) fun _ => r2_I0b))) fun _ => dt_or (dt_not (dt_B (by walk_at "dvs"))) fun _ => dt_test (by walk_at "dvs"))
                  (k' := !((decide (1 ≤ (ts.length : Int)) && decide ((ts.length : Int) ≤ 3)) && decide ((ns.length : Int) ≤ 2))) (by rw [hta, htb, show decide ((2 : Int) < ns.length) = !decide ((ns.length : Int) ≤ 2) from by rw [← decide_not]; exact decide_eq_decide.mpr (by omega)]; cases decide (1 ≤ (ts.length : Int)) <;> cases decide ((ts.length : Int) ≤ 3) <;> cases decide ((ns.length : Int) ≤ 2) <;> rfl)) (fun hf3 H3 i3 r3 S3 => ?_) fun hf3 H3 i3 r3 S3 => ?_
                · refine qs_ret i3 dv_bl fun v H4 _ r4 rv => fin_b q (W.trans r02 (W.trans r3 r4)) rv ?_
                  rw [so0]
                  rw [Bool.not_eq_true', Bool.and_eq_false_iff] at hf3
                  rcases hf3 with h | h
                  · simp only [tablesOk, h, Bool.false_and]
                  · simp only [namesOk, h, Bool.false_and, Bool.and_false]
                · rw [Bool.not_eq_false', Bool.and_eq_true] at hf3
                  obtain ⟨hlt, hln⟩ := hf3
                  have hlt2 : (1 : Int) ≤ ts.length ∧ (ts.length : Int) ≤ 3 := by
                    rw [Bool.and_eq_true, decide_eq_true_eq, decide_eq_true_eq] at hlt
                    exact hlt
                  have hln2 : (ns.length : Int) ≤ 2 := of_decide_eq_true hln
                  have r03 := W.trans r02 r3
                  -- for pair in tables
                  refine q_forN (b := 0) (c := 0) (cB := 0) (N := 3) (p := fun es => es = ts) S3 (EiD.toP (ei_tup (by walk_at "dvs")) rfl) i3 (fun es he => by subst he; omega) (fun es n l' => (∀ m d, m < n → es[m]? = some d → pairOk d = true) ∧ l' = [some (.tuple [.str "schema", .tuple ts, .tuple ns]), some (.tuple ts), some (.tuple ns), l'.getD 3 none, none, none])
                    (fun es he => ⟨fun m d h => by omega, rfl⟩) ?_ ?_
                  · rintro es k pr l' σ4 H4 bb NX rfl hpr ⟨hF, hl'⟩ i4 r4 S4 nx
                    have hpm : pr ∈ es := List.mem_of_getElem? hpr
                    have hpo : okS2 pr := ha.mem hpm
                    have bad : pairOk pr = false → tablesOk (.tuple es) = false := fun h => by
                      have : es.all pairOk = false := by
                        cases z : es.all pairOk with
                        | false => rfl
                        | true => rw [List.all_eq_true.mp z pr hpm] at h; cases h
                      simp only [tablesOk, this, Bool.and_false, Bool.false_and]
                    have fin : ∀ H5 v H6, W.R H4 H5 → W.R H5 H6 → Rp K (W.m H6) v (.bool false) → pairOk pr = false → Q v H6 := fun H5 v H6 r5 r6 rv h => fin_b q (W.trans r03 (W.trans r4 (W.trans r5 r6))) rv (by rw [so0, bad h]; rfl)
                    rw [hl'] at S4
                    cases htp : isA "tuple" pr with
                    | false =>
                      refine qs_when S4 i4 (EtD.is (dt_or (k' := true) (dt_not (dt_B (by walk_at "dvs"))) fun h => by rw [htp] at h; cases h) (by rw [htp]; rfl) (k' := true)) (fun _ H5 i5 r5 S5 => ?_) fun h => by cases h
                      exact qs_ret i5 dv_bl fun v H6 _ r6 rv => fin H5 v H6 r5 r6 rv (by cases pr <;> first | rfl | (simp [isA, isN, tyName] at htp))
                    | true =>
                      obtain ⟨us, rfl⟩ := isA_tup htp
                      by_cases hul : us.length = 2
                      · match us, hul with
                        | [u0, u1], _ =>
                          have h0 : okS2 u0 := hpo.mem (by simp)
                          have h1 : okS2 u1 := hpo.mem (by simp)
                          refine qs_when S4 i4 (EtD.is (dt_or (dt_not (dt_B (by walk_at "dvs"))) fun _ => dt_or (dt_test (by walk_at "dvs")) fun _ => dt_not (dt_B (dv_call (da_cons (by walk_at "dvs") da_nil) (rbW h0.w)))) (k' := !isFreeD u0) (by rw [htp]; simp)) (fun hf5 H5 i5 r5 S5 => ?_) fun hf5 H5 i5 r5 S5 => ?_
                          · exact qs_ret i5 dv_bl fun v H6 _ r6 rv => fin H5 v H6 r5 r6 rv (by rw [Bool.not_eq_true'] at hf5; simp only [pairOk, hf5, Bool.false_and])
                          · rw [Bool.not_eq_false'] at hf5
                            refine qs_last (q := !upto3 u1) S5 i5 (EtD.is (dt_or (dt_not (dt_B (by walk_at "dvs"))) (k' := !upto3 u1) fun hi => EtD.is (dt_or (dt_B (by walk_at "dvs")) (k' := !upto3 u1) fun hbo => ?_) ?_) ?_) (fun hf6 H6 i6 r6 S6 => ?_) fun hf6 H6 i6 r6 S6 => ?_
                            · rw [Bool.not_eq_false'] at hi
                              rcases isA_int hi with ⟨z, rfl⟩ | ⟨z, rfl⟩
                              · exact dt_not (dt_test (dv_chain dv_int (by walk_at "dvs") r2_I0b (fun _ => dv_int) fun _ => r2_I0b))
                              · cases hbo
                            · rw [Bool.not_eq_false'] at hi
                              rcases isA_int hi with ⟨z, rfl⟩ | ⟨z, rfl⟩ <;> rfl
                            · cases u1 <;> simp [isA, isN, tyName, upto3]
                            · exact qs_ret i6 dv_bl fun v H7 _ r7 rv => fin H6 v H7 (W.trans r5 r6) r7 rv (by rw [Bool.not_eq_true'] at hf6; simp only [pairOk, hf6, Bool.and_false])
                            · rw [Bool.not_eq_false'] at hf6
                              refine nx _ H6 _ i6 (W.trans r5 r6) ⟨fun m d hm hd' => ?_, rfl⟩ S6
                              by_cases hmk : m = k
                              · subst hmk
                                rw [hpr] at hd'
                                cases hd'
                                simp only [pairOk, hf5, hf6, Bool.and_self]
                              · exact hF m d (by omega) hd'
                      · refine qs_when S4 i4 (EtD.is (dt_or (dt_not (dt_B (by walk_at "dvs"))) fun _ => dt_or (k' := true) (dt_test (by walk_at "dvs")) fun h => by simp at h; omega) (k' := true) (by simp)) (fun _ H5 i5 r5 S5 => ?_) fun h => by cases h
                        exact qs_ret i5 dv_bl fun v H6 _ r6 rv => fin H5 v H6 r5 r6 rv (by match us, hul with | [], _ => rfl | [_], _ => rfl | _ :: _ :: _ :: _, _ => rfl)
                  · rintro es l' σ4 H4 rfl ⟨hF, hl'⟩ i4 r4 S4
                    have hall : es.all pairOk = true := List.all_eq_true.mpr fun d hd' => by
                      obtain ⟨m, hm, e⟩ := List.getElem_of_mem hd'
                      exact hF m d hm (by rw [List.getElem?_eq_getElem hm, e])
                    rw [hl'] at S4
                    have r04 := W.trans r03 r4
                    -- words
                    refine qs_asg S4 i4 (EvD.is (ds_map (W := W) S4 (fun p => .str (fstS p)) (ei_tup (by walk_at "dvs")) (by omega) fun W' d σ5 H5 hm S5 => ?_) (e := .list ((es.map fstS).map .str)) (by rw [List.map_map]; rfl)) fun σ5 H5 i5 r5 S5 => ?_
                    · obtain ⟨x, z, rfl⟩ := pair_sm hall hm
                      walk_at "dvs"
                    have okws : ∀ x ∈ es.map fstS, PyData.strOk x = true := fun x hx => by
                      obtain ⟨p0, hp0, rfl⟩ := List.mem_map.mp hx
                      have hpp := List.all_eq_true.mp hall p0 hp0
                      obtain ⟨y, z, rfl⟩ := pair_shape hpp
                      have : (isFreeD (.str y) && upto3 (.int z)) = true := hpp
                      rw [Bool.and_eq_true] at this
                      exact free_ok this.1
                    have r05 := W.trans r04 r5
                    refine qs_when S5 i5 (EtD.is (dt_or (dt_test (K := K) (dv_ofP (EvP.imp (fun d hd' => hd') (pv_op (c1 := 0) (c2 := 0) (EvD.toP (p := fun d => d = .list ((es.map fstS).map .str)) (by walk_at "dvs") rfl) (pv_sortedSet (d := .list ((es.map fstS).map .str)) (.inl rfl) (by rw [List.length_map]; omega) (by walk_at "dvs")) (s := fun x => x = .bool (!adj (es.map fstS))) ?_)))) fun _ =>
                      dt_test (K := K) (dv_op (ds_lc (W := W) S5 (fun d => !isFreeD d) (fun _ => .int 1) (ei_tup (by walk_at "dvs")) (by omega) (fun W' d σ6 H6 hm S6 => dt_not (dt_B (dv_call (da_cons (by walk_at "dvs") da_nil) (rbW (hb.mem hm).w)))) fun W' d σ6 H6 hm _ S6 => dv_int) (dv_lst da_nil) (r2_neNil (ones_flat _).1 (by simp [SeqAt.shaped, PyData.canLay0, PyData.depth, (ones_flat _).2.1, (ones_flat _).2.2]))))
                      (k' := !(adj (es.map fstS) && ns.all isFreeD)) (by rw [filter_map_nil, Bool.not_and])) (fun hf6 H6 i6 r6 S6 => ?_) fun hf6 H6 i6 r6 S6 => ?_
                    · rintro d e rfl ⟨ys, rfl, hys⟩
                      have oky : ∀ x ∈ ys, PyData.strOk x = true := fun x hx => okws x ((hys.2 x).mp hx)
                      exact ⟨_, r2_neLS okws oky, by rw [sort_eq hys]⟩
                    · refine qs_ret i6 dv_bl fun v H7 _ r7 rv => fin_b q (W.trans r05 (W.trans r6 r7)) rv ?_
                      rw [so0]
                      rw [Bool.not_eq_true', Bool.and_eq_false_iff] at hf6
                      rcases hf6 with h | h
                      · simp only [tablesOk, asc_map, h, Bool.and_false, Bool.false_and]
                      · simp only [namesOk, h, Bool.and_false, Bool.false_and]
                    · rw [Bool.not_eq_false', Bool.and_eq_true] at hf6
                      have en := map_all_str hf6.2
                      have okns : ∀ x ∈ ns.map strS, PyData.strOk x = true := fun x hx => by
                        obtain ⟨p0, hp0, rfl⟩ := List.mem_map.mp hx
                        have hpp := List.all_eq_true.mp hf6.2 p0 hp0
                        obtain ⟨y, rfl⟩ := free_str hpp
                        exact free_ok hpp
                      refine qs_ret i6 (dv_ofP (pv_op (c1 := 0) (c2 := 0) (EvD.toP (p := fun d => d = .list ((ns.map strS).map .str)) (EvD.is (dv_cb (da_cons (by walk_at "dvs") da_nil) (ra_list (.inl rfl))) (by rw [← en])) rfl) (pv_sortedSet (xs := ns.map strS) (d := .tuple ns) (.inr (by rw [← en])) (by rw [List.length_map]; omega) (by walk_at "dvs")) (s := fun x => x = .bool (adj (ns.map strS))) ?_)) fun v H7 _ r7 rv => fin_b q (W.trans r05 (W.trans r6 r7)) rv ?_
                      · rintro d e rfl ⟨ys, rfl, hys⟩
                        have oky : ∀ x ∈ ys, PyData.strOk x = true := fun x hx => okns x ((hys.2 x).mp hx)
                        exact ⟨_, r2_eqLS okns oky, by rw [sort_eq hys]⟩
                      · rw [so0]
                        simp only [tablesOk, namesOk, asc_map, hlt, hall, hf6.1, hln, hf6.2, Bool.true_and]
      · refine qs_when S i (EtD.is (dt_or (dt_not (dt_B (by walk_at "dvs"))) fun _ => dt_or (k' := true) (dt_test (by walk_at "dvs")) fun h => by simp at h; omega) (k' := true) (by simp)) (fun _ H1 i1 r1 S1 => ?_) fun h => by cases h
        exact qs_ret i1 dv_bl fun v H2 _ r2 rv => fin_b q (W.trans r1 r2) rv (by match ps, hl with | [], _ => rfl | [x], _ => cases x <;> rfl | [x, _], _ => cases x <;> rfl | x :: _ :: _ :: _ :: _, _ => cases x <;> rfl)
end
end Qt
set_option maxRecDepth 100000
set_option maxHeartbeats 4000000
/-! The law's draws. -/
namespace Qt
open PySem PySem.Spec PyProof.Rows L2 Evl Qd Qe Qs Qn Qw
open C8 (Cal pe_c)
local macro_rules | `(tactic| walk_at "r2s") => `(tactic| first
    | exact r2_I0b | exact r2_I0 | exact r2_eqI | exact r2_neI | exact r2_eqS | exact r2_neS | exact r2_eqB | exact r2_neB | exact r2_ltS | exact r2_inSign | exact r2_notInSign
    | exact r2_ixT rfl | exact r2_ixL rfl | exact r2_isN | exact r2_notN | exact r2_isBl)
local macro_rules | `(tactic| walk_at "dvs") => `(tactic| first
    | exact dv_int | exact dv_str | exact dv_bl | exact dv_non
    | (refine' ds_var ?hS ?hE; (case hS => assumption); (case hE => exact rfl))
    | (refine' dv_isa ?hT ?hA; (case hT => decide); (case hA => walk_at "dvs"))
    | (refine' dv_cb (da_cons ?hA da_nil) ?hR; (case hA => walk_at "dvs"); (case hR => first | exact ra_lenT | exact ra_lenL | exact ra_lenS (by assumption) | exact ra_all))
    | (refine' dv_op ?hA ?hB ?hR; (case hA => walk_at "dvs"); (case hB => walk_at "dvs"); (case hR => walk_at "r2s"))
    | (refine' dv_call (da_cons ?hA da_nil) (ra_sp ?hO); (case hA => walk_at "dvs"); (case hO => assumption)))
section
variable {P : Program} {w : World} {K : PySem.W.Frag} {mg : Str → Option Value} {base : Heap}
theorem ev_dget {σ : L2.St} {H : Hp} {s : Addr} {kvs : List (Key × V)} {k : Str} {v : V} {i : Nat} (hs : σ[i]? = some (some (.ref s))) (h : H s = some (.dK kvs)) (hv : valV kvs (.inr k) = some v) : Ev (tDGet (tVar i) (tC (.str k))) σ H v := fun H1 e Q q =>
  ⟨.ref s, hs, s, v, rfl, (by have := DGet.k (k := Sum.inr k) (e _ _ h); rw [hv] at this; exact this), q H1 (Ex.refl H1)⟩
/-- the sum told: state['turn'] one up -/
def spBl (a : At) : Sp := fun vs H Q _ => ∃ S, vs = [.ref a.s] ∧ DAt a S H ∧ S.turn + U ≤ LIM ∧
  ∀ H', DAt a ⟨S.gs, S.rest, S.turn + 1⟩ H' → Ex (hid (hides a) H) (hid (hides a) H') → Q (.int (blended a.cells (S.turn + 1))) H'
def prS : List Int := [2147483579, 2147483629, 2147483563]
def foundS (cells : List Int) (t : Int) : Nat → Int
  | 0 => 0
  | n + 1 => mixP cells t (foundS cells t n) (prS.getD n 0)
theorem prS_b : ∀ n, n < 3 → 0 < prS.getD n 0 ∧ prS.getD n 0 ≤ 2147483647 ∧ prS.getD n 0 / 53 < 2147483647 := by decide
theorem foundS_b (cells : List Int) (t : Int) : ∀ n, n ≤ 3 → 0 ≤ foundS cells t n ∧ foundS cells t n < 2147483647 ^ n
  | 0, _ => ⟨Int.le_refl _, by show (0 : Int) < 1; decide⟩
  | n + 1, h => by
    obtain ⟨h1, h2⟩ := foundS_b cells t n (by omega)
    obtain ⟨p1, p2, _⟩ := prS_b n (by omega)
    have := mix_le (cells := cells) (turn := t) p1 p2 h1 h2
    rw [Int.pow_succ]
    exact this
def blS (cells : List Int) (t p : Int) (n : Nat) : Int := blendP (cells.take n) t p
theorem blS_b {cells : List Int} {t p : Int} {n : Nat} (h0 : 0 ≤ t) (ht : t ≤ 2 ^ 230) (hp : 0 < p) (hp2 : p ≤ 2147483647) (hp3 : p / 53 < 2147483647) : (blS cells t p n).natAbs < 2 ^ 255 := by
  unfold blS blendP
  rw [← List.reverse_reverse (cells.take n)]
  cases (cells.take n).reverse with
  | nil =>
    show (48271 * t + p / 53).natAbs < 2 ^ 255
    have h5 : 0 ≤ p / 53 := Int.ediv_nonneg (by omega) (by decide)
    have b2 : (48271 : Int) * 2 ^ 230 + 2147483647 < 2 ^ 255 := by decide
    have e : (((48271 * t + p / 53).natAbs : Nat) : Int) = 48271 * t + p / 53 := Int.natAbs_of_nonneg (by omega)
    have h6 : (((48271 * t + p / 53).natAbs : Nat) : Int) < 2 ^ 255 := by rw [e]; omega
    have h7 : ((2 ^ 255 : Nat) : Int) = 2 ^ 255 := by norm_cast
    omega
  | cons c l =>
    rw [List.reverse_cons, List.foldl_append]
    show ((_ % p : Int)).natAbs < 2 ^ 255
    generalize (List.foldl (fun b c => (b * 69621 + c + t) % p) (48271 * t + p / 53) l.reverse * 69621 + c + t) = z
    have h1 := Int.emod_nonneg z (Int.ne_of_gt hp)
    have h2 := Int.emod_lt_of_pos z hp
    have : (z % p).natAbs < 2147483648 := by omega
    exact Nat.lt_of_lt_of_le this (by decide)
abbrev names__law_blended : List Str := ["state", "turn", "found", "prime", "blend", "cell"]
theorem sc__law_blended : FnScope names__law_blended ["state"] (defScope s__law_blended) := ⟨rfl, rfl, rfl, by decide +kernel, rfl, by decide +kernel, by decide +kernel⟩
theorem ok__law_blended {a : At} {f : Addr} {fd : FuncData} (F : Fun K "_law_blended" "_law_blended" s__law_blended f fd) (T : Top K mg) : FnOk P w K mg base CX0 1 f fd ["state"] (spBl a) := by
  refine F.ok sc__law_blended (fun vs H Q E h => by obtain ⟨S, rfl, _⟩ := h; rfl) fun cdv A outer s H vs Q E hr h => by
    have hu1 := hu_room1 hr
    refine ⟨_, (pss_cons (ps_par (i := 1) (j := 2) rfl sc__law_blended.nd rfl rfl (by decide) rfl rfl (pa_cons (pe_op op_add (pe_dget hu1 (pv 0) pe_str (fun _ _ => rfl)) pe_int) (pa_cons pe_int pa_nil)) rfl)
  (pss_cons (ps_dput hu1 (pv 0) pe_str (pv 1) rfl)
  (pss_cons (ps_for PassesOwn.never rfl (pi_list (pe_lst (pa_cons pe_int (pa_cons pe_int (pa_cons pe_int pa_nil))))) (pg_name (i := 3) sc__law_blended.nd rfl (by first | exact .inl rfl | exact .inr rfl))
    (pss_cons (ps_set (i := 4) sc__law_blended.nd rfl (by first | exact .inl rfl | exact .inr rfl) (pe_op op_add (pe_op op_mulW pe_int (pv 1)) (pe_op op_fdiv (pv 3) pe_int)))
    (pss_cons (ps_for PassesOwn.never rfl (pi_list (pe_dget hu1 (pv 0) pe_str (fun _ _ => rfl))) (pg_name (i := 5) sc__law_blended.nd rfl (by first | exact .inl rfl | exact .inr rfl))
      (pss_one (ps_set (i := 4) sc__law_blended.nd rfl (by first | exact .inl rfl | exact .inr rfl) (pe_op op_mod (pe_callTy call_int1 (by rfl) T.int boot_int (pa_cons (pe_op op_add (pe_op op_add (pe_op op_mulW (pv 4) pe_int) (pv 5)) (pv 1)) pa_nil)) (pv 3)))))
    (pss_one (ps_set (i := 2) sc__law_blended.nd rfl (by first | exact .inl rfl | exact .inr rfl) (pe_op op_add (pe_op op_mulW (pv 2) pe_int) (pe_op op_mod (pe_callTy call_int1 (by rfl) T.int boot_int (pa_cons (pe_op op_powW (pv 4) pe_int) pa_nil)) (pv 3))))))))
  (pss_one (ps_ret (pv 2)))))), ?_⟩
    obtain ⟨S, rfl, D, ht, k⟩ := h
    obtain ⟨kvs, h1, g1, g2, g3, g4, g5⟩ := D.kv
    have t0 := D.ok.2.2
    have hU : (1 : Int) ≤ U := by decide
    have hL : LIM = 2 ^ 230 := rfl
    refine ⟨.ref a.s, rfl, a.s, _, rfl, (by have := DGet.k (k := Sum.inr "turn") h1; rw [g4] at this; exact this), S.turn, 1, rfl, rfl, .int (S.turn + 1), .int 0, rfl, ?_⟩
    refine ⟨.int (S.turn + 1), rfl, .ref a.s, rfl, a.s, _, rfl, DPut.k (k := Sum.inr "turn") h1 (Nat.lt_of_le_of_lt g5 (by decide)), ?_⟩
    have D1 := put_turn D (r := S.turn + 1) (by omega) h1
    have e01 : Ex (hid (hides a) H) (hid (hides a) (upd H a.s (.dK (putK kvs (.inr "turn") (.int (S.turn + 1)))))) := hid_keep (.inl rfl)
    generalize upd H a.s (.dK (putK kvs (.inr "turn") (.int (S.turn + 1)))) = H1 at D1 e01
    obtain ⟨kvs1, h11, g11, g12, g13, g14, g15⟩ := D1.kv
    refine q_forNLn (xs := prS.map V.int) (K := K) (el_lst (ea_cons ev_c (ea_cons ev_c (ea_cons ev_c ea_nil))) (by decide)) (fun p i σ H' => i ≤ 3 ∧ Ex H1 H' ∧ H' p = some (.lst (prS.map V.int)) ∧ ∃ x3 x4 x5, σ = [some (.ref a.s), some (.int (S.turn + 1)), some (.int (foundS a.cells (S.turn + 1) i)), x3, x4, x5]) ?_ ?_ ?_ ?_
    · intro p H2 _ e2 hp
      exact ⟨by omega, e2, hp, _, _, _, rfl⟩
    · rintro p i σ H' _ ⟨_, _, hp, _⟩
      exact sq_of hp
    · rintro p i x σ H' hx ⟨hi, e, hp, x3, x4, x5, rfl⟩
      have hi3 : i < 3 := by have := (List.getElem?_eq_some_iff.mp hx).1; simpa [prS] using this
      have hx2 : x = .int (prS.getD i 0) := by
        rw [List.getElem?_map, List.getElem?_eq_getElem (by simpa [prS] using hi3)] at hx
        cases hx
        rw [List.getD_eq_getElem?_getD, List.getElem?_eq_getElem (by simpa [prS] using hi3)]
        rfl
      subst hx2
      obtain ⟨p1, p2, p3⟩ := prS_b i hi3
      generalize hpp : prS.getD i 0 = pr at p1 p2 p3 hx
      refine q_asg (v := .int (48271 * (S.turn + 1) + pr / 53)) (ev_op (ev_op ev_c (ev_var rfl) (rv_I (wide_mul (a := 20) (b := 255) (by decide) ?_ (by decide) (by decide) (by decide)))) (ev_op (ev_var rfl) ev_c (rv_I ⟨by decide, by decide⟩)) rv_I0) fun H2 e2 => ?_
      · have e5 : (((S.turn + 1).natAbs : Nat) : Int) = S.turn + 1 := Int.natAbs_of_nonneg (by omega)
        have h7 : ((2 ^ 255 : Nat) : Int) = 2 ^ 255 := by norm_cast
        have b2 : (2 : Int) ^ 230 + 1 < 2 ^ 255 := by decide
        omega
      have hc := D1.ce
      refine q_forLn (K := K) (a := a.c) (xs := a.cells.map V.int) (ev_dget rfl (e2 _ _ (e _ _ h11)) g12) (sq_of (e2 _ _ (e _ _ hc))) (fun j σ H' => j ≤ a.cells.length ∧ Ex H2 H' ∧ ∃ y5, σ = [some (.ref a.s), some (.int (S.turn + 1)), some (.int (foundS a.cells (S.turn + 1) i)), some (.int pr), some (.int (blS a.cells (S.turn + 1) pr j)), y5]) ?_ ?_ ?_ ?_
      · intro H3 e3
        exact ⟨by omega, e3, _, rfl⟩
      · rintro j σ H3 _ ⟨_, e3, _⟩
        exact sq_of (e3 _ _ (e2 _ _ (e _ _ hc)))
      · rintro j x σ H3 hx2 ⟨hj, e3, y5, rfl⟩
        have hjl : j < a.cells.length := by have := (List.getElem?_eq_some_iff.mp hx2).1; simpa using this
        have hx3 : x = .int a.cells[j] := by
          rw [List.getElem?_map, List.getElem?_eq_getElem hjl] at hx2
          cases hx2
          rfl
        subst hx3
        have hb := blS_b (cells := a.cells) (t := S.turn + 1) (p := pr) (n := j) (by omega) (by omega) p1 p2 p3
        refine s_asg (v := .int ((blS a.cells (S.turn + 1) pr j * 69621 + a.cells[j] + (S.turn + 1)) % pr)) (ev_op (ev_cb (ea_cons (ev_op (ev_op (ev_op (ev_var rfl) ev_c (rv_I (wide_mul hb (b := 20) (by decide) (by decide) (by decide) (by decide)))) (ev_var rfl) rv_I0) (ev_var rfl) rv_I0) ea_nil) (z := .int (blS a.cells (S.turn + 1) pr j * 69621 + a.cells[j] + (S.turn + 1))) fun H4 _ Q' q' => .inl ⟨_, rfl, q' H4 (Ex.refl H4)⟩) (ev_var rfl) (rv_I p1)) fun H4 e4 => ?_
        refine ⟨by omega, e3.trans e4, some (.int a.cells[j]), ?_⟩
        have e6 : blS a.cells (S.turn + 1) pr (j + 1) = (blS a.cells (S.turn + 1) pr j * 69621 + a.cells[j] + (S.turn + 1)) % pr := by
          unfold blS blendP
          rw [List.take_add_one, List.getElem?_eq_getElem hjl, List.foldl_append]
          rfl
        rw [e6]
        rfl
      · rintro σ H3 ⟨_, e3, y5, rfl⟩
        have eb : blS a.cells (S.turn + 1) pr (a.cells.map V.int).length = blendP a.cells (S.turn + 1) pr := by
          unfold blS
          rw [List.length_map, List.take_length]
        have hb := blS_b (cells := a.cells) (t := S.turn + 1) (p := pr) (n := (a.cells.map V.int).length) (by omega) (by omega) p1 p2 p3
        rw [eb] at hb ⊢
        obtain ⟨f0, f1⟩ := foundS_b a.cells (S.turn + 1) i (by omega)
        refine s_asg (v := .int (foundS a.cells (S.turn + 1) i * 2147483647 + blendP a.cells (S.turn + 1) pr ^ 5 % pr)) (ev_op (ev_op (ev_var rfl) ev_c (rv_I (wide_mul (a := 200) (b := 40) ?_ (by decide) (by decide) (by decide) (by decide)))) (ev_op (ev_cb (ea_cons (ev_op (ev_var rfl) ev_c (rv_I ⟨by decide, ?_⟩)) ea_nil) (z := .int (blendP a.cells (S.turn + 1) pr ^ 5)) fun H4 _ Q' q' => .inl ⟨_, rfl, q' H4 (Ex.refl H4)⟩) (ev_var rfl) (rv_I p1)) rv_I0) fun H4 e4 => ?_
        · have e5 : ((foundS a.cells (S.turn + 1) i).natAbs : Int) = foundS a.cells (S.turn + 1) i := Int.natAbs_of_nonneg f0
          have h7 : ((2 ^ 200 : Nat) : Int) = 2 ^ 200 := by norm_cast
          have h8 : (2147483647 : Int) ^ i ≤ 2 ^ 199 := by
            match i, hi3 with
            | 0, _ => decide
            | 1, _ => decide
            | 2, _ => decide
          have h9 : (2 : Int) ^ 199 < 2 ^ 200 := by decide
          omega
        · have hl : (blendP a.cells (S.turn + 1) pr).natAbs.log2 < 255 := PySem.Flt.log2_lt_of (by decide) hb
          have hb2 : Builtin.Int.intBits (blendP a.cells (S.turn + 1) pr) ≤ 256 := by
            unfold Builtin.Int.intBits
            split <;> omega
          omega
        · refine ⟨by omega, e.trans (e2.trans (e3.trans e4)), e4 _ _ (e3 _ _ (e2 _ _ hp)), some (.int pr), some (.int (blendP a.cells (S.turn + 1) pr)), y5, ?_⟩
          have e6 : foundS a.cells (S.turn + 1) (i + 1) = foundS a.cells (S.turn + 1) i * 2147483647 + blendP a.cells (S.turn + 1) pr ^ 5 % pr := by
            show mixP _ _ _ (prS.getD i 0) = _
            rw [hpp]
            rfl
          rw [e6]
          rfl
    · rintro p σ H' ⟨_, e, _, x3, x4, x5, rfl⟩
      refine s_ret (v := .int (foundS a.cells (S.turn + 1) 3)) (ev_var rfl) fun H2 e2 => ?_
      exact k H2 (D1.mono (e.trans e2)) (e01.trans (ex_hid (e.trans e2)))
end
end Qt
set_option maxRecDepth 100000
set_option maxHeartbeats 4000000
/-! A draw, a pick, the words. -/
namespace Qt
open PySem PySem.Spec PyProof.Rows L2 Evl Qd Qe Qs Qn Qw
open C8 (Cal pe_c)
local macro_rules | `(tactic| walk_at "r2s") => `(tactic| first
    | exact r2_I0b | exact r2_I0 | exact r2_eqI | exact r2_neI | exact r2_eqS | exact r2_neS | exact r2_eqB | exact r2_neB | exact r2_ltS | exact r2_inSign | exact r2_notInSign
    | exact r2_ixT rfl | exact r2_ixL rfl | exact r2_isN | exact r2_notN | exact r2_isBl)
local macro_rules | `(tactic| walk_at "dvs") => `(tactic| first
    | exact dv_int | exact dv_str | exact dv_bl | exact dv_non
    | (refine' ds_var ?hS ?hE; (case hS => assumption); (case hE => exact rfl))
    | (refine' dv_isa ?hT ?hA; (case hT => decide); (case hA => walk_at "dvs"))
    | (refine' dv_cb (da_cons ?hA da_nil) ?hR; (case hA => walk_at "dvs"); (case hR => first | exact ra_lenT | exact ra_lenL | exact ra_lenS (by assumption) | exact ra_all))
    | (refine' dv_op ?hA ?hB ?hR; (case hA => walk_at "dvs"); (case hB => walk_at "dvs"); (case hR => walk_at "r2s"))
    | (refine' dv_call (da_cons ?hA da_nil) (ra_sp ?hO); (case hA => walk_at "dvs"); (case hO => assumption)))
theorem ints_flat : ∀ xs : List Int, flatAll (xs.map .int) = true ∧ PyData.canLayAll0 (xs.map .int) = true ∧ PyData.depthAll (xs.map .int) = 0
  | [] => by simp [flatAll, PyData.canLayAll0, PyData.depthAll]
  | x :: xs => by
    obtain ⟨h1, h2, h3⟩ := ints_flat xs
    rw [List.map_cons]
    simp [flatAll, PyData.canLayAll0, PyData.depthAll, flat, PyData.canLay0, PyData.depth, h1, h2, h3]
section
variable {P : Program} {w : World} {K : PySem.W.Frag} {mg : Str → Option Value} {base : Heap}
/-- xs != [] of a list of whole numbers -/
theorem ne_nil {σ : L2.St} {H : Hp} {ta : TE} {l : Addr} {xs : List Int} (h : Ev ta σ H (.ref l)) (hl : H l = some (.lst (xs.map V.int))) : EvT (tTest (tOp (rNeU K) ta (tLst tNil))) σ H (!decide (xs = [])) := fun H1 e Q q =>
  h H1 e _ fun H2 e2 => ⟨by show (0 : Nat) ≤ sizeLine; decide, fun p hp => by
    have e3 : Ex H2 (upd H2 p (.lst [])) := Ex.new hp
    have r1 : Rp K (Wd.m (Wd.pure fun _ => False) (upd H2 p (.lst []))) (.ref l) (.list (xs.map .int)) := .lst ((hid_at (fun z => z)).trans (e3 _ _ (e2 _ _ (e _ _ hl)))) (Rps.of_ints xs)
    have r2 : Rp K (Wd.m (Wd.pure fun _ => False) (upd H2 p (.lst []))) (.ref p) (.list []) := .lst ((hid_at (fun z => z)).trans upd_same) .nil
    refine r2_neNil (W := Wd.pure fun _ => False) (ints_flat xs).1 (by simp [SeqAt.shaped, PyData.canLay0, PyData.depth, (ints_flat xs).2.1, (ints_flat xs).2.2]) 0 _ _ _ (fun _ h => h.elim) r1 r2 _ fun v H3 _ e4 rv => ⟨_, rp_bool rv, ?_⟩
    have ed : decide (xs.map PyData.int = []) = decide (xs = []) := decide_eq_decide.mpr (by simp)
    rw [ed]
    exact q H3 (e2.trans (e3.trans e4))⟩
def okRoom (ds : List PyData) : Prop := ∃ r : Int, ds = [.int r] ∧ 0 < r ∧ r ≤ 1000000
def roomOf (ds : List PyData) : Int := intD (d0 ds)
abbrev spDr (K : PySem.W.Frag) (a : At) : Sp := spS K a okRoom (fun S ds => .int (drawn a.cells (roomOf ds) S).1) fun S ds => (drawn a.cells (roomOf ds) S).2
abbrev names__law_draw : List Str := ["state", "room", "found"]
theorem sc__law_draw : FnScope names__law_draw ["state", "room"] (defScope s__law_draw) := ⟨rfl, rfl, rfl, by decide +kernel, rfl, by decide +kernel, by decide +kernel⟩
theorem ok__law_draw {a : At} {f : Addr} {fd : FuncData} (F : Fun K "_law_draw" "_law_draw" s__law_draw f fd) (T : Top K mg) (c__law_blended : Cal P w K mg base 1 "_law_blended" (spBl a) []) : FnOk P w K mg base CX0 2 f fd ["state", "room"] (spDr K a) := by
  refine F.ok sc__law_draw (fun vs H Q E h => ?_) fun cdv A outer s H vs Q E hr h => by
    have hu := hu_room hr
    have hu1 := hu_room1 hr
    refine ⟨_, (pss_cons (ps_if (pt_cmpR (op_eqU hu) (pe_dget hu1 (pv 0) pe_str (fun _ _ => rfl)) pe_int rfl) (pss_one (ps_dput hu1 (pv 0) pe_str (pe_ifExp (pt_cmpR (op_neU hu) (pe_dget hu1 (pv 0) pe_str (fun _ _ => rfl)) (pe_lst pa_nil) rfl) (pe_bm PySem.F.plainAttrs_list PySem.F.slot_list_pop PySem.F.type_list_pop mt_popAt (pe_dget hu1 (pv 0) pe_str (fun _ _ => rfl)) (pa_cons pe_int pa_nil)) (pe_c c__law_blended hr (by decide) (by rfl) (pa_cons (pv 0) pa_nil))) rfl)) pss_nil)
  (pss_cons (ps_set (i := 2) sc__law_draw.nd rfl (by first | exact .inl rfl | exact .inr rfl) (pe_op op_mod (pe_callTy call_int1 (by rfl) T.int boot_int (pa_cons (pe_dget hu1 (pv 0) pe_str (fun _ _ => rfl)) pa_nil)) (pv 1)))
  (pss_cons (ps_dput hu1 (pv 0) pe_str (pe_op op_fdivW (pe_dget hu1 (pv 0) pe_str (fun _ _ => rfl)) (pv 1)) rfl)
  (pss_one (ps_ret (pv 2)))))), ?_⟩
    obtain ⟨S, ds, B, ws, rfl, hB, al, D, rs, ⟨r, rfl, r0, r1⟩, ht, k⟩ := h
    cases rs with
    | cons rr t =>
      cases t
      have er := rp_int rr
      subst er
      obtain ⟨kvs, h1, g1, g2, g3, g4, g5⟩ := D.kv
      -- the rest of the def, from a state whose rest is not spent
      have rest : ∀ (S1 : Dst) (H1 : Hp), S1 = refill a.cells S → DAt a S1 H1 → Ex (hid (hides a) H) (hid (hides a) H1) →
          tSeq (tAsg (tOp (rI (fun _ j => 0 < j) fun i j => .int (i % j)) (tCB (fun xs H Q => (∃ i, xs = [.int i] ∧ Q (.int i) H) ∨ ∃ k, xs = [.bl k] ∧ Q (.int (if k then 1 else 0)) H) (tCons (tDGet (tVar 0) (tC (.str "rest"))) tNil)) (tVar 1)) (gName 2))
            (tSeq (sDPut (tVar 0) (tC (.str "rest")) (tOp (rI CDivW fun i j => .int (i / j)) (tDGet (tVar 0) (tC (.str "rest"))) (tVar 1))) (tRet (tVar 2))) { nx := fun _ H' => Q .non H', rt := Q } [some (.ref a.s), some (.int r), none] H1 := by
        intro S1 H1 eS D1 e1
        obtain ⟨kvs1, k1, _, _, k4, _, k6⟩ := D1.kv
        have gr := fun (σ : L2.St) (hσ : σ[0]? = some (some (.ref a.s))) => ev_dget (i := 0) hσ k1 k4
        refine q_asg (v := .int (S1.rest % r)) (ev_op (ev_cb (ea_cons (gr _ rfl) ea_nil) (z := .int S1.rest) fun H4 _ Q' q' => .inl ⟨_, rfl, q' H4 (Ex.refl H4)⟩) (ev_var rfl) (rv_I r0)) fun H2 e2 => ?_
        have hdiv : CDivW S1.rest r := ⟨r0, Nat.lt_of_lt_of_le (PySem.Flt.log2_lt_of (k := 20) (by decide) (by omega)) (by decide)⟩
        refine (ev_op ((gr _ rfl).mono e2) (ev_var rfl) (rv_I hdiv) : Ev _ [some (.ref a.s), some (.int r), some (.int (S1.rest % r))] H2 (.int (S1.rest / r))) H2 (Ex.refl H2) _ fun H3 e3 => ?_
        have k3 := e3 _ _ (e2 _ _ k1)
        refine ⟨.ref a.s, rfl, a.s, _, rfl, DPut.k (k := Sum.inr "rest") k3 (Nat.lt_of_le_of_lt k6 (by decide)), ?_⟩
        have D3 := put_rest ((D1.mono e2).mono e3) (r := S1.rest / r) (Int.ediv_nonneg D1.ok.2.1 (by omega)) k3
        refine ⟨.int (S1.rest % r), rfl, ?_⟩
        have eg : (.int (drawn a.cells (roomOf [.int r]) S).1 : PyData) = .int (S1.rest % r) := by rw [eS]; rfl
        have en : (drawn a.cells (roomOf [.int r]) S).2 = ⟨S1.gs, S1.rest / r, S1.turn⟩ := by rw [eS]; rfl
        refine k _ _ (by show DAt a (drawn a.cells (roomOf [.int r]) S).2 _; rw [en]; exact D3) (e1.trans ((ex_hid (e2.trans e3)).trans (hid_keep (.inl rfl)))) ?_
        show Rp K _ _ (.int (drawn a.cells (roomOf [.int r]) S).1)
        rw [eg]
        exact .int _
      have g0 := ev_dget (σ := [some (.ref a.s), some (.int r), none]) (i := 0) rfl h1 g3
      refine q_when (b := decide (S.rest = 0)) (et_test (ev_op g0 ev_c fun H4 _ Q' q' => .inl ⟨rfl, by
          rw [show decide (V.int S.rest = V.int 0) = decide (S.rest = 0) from decide_eq_decide.mpr (by simp)]
          exact q' H4 (Ex.refl H4)⟩)) (fun hz H1 e1 => ?_) fun hz H1 e1 => ?_
      · have hz := of_decide_eq_true hz
        have D1 := D.mono e1
        obtain ⟨kvs1, k1, k2, k3, k4, k5, k6⟩ := D1.kv
        have gg := ev_dget (σ := [some (.ref a.s), some (.int r), none]) (i := 0) rfl k1 k2
        -- the value stored
        refine (ne_nil (K := K) gg D1.gr) H1 (Ex.refl H1) _ fun H2 e2 => ?_
        cases hg : S.gs with
        | nil =>
          rw [show (!decide (([] : List Int) = [])) = false from rfl]
          refine ⟨.ref a.s, rfl, S, rfl, D1.mono e2, ht, fun H3 D3 e3 => ?_⟩
          obtain ⟨kvs3, m1, _, _, _, _, m6⟩ := D3.kv
          refine ⟨.ref a.s, rfl, a.s, _, rfl, DPut.k (k := Sum.inr "rest") m1 (Nat.lt_of_le_of_lt m6 (by decide)), ?_⟩
          refine rest ⟨S.gs, blended a.cells (S.turn + 1), S.turn + 1⟩ _ ?_ (put_rest D3 (blended_le _ _).1 m1) ((ex_hid (e1.trans e2)).trans (e3.trans (hid_keep (.inl rfl))))
          unfold refill
          rw [if_pos hz, hg]
        | cons x gs =>
          rw [show (!decide (x :: gs = ([] : List Int))) = true from by simp]
          have k1' := e2 _ _ k1
          have D2 := D1.mono e2
          refine ⟨.ref a.s, rfl, a.s, .ref a.g, rfl, (by have := DGet.k (k := Sum.inr "great") k1'; rw [k2] at this; exact this), .inl ⟨rfl, _, sq_of D2.gr⟩, a.g, _, 0, 0, .int x, rfl, rfl, D2.gr, by decide, by decide, ?_, ?_, ?_⟩
          · rw [hg]; exact (ixN_seq (ixN_nat (j := 0) (by simp))).1
          · rw [hg]; rfl
          · have eq : ((S.gs.map V.int).eraseIdx 0) = gs.map V.int := by rw [hg]; rfl
            rw [eq]
            have D3 := pop_great D2 hg
            obtain ⟨kvs3, m1, _, _, _, _, m6⟩ := D3.kv
            refine ⟨.ref a.s, rfl, a.s, _, rfl, DPut.k (k := Sum.inr "rest") m1 (Nat.lt_of_le_of_lt m6 (by decide)), ?_⟩
            refine rest ⟨gs, x, S.turn⟩ _ ?_ (put_rest D3 (D.ok.1 x (by rw [hg]; exact .head _)) m1) ((ex_hid (e1.trans e2)).trans ((hid_keep (.inr (.inl rfl))).trans (hid_keep (.inl rfl))))
            unfold refill
            rw [if_pos hz, hg]
      · have hz := of_decide_eq_false hz
        refine rest S H1 ?_ (D.mono e1) (ex_hid e1)
        unfold refill
        rw [if_neg hz]
  · obtain ⟨S, ds, B, ws, rfl, hB, al, D, rs, ⟨r, rfl, r0, r1⟩, ht, k⟩ := h
    show (ws.length + 1) = 2
    rw [rs.len]
    rfl
end
end Qt
set_option maxRecDepth 100000
set_option maxHeartbeats 4000000
/-! A pick, the words. -/
namespace Qt
open PySem PySem.Spec PyProof.Rows L2 Evl Qd Qe Qs Qn Qw
open C8 (Cal pe_c)
local macro_rules | `(tactic| walk_at "r2s") => `(tactic| first
    | exact r2_I0b | exact r2_I0 | exact r2_eqI | exact r2_neI | exact r2_eqS | exact r2_neS | exact r2_eqB | exact r2_neB | exact r2_ltS | exact r2_inSign | exact r2_notInSign
    | exact r2_ixT rfl | exact r2_ixL rfl | exact r2_isN | exact r2_notN | exact r2_isBl)
local macro_rules | `(tactic| walk_at "dvs") => `(tactic| first
    | exact dv_int | exact dv_str | exact dv_bl | exact dv_non
    | (refine' ds_var ?hS ?hE; (case hS => assumption); (case hE => exact rfl))
    | (refine' dv_isa ?hT ?hA; (case hT => decide); (case hA => walk_at "dvs"))
    | (refine' dv_cb (da_cons ?hA da_nil) ?hR; (case hA => walk_at "dvs"); (case hR => first | exact ra_lenT | exact ra_lenL | exact ra_lenS (by assumption) | exact ra_all))
    | (refine' dv_op ?hA ?hB ?hR; (case hA => walk_at "dvs"); (case hB => walk_at "dvs"); (case hR => walk_at "r2s"))
    | (refine' dv_call (da_cons ?hA da_nil) (ra_sp ?hO); (case hA => walk_at "dvs"); (case hO => assumption)))
theorem hidB_up {a : At} {B : Addr → Prop} {H H' : Hp} (hB : ∀ p, hides a p → B p) (r : Ex (hid (hides a) H) (hid (hides a) H')) : Ex (hid B H) (hid B H') := fun p o e => by
  obtain ⟨h1, h2⟩ := hid_vis e
  have q := r p o (by rw [hid_at fun z => h1 (hB p z)]; exact h2)
  rw [hid_at h1]
  exact (hid_vis q).2
theorem alive_up {a : At} {B : Addr → Prop} {S : Dst} {H H' : Hp} (al : ∀ p, B p → H p ≠ none) (r : Ex (hid (hides a) H) (hid (hides a) H')) (D : DAt a S H') : ∀ p, B p → H' p ≠ none := fun p hp z => by
  by_cases hh : hides a p
  · obtain ⟨⟨kvs, h1, _⟩, h3, h4, _⟩ := D
    rcases hh with rfl | rfl | rfl
    · rw [h1] at z; cases z
    · rw [h3] at z; cases z
    · rw [h4] at z; cases z
  · obtain ⟨o, e⟩ := Option.ne_none_iff_exists'.mp (al p hp)
    have e2 := r p o (by rw [hid_at hh]; exact e)
    rw [(hid_vis e2).2] at z
    cases z
theorem alive_ex {B : Addr → Prop} {H H' : Hp} (al : ∀ p, B p → H p ≠ none) (e : Ex H H') : ∀ p, B p → H' p ≠ none := fun p hp z => by
  obtain ⟨o, q⟩ := Option.ne_none_iff_exists'.mp (al p hp)
  rw [e p o q] at z
  cases z
section
variable {P : Program} {w : World} {K : PySem.W.Frag} {mg : Str → Option Value} {base : Heap}
/-- plain words from words on data -/
theorem et_pure {B : Addr → Prop} {σ : L2.St} {H : Hp} {t : TT} {b : Bool} (al : ∀ p, B p → H p ≠ none) (h : EtD (Wd.pure B) t σ H b) : EvT t σ H b := fun H1 e Q q => h 0 H1 (alive_ex al e) (ex_hid e) Q fun H2 _ r => q H2 r
def okPick (ds : List PyData) : Prop := ∃ xs, ds = [.list xs] ∧ 0 < xs.length ∧ xs.length ≤ 1000000
def itemsOf : PyData → List PyData
  | .list xs => xs
  | _ => []
def pickD (cells : List Int) (S : Dst) (ds : List PyData) : PyData := (itemsOf (d0 ds)).getD (drawn cells (itemsOf (d0 ds)).length S).1.toNat .none
abbrev spPk (K : PySem.W.Frag) (a : At) : Sp := spS K a okPick (pickD a.cells) fun S ds => (drawn a.cells (itemsOf (d0 ds)).length S).2
abbrev names__law_pick : List Str := ["state", "some"]
theorem sc__law_pick : FnScope names__law_pick ["state", "some"] (defScope s__law_pick) := ⟨rfl, rfl, rfl, by decide +kernel, rfl, by decide +kernel, by decide +kernel⟩
theorem ok__law_pick {a : At} {f : Addr} {fd : FuncData} (F : Fun K "_law_pick" "_law_pick" s__law_pick f fd) (T : Top K mg) (c__law_draw : Cal P w K mg base 2 "_law_draw" (spDr K a) []) : FnOk P w K mg base CX0 3 f fd ["state", "some"] (spPk K a) := by
  refine F.ok sc__law_pick (fun vs H Q E h => ?_) fun cdv A outer s H vs Q E hr h => by
    refine ⟨_, (pss_one (ps_ret (pe_ix ix_seq (pv 1) (pe_c c__law_draw hr (by decide) (by rfl) (pa_cons (pv 0) (pa_cons (pe_callB call_len (by rfl) T.len boot_len (pa_cons (pv 1) pa_nil)) pa_nil))) (fun _ _ => rfl)))), ?_⟩
    obtain ⟨S, ds, B, ws, rfl, hB, al, D, rs, ⟨xs, rfl, x0, x1⟩, ht, k⟩ := h
    cases rs with
    | cons rr t =>
      cases t
      obtain ⟨l, vs, rfl, hl, rvs⟩ := rp_lst rr
      have hlen := rvs.len
      refine ⟨.ref l, rfl, .ref a.s, rfl, .ref l, rfl, .ref l, xs.length, rfl, .inl ⟨vs, sq_of (hid_ex _ _ hl), hlen.symm⟩, S, [.int xs.length], B, [.int xs.length], rfl, hB, al, D, .cons (.int _) .nil, ⟨_, rfl, by omega, by omega⟩, ht, fun v H' D' e rp => ?_⟩
      have eg := rp_int rp
      subst eg
      obtain ⟨_, _, i0, i1⟩ := drawn_ok (cells := a.cells) (room := xs.length) (by omega) D.ok
      have up := hidB_up hB e
      have hx : xs[(drawn a.cells xs.length S).1.toNat]? = some (xs.getD (drawn a.cells xs.length S).1.toNat .none) := by
        rw [List.getD_eq_getElem?_getD, List.getElem?_eq_getElem (by omega)]
        rfl
      obtain ⟨y, h1, h2⟩ := Rps.at' rvs hx
      refine .inl ⟨l, vs, _, y, rfl, rfl, sq_of (hid_ex _ _ (up _ _ hl)), ?_, k y H' D' e (h2.mono up)⟩
      show atI vs (drawn a.cells xs.length S).1 = some y
      unfold atI
      have e3 : (drawn a.cells xs.length S).1 = (((drawn a.cells xs.length S).1.toNat : Nat) : Int) := by omega
      rw [e3, ixN_nat (by omega)]
      exact h1
  · obtain ⟨S, ds, B, ws, rfl, hB, al, D, rs, ⟨r, rfl, r0, r1⟩, ht, k⟩ := h
    show (ws.length + 1) = 2
    rw [rs.len]
    rfl
/-! ### the words -/
theorem letters_snoc {cells : List Int} : ∀ (n : Nat) (S : Dst), letters cells (n + 1) S = ((letters cells n S).1 ++ [(drawn cells 26 (letters cells n S).2).1], (drawn cells 26 (letters cells n S).2).2)
  | 0, S => rfl
  | n + 1, S => by
    have ih := letters_snoc (cells := cells) n (drawn cells 26 S).2
    show ((drawn cells 26 S).1 :: (letters cells (n + 1) (drawn cells 26 S).2).1, (letters cells (n + 1) (drawn cells 26 S).2).2) = _
    rw [ih]
    rfl
def sgnI (i : Int) : Str := ⟨#[97 + i.toNat]⟩
theorem abc_at : ∀ n, n < 26 → abc.cps.toList[n]? = some (97 + n) := by decide +kernel
theorem abc_len : abc.cps.toList.length = 26 := by decide +kernel
theorem join_sgn : ∀ ls : List Int, Str.join "" (ls.map sgnI) = wStr ls
  | [] => rfl
  | [x] => rfl
  | x :: z :: r => by
    have ih := join_sgn (z :: r)
    show sgnI x ++ ("" : Str) ++ Str.join "" ((z :: r).map sgnI) = wStr (x :: z :: r)
    rw [ih]
    show (⟨(#[97 + x.toNat] ++ #[]) ++ ((z :: r).map fun i => 97 + i.toNat).toArray⟩ : Str) = ⟨((x :: z :: r).map fun i => 97 + i.toNat).toArray⟩
    congr 1
    apply Array.toList_inj.mp
    simp
theorem dat_upd {a : At} {S : Dst} {H : Hp} {L : Addr} {o : HO} (D : DAt a S H) (h : ¬ hides a L) : DAt a S (upd H L o) := by
  have n1 : a.s ≠ L := fun e => h (.inl e.symm)
  have n2 : a.g ≠ L := fun e => h (.inr (.inl e.symm))
  have n3 : a.c ≠ L := fun e => h (.inr (.inr e.symm))
  obtain ⟨⟨kvs, h1, h2⟩, h3, h4, k1, k2, k3, k4, k5, k6⟩ := D
  exact ⟨⟨kvs, by rw [upd_ne n1]; exact h1, h2⟩, by rw [upd_ne n2]; exact h3, by rw [upd_ne n3]; exact h4, k1, k2, k3, k4, k5, k6⟩
theorem sum_sgn : ∀ ls : List Int, ((ls.map sgnI).map (·.length)).sum = ls.length
  | [] => rfl
  | x :: r => by
    rw [List.map_cons, List.map_cons, List.sum_cons, sum_sgn r, List.length_cons, Nat.add_comm]
    rfl
/-- a word is drawn -/
theorem word_do {a : At} {B : Addr → Prop} {S : Dst} {σ : L2.St} {H : Hp} {x : Option V} (hB : ∀ p, hides a p → B p) (al : ∀ p, B p → H p ≠ none) (D : DAt a S H) (ht : S.turn + 20 + U ≤ LIM) (h0 : σ[0]? = some (some (.ref a.s))) (Q : VK)
    (k : ∀ H', DAt a (wordN a.cells S).2 H' → Ex (hid (hides a) H) (hid (hides a) H') → Q (.str (wStr (wordN a.cells S).1)) H') :
    tM1 (fun x xs H Q => ∃ a p, ∃ ys : List Str, x = .str a ∧ xs = [.ref p] ∧ (SqL K H p (ys.map V.str) ∨ SqT K H p (ys.map V.str)) ∧ (ys.map (·.length)).sum + ys.length * a.length ≤ 16777216 ∧ Q (.str (Txt.join a ys)) H) (tC (.str ""))
      (tLc (iRng1 (tCons (tOp (rI0 fun i j => .int (i + j)) (tC (.int 1)) (tCall (spDr K a) [] C8.E0 (tCons (tVar 0) (tCons (tC (.int 8)) tNil)))) tNil)) (gName 4) tYes (tCall (spPk K a) [] C8.E0 (tCons (tVar 0) (tCons (tCB rListS (tCons (tC (.str abc)) tNil)) tNil))) [4]) σ H Q := by
  refine ⟨⟨_, rfl⟩, .ref a.s, h0, S, [.int 8], B, [.int 8], rfl, hB, al, D, .cons (.int _) .nil, ⟨8, rfl, by decide, by decide⟩, by omega, fun v H1 D1 e1 rp => ?_⟩
  have eg := rp_int rp
  subst eg
  obtain ⟨ok1, t1, i0, i1⟩ := drawn_ok (cells := a.cells) (room := 8) (by decide) D.ok
  have D1 : DAt a (drawn a.cells 8 S).2 H1 := D1
  generalize hS1 : (drawn a.cells 8 S).2 = S1 at D1 ok1 t1
  obtain ⟨n, hn⟩ : ∃ n : Nat, 1 + (drawn a.cells 8 S).1 = (n : Int) := ⟨(1 + (drawn a.cells 8 S).1).toNat, by omega⟩
  have hn8 : n ≤ 8 := by omega
  refine ⟨1, _, rfl, rfl, (n : Int), by rw [← hn]; rfl, by omega, by omega, fun L hL => ?_⟩
  have al1 := alive_up al e1 D1
  have nL : ¬ B L := fun z => al1 L z hL
  have nL' : ¬ hides a L := fun z => nL (hB L z)
  rw [Int.toNat_natCast]
  refine lc_it walk_range (fun i H => DAt a (letters a.cells i S1).2 H ∧ Ex (hid (hides a) H1) (hid (hides a) H) ∧ H L = some (.lst (((letters a.cells i S1).1.map sgnI).map V.str)) ∧ (∀ p, B p → H p ≠ none)) ?_ ?_ ?_ ?_
  · exact ⟨dat_upd D1 nL', ex_hid (Ex.new hL), upd_same, alive_ex al1 (Ex.new hL)⟩
  · exact fun _ _ _ _ => trivial
  · rintro i x H2 H2' hi ⟨D2, e2, hL2, al2⟩ ⟨rfl, rfl⟩
    obtain ⟨oki, ti, li, mi⟩ := letters_ok (cells := a.cells) i ok1
    refine ⟨set_wipe, .ref a.s, ?_, ⟨abc, rfl, by decide +kernel, fun p hp => ?_⟩⟩
    · show ((σ.set 4 none).set 4 _)[0]? = _
      rw [List.getElem?_set_ne (by decide), List.getElem?_set_ne (by decide)]
      exact h0
    · have np : ¬ hides a p := fun z => al2 p (hB p z) hp
      have D3 := dat_upd D2 (o := .lst (abc.cps.toList.map fun c => V.str ⟨#[c]⟩)) np
      have nxp := Ex.new (o := .lst (abc.cps.toList.map fun c => V.str ⟨#[c]⟩)) hp
      obtain ⟨_, _, rp3⟩ := lst_new (W := Wd.pure B) (K := K) (b := 0) (ds := (abc.cps.toList.map fun c => (⟨#[c]⟩ : Str)).map .str) al2 hp (vs := abc.cps.toList.map fun c => V.str ⟨#[c]⟩) (by
        have := Rps.of_strs (K := K) (H := (Wd.pure B).m H2') (abc.cps.toList.map fun c => (⟨#[c]⟩ : Str))
        rw [List.map_map] at this
        exact this)
      refine ⟨(letters a.cells i S1).2, [_], B, [.ref p], rfl, hB, alive_ex al2 nxp, D3, .cons rp3 .nil, ⟨_, rfl, by rw [List.length_map, List.length_map, abc_len]; decide, by rw [List.length_map, List.length_map, abc_len]; decide⟩, by omega, fun v H4 D4 e4 rv => ?_⟩
      have hlen : (((abc.cps.toList.map fun c => (⟨#[c]⟩ : Str)).map PyData.str).length : Int) = 26 := by rw [List.length_map, List.length_map, abc_len]; rfl
      have hpick : pickD a.cells (letters a.cells i S1).2 [.list ((abc.cps.toList.map fun c => (⟨#[c]⟩ : Str)).map .str)] = .str (sgnI (drawn a.cells 26 (letters a.cells i S1).2).1) := by
        show ((abc.cps.toList.map fun c => (⟨#[c]⟩ : Str)).map PyData.str).getD (drawn a.cells (((abc.cps.toList.map fun c => (⟨#[c]⟩ : Str)).map PyData.str).length : Int) (letters a.cells i S1).2).1.toNat .none = _
        rw [hlen]
        obtain ⟨_, _, q0, q1⟩ := drawn_ok (cells := a.cells) (room := 26) (by decide) oki
        rw [List.getD_eq_getElem?_getD, List.getElem?_map, List.getElem?_map, abc_at _ (by omega)]
        rfl
      have rv : Rp K (hid B H4) v (pickD a.cells (letters a.cells i S1).2 [.list ((abc.cps.toList.map fun c => (⟨#[c]⟩ : Str)).map .str)]) := rv
      rw [hpick] at rv
      have ev := rp_str rv
      subst ev
      have D4 : DAt a (drawn a.cells (((abc.cps.toList.map fun c => (⟨#[c]⟩ : Str)).map PyData.str).length : Int) (letters a.cells i S1).2).2 H4 := D4
      rw [hlen] at D4
      have eL : H4 L = some (.lst (((letters a.cells i S1).1.map sgnI).map V.str)) := by
        have q := e4 L _ (by rw [hid_at nL', upd_ne (ne_of_none hL2 hp)]; exact hL2)
        exact (hid_vis q).2
      refine ⟨_, eL, sz_lt (by simp [li]; omega), by rw [letters_snoc]; exact dat_upd D4 nL', ?_, ?_, ?_⟩
      · intro q o h
        obtain ⟨h1, h2⟩ := hid_vis h
        have ne : q ≠ L := ne_of_none h2 hL
        have h3 := e4 q o (by
          have h5 := e2 q o h
          obtain ⟨_, h6⟩ := hid_vis h5
          rw [hid_at h1]
          exact nxp q o h6)
        rw [hid_at h1, upd_ne ne]
        exact (hid_vis h3).2
      · rw [letters_snoc, List.map_append, List.map_append]
        exact upd_same
      · have al4 := alive_up (alive_ex al2 nxp) e4 D4
        intro q hq
        rw [upd_ne fun e => nL (by rw [← e]; exact hq)]
        exact al4 q hq
  · rintro H2 ⟨D2, e2, hL2, al2⟩
    obtain ⟨oki, ti, li, mi⟩ := letters_ok (cells := a.cells) n ok1
    refine ⟨"", L, (letters a.cells n S1).1.map sgnI, rfl, rfl, .inl (sq_of hL2), ?_, ?_⟩
    · rw [sum_sgn, li]
      show n + _ * 0 ≤ _
      omega
    · rw [show Txt.join "" ((letters a.cells n S1).1.map sgnI) = wStr (letters a.cells n S1).1 from (eq_of_beq (PyProof.Rows.join_plain_closes _ _)).trans (join_sgn _)]
      have ew : wordN a.cells S = letters a.cells n S1 := by
        unfold wordN
        rw [hn, hS1, Int.toNat_natCast]
      have q := k H2 (by rw [ew]; exact D2) (e1.trans e2)
      rw [ew] at q
      exact q
theorem s_asgR {te : TE} {i : Nat} {tz : TS} {D : Ends} {σ : L2.St} {H : Hp} (h : te σ H fun v H1 => tz D (σ.set i (some v)) H1) : tSeq (tAsg te (gName i)) tz D σ H := h
theorem s_asgE {te : TE} {i : Nat} {D : Ends} {σ : L2.St} {H : Hp} (h : te σ H fun v H1 => D.nx (σ.set i (some v)) H1) : tAsg te (gName i) D σ H := h
theorem dpall_strs {H : Hp} : ∀ {zs : List Str} {vs : List V}, DpAll K H vs (zs.map .str) → vs = zs.map V.str
  | [], _, h => by
    have h : DpAll K H _ [] := h
    cases h; rfl
  | z :: zs, _, h => by
    have h : DpAll K H _ (.str z :: zs.map .str) := h
    cases h with
    | cons r t => cases r; rw [dpall_strs t]; rfl
/-- sorted(xs) of distinct texts -/
theorem pv_sortedS {W : Wd} {σ : L2.St} {H : Hp} {te : TE} {xs : List Str} (nd : xs.Nodup) (h : EvD W K te σ H (.list (xs.map .str))) : EvP W K 0 (tCB (rSortedD K) (tCons te tNil)) σ H (fun r => ∃ ys : List Str, r = .list (ys.map .str) ∧ SortOf xs ys ∧ ys.length = xs.length) := fun b H1 i e Q g =>
  h b H1 i e _ fun v H2 i2 r2 rp => by
    obtain ⟨a, vs, rfl, hs, rs⟩ := rp_lst (un rp)
    refine ⟨a, vs, xs.map .str, rfl, sq_of hs, rs.dp (flatAll_strs xs), fun x hx y hy => ?_, .inr fun x hx => ?_, fun x hx => ?_, fun p ys hp pm hd => ?_⟩
    · obtain ⟨x', _, rfl⟩ := List.mem_map.mp hx
      obtain ⟨y', _, rfl⟩ := List.mem_map.mp hy
      rfl
    · obtain ⟨x', _, rfl⟩ := List.mem_map.mp hx
      exact ⟨by simp, fun _ => by simp⟩
    · obtain ⟨x', _, rfl⟩ := List.mem_map.mp hx
      simp [PyData.depth]
    · -- the sorted keys
      have pk := srt_perm (xs.map PyData.str)
      let ks : List Key := (srt (xs.map PyData.str)).map fun d => .inr (strS d)
      have hks : ks.map kD = srt (xs.map PyData.str) := by
        show ((srt (xs.map PyData.str)).map fun d => (.inr (strS d) : Key)).map kD = _
        rw [List.map_map]
        refine (List.map_congr_left fun d hd => ?_).trans (List.map_id' _)
        obtain ⟨x, _, rfl⟩ := List.mem_map.mp (pk.mem_iff.mp hd)
        rfl
      have hxs : (xs.map Sum.inr : List Key).map kD = xs.map PyData.str := by rw [List.map_map]; rfl
      have pm2 : ks.Perm (xs.map Sum.inr) := by
        have := pk.map fun d => (.inr (strS d) : Key)
        rw [List.map_map] at this
        exact this
      have ndk : (xs.map Sum.inr : List Key).Nodup := List.Pairwise.map _ (fun a b hne e => hne (Sum.inr.inj e)) nd
      obtain ⟨s1, s2⟩ := sorted_keys (ys := ks) (L := xs.map Sum.inr) (xs := xs) ndk (fun j => Iff.rfl) pm2 (by rw [hks, hxs])
      have ev : ys = (ks.map keyStr).map V.str := by
        have hd2 : DpAll K H2 ys ((ks.map keyStr).map .str) := by
          have e2 : (ks.map keyStr).map PyData.str = srt (xs.map PyData.str) := by
            rw [← hks, List.map_map]
            refine List.map_congr_left fun k hk => ?_
            obtain ⟨x, _, rfl⟩ := List.mem_map.mp (pm2.mem_iff.mp hk)
            rfl
          rw [e2]
          exact hd
        exact dpall_strs hd2
      subst ev
      obtain ⟨i5, r5, rp5⟩ := lst_new (W := W) (K := K) i2 hp (Rps.of_strs (ks.map keyStr))
      refine g _ _ _ i5 (W.trans r2 r5) rp5 ⟨_, rfl, s2, ?_⟩
      rw [List.length_map, pm2.length_eq, List.length_map]
/-! ### the words, one by one -/
theorem rep_q (n : Nat) : repS "q" n = qs n := by
  unfold repS qs
  congr 1
  congr 1
  induction n with
  | zero => rfl
  | succ n ih => rw [List.replicate_succ, List.flatten_cons, ih, List.replicate_succ]; rfl
theorem r2_addS {W : Wd} {x y : Str} (h : x.length + y.length ≤ 100000) : R2D W K (fun x y H Q => ∃ i j, x = .str i ∧ y = .str j ∧ i.length + j.length ≤ sizeLine ∧ Q (.str (i ++ j)) H) (.str x) (.str y) (.str (x ++ y)) :=
  r2_val (v := .str (x ++ y)) (fun H v u rx ry Q q => ⟨x, y, rp_str rx, rp_str ry, sz_of h, q⟩) fun _ => .str _
theorem r2_mulS {W : Wd} {z : Str} {n : Nat} (h : n ≤ 1000) (hz : z.length ≤ 1000) : R2D W K rMulS (.str z) (.int n) (.str (repS z n)) :=
  r2_val (v := .str (repS z n)) (fun H v u rx ry Q q => ⟨z, n, rp_str rx, rp_int ry, by omega, by omega, hz, by rw [Int.toNat_natCast]; exact q⟩) fun _ => .str _
theorem sign_word : ∀ n, n < 26 → 97 + n ∈ abc.cps.toList := by decide +kernel
theorem wStr_word {ls : List Int} (h1 : 1 ≤ ls.length) (h8 : ls.length ≤ 8) (h : ∀ x ∈ ls, 0 ≤ x ∧ x < 26) : isWordS (wStr ls) = true := by
  have e : (wStr ls).length = ls.length := by show ((ls.map fun i => 97 + i.toNat).toArray).size = _; simp
  unfold isWordS
  rw [e, decide_eq_true (by omega), decide_eq_true (by omega), Bool.true_and, Bool.true_and, List.all_eq_true]
  intro c hc
  have hc : c ∈ ls.map fun i => 97 + i.toNat := hc
  obtain ⟨x, hx, rfl⟩ := List.mem_map.mp hc
  obtain ⟨a1, a2⟩ := h x hx
  exact decide_eq_true (sign_word _ (by omega))
theorem q_sign : 113 ∈ abc.cps.toList := by decide +kernel
theorem word_len {x : Str} (h : isWordS x = true) : 1 ≤ x.length ∧ x.length ≤ 8 := by
  unfold isWordS at h
  simp only [Bool.and_eq_true, decide_eq_true_eq] at h
  omega
theorem word_signs {x : Str} (h : isWordS x = true) : ∀ c ∈ x.cps.toList, c ∈ abc.cps.toList := by
  unfold isWordS at h
  rw [Bool.and_eq_true] at h
  exact fun c hc => of_decide_eq_true (List.all_eq_true.mp h.2 c hc)
theorem cut_one {w : Str} : (cutS w none (some 1)).cps.toList = w.cps.toList.take 1 := by
  show (w.cps.toList.drop (HT.sIx w.length 0 none)).take (HT.sIx w.length w.length (some ((1 : Nat) : Int)) - HT.sIx w.length 0 none) = _
  rw [HT.sIx_none, HT.sIx_nat, List.drop_zero, Nat.sub_zero]
  show w.cps.toList.take (min 1 w.length) = _
  have : w.cps.toList.length = w.length := Array.length_toList
  rw [← this]
  cases w.cps.toList <;> simp
theorem alt_list (w : Str) (n : Nat) : (altW w n).cps.toList = w.cps.toList.take 1 ++ List.replicate n 113 := by
  show ((cutS w none (some 1)).cps ++ (qs n).cps).toList = _
  rw [Array.toList_append, cut_one]
  rfl
theorem alt_word {w : Str} {n : Nat} (h : isWordS w = true) (hn : n < 8) : isWordS (altW w n) = true := by
  have e := alt_list w n
  obtain ⟨l1, l2⟩ := word_len h
  have hl : w.cps.toList.length = w.length := Array.length_toList
  have el : (altW w n).length = 1 + n := by
    have : (altW w n).cps.toList.length = 1 + n := by rw [e, List.length_append, List.length_take, List.length_replicate]; omega
    rw [← this]; exact Array.length_toList.symm
  unfold isWordS
  rw [el, decide_eq_true (by omega), decide_eq_true (by omega), Bool.true_and, Bool.true_and, e, List.all_append, Bool.and_eq_true]
  refine ⟨List.all_eq_true.mpr fun c hc => decide_eq_true (word_signs h c (List.mem_of_mem_take hc)), List.all_eq_true.mpr fun c hc => ?_⟩
  rw [(List.mem_replicate.mp hc).2]
  exact decide_eq_true q_sign
/-- what is found stays good -/
def goodW (found : List Str) : Prop := (∀ w ∈ found, isWordS w = true) ∧ found.Nodup
theorem next_good {found : List Str} {w : Str} (h : goodW found) (hw : isWordS w = true) : goodW (nextFound found w) := by
  unfold nextFound
  split
  · split
    · rw [List.append_nil]; exact h
    · split
      · rename_i h1 h2 h3
        refine ⟨fun x hx => ?_, ?_⟩
        · rcases List.mem_append.mp hx with m | m
          · exact h.1 x m
          · rw [List.mem_singleton.mp m]; exact alt_word hw h3
        · exact List.nodup_append.mpr ⟨h.2, List.nodup_cons.mpr ⟨by simp, .nil⟩, fun x hx y hy e => h2 (by rw [List.mem_singleton.mp hy] at e; rw [← e]; exact hx)⟩
      · rw [List.append_nil]; exact h
  · rename_i h1
    refine ⟨fun x hx => ?_, ?_⟩
    · rcases List.mem_append.mp hx with m | m
      · exact h.1 x m
      · rw [List.mem_singleton.mp m]; exact hw
    · exact List.nodup_append.mpr ⟨h.2, List.nodup_cons.mpr ⟨by simp, .nil⟩, fun x hx y hy e => h1 (by rw [List.mem_singleton.mp hy] at e; rw [← e]; exact hx)⟩
theorem add_len (found : List Str) (word : Str) : (if word ∈ found then (if altW word found.length ∈ found then [] else if found.length < 8 then [altW word found.length] else []) else [word]).length ≤ 1 := by
  split
  · split
    · simp
    · split <;> simp
  · simp
theorem nd_of_lt {ys : List Str} (h : ys.Pairwise Qe.lt) : ys.Nodup := by
  refine List.Pairwise.imp (fun {a b} hab e => ?_) h
  rw [e] at hab
  exact lt_irr b hab
def okMany (ds : List PyData) : Prop := ∃ n : Nat, ds = [.int n] ∧ n ≤ 8
def pWords (ds : List PyData) (d : PyData) : Prop := ∃ ws : List Str, d = .list (ws.map .str) ∧ (ws.length : Int) = intD (d0 ds) ∧ goodW ws
abbrev spWo (K : PySem.W.Frag) (a : At) : Sp := spD K a 1 okMany pWords
abbrev names__law_words : List Str := ["draws", "many", "found", "word", "lap"]
theorem sc__law_words : FnScope names__law_words ["draws", "many"] (defScope s__law_words) := ⟨rfl, rfl, rfl, by decide +kernel, rfl, by decide +kernel, by decide +kernel⟩
theorem ok__law_words {a : At} {f : Addr} {fd : FuncData} (F : Fun K "_law_words" "_law_words" s__law_words f fd) (T : Top K mg) (c__law_draw : Cal P w K mg base 2 "_law_draw" (spDr K a) []) (c__law_pick : Cal P w K mg base 3 "_law_pick" (spPk K a) []) :
    FnOk P w K mg base CX0 4 f fd ["draws", "many"] (spWo K a) := by
  refine F.ok sc__law_words (fun vs H Q E h => ?_) fun cdv A outer s H vs Q E hr h => by
    have hu := hu_room hr
    refine ⟨_, (pss_cons (ps_set (i := 2) sc__law_words.nd rfl (by first | exact .inl rfl | exact .inr rfl) (pe_lst pa_nil))
  (pss_cons (ps_while PassesOwn.never (pt_cmpR op_lt (pe_callB call_len (by rfl) T.len boot_len (pa_cons (pv 2) pa_nil)) (pv 1) rfl) (pss_cons (ps_set (i := 3) sc__law_words.nd rfl (by first | exact .inl rfl | exact .inr rfl) (pe_join pe_str (pe_lc (own := [("lap", 4)]) (g := gName 4) (tt := tYes) rfl sc__law_words.nd (pi_range1 (by rfl) T.range (pa_cons (pe_op op_add pe_int (pe_c c__law_draw hr (by decide) (by rfl) (pa_cons (pv 0) (pa_cons pe_int pa_nil)))) pa_nil)) (blkOk_by (N := names__law_words) (sc := defScope s__law_words) (by decide +kernel)) (fun _ _ _ _ _ => (pg_name (i := 4) sc__law_words.nd rfl (by first | exact .inl rfl | exact .inr rfl))) (fun _ _ _ _ _ => pts_nil) (fun _ _ _ _ _ => (pe_c c__law_pick hr (by decide) (by rfl) (pa_cons (pv 0) (pa_cons (pe_callTy (cr_listS rfl) (by rfl) T.list boot_list (pa_cons pe_str pa_nil)) pa_nil)))))))
    (pss_one (ps_set (i := 2) sc__law_words.nd rfl (by first | exact .inl rfl | exact .inr rfl) (pe_op op_cat (pv 2) (pe_ifExp (pt_cmpR op_notIn_seq (pv 3) (pv 2) rfl) (pe_lst (pa_cons (pv 3) pa_nil)) (pe_ifExp (PW.pt (pw_and (pt_cmpR op_notIn_seq (pe_op op_add_str (pe_slice sl_str (pv 3) po_none (po_some pe_int)) (pe_op op_mulS pe_str (pe_callB call_len (by rfl) T.len boot_len (pa_cons (pv 2) pa_nil)))) (pv 2) rfl) (pw_and1 (pt_cmpR op_lt (pe_callB call_len (by rfl) T.len boot_len (pa_cons (pv 2) pa_nil)) pe_int rfl)))) (pe_lst (pa_cons (pe_op op_add_str (pe_slice sl_str (pv 3) po_none (po_some pe_int)) (pe_op op_mulS pe_str (pe_callB call_len (by rfl) T.len boot_len (pa_cons (pv 2) pa_nil)))) pa_nil)) (pe_lst pa_nil))))))))
  (pss_one (ps_ret (pe_callB (cr_sortedD hu) (by rfl) T.sorted b_sorted (pa_cons (pv 2) pa_nil)))))), ?_⟩
    obtain ⟨b, ds, B, hB, ws, rfl, ⟨⟨S, D, ht⟩, al⟩, rs, ⟨n, rfl, hn⟩, k⟩ := h
    cases rs with
    | cons rr t =>
      cases t
      have er := rp_int rr
      subst er
      have hbU : (0 : Int) ≤ b * U := Int.mul_nonneg (by omega) (by decide)
      have eU : ((b + 1 : Nat) : Int) * U = b * U + U := by rw [Int.natCast_add, Int.add_mul]; simp
      rw [eU] at ht
      have hbig : (9 : Int) * (big + 40) + 40 ≤ U := by decide
      have hbig0 : (0 : Int) < big + 40 := by decide
      have htb : S.turn + ((n : Nat) + 1 : Int) * (big + 40) ≤ S.turn + U := by
        have : ((n : Nat) + 1 : Int) * (big + 40) ≤ 9 * (big + 40) := Int.mul_le_mul_of_nonneg_right (by omega) (by omega)
        omega
      obtain ⟨m0, hm0⟩ := runs D.ln (many := n) hn n (S.turn + U) S [] D.ok (by simp) htb
      -- found = []
      refine q_asgL (xs := []) (el_lst ea_nil (by decide)) fun p H1 hp e1 hp1 => ?_
      have al1 := alive_ex al e1
      have nB : ¬ B p := fun z => al p z hp
      refine q_while (fun m σ H' => ∃ S' found v x3 x4, DAt a S' H' ∧ Ex (hid (hides a) H) (hid (hides a) H') ∧ σ = [some (.ref a.s), some (.int n), some v, x3, x4] ∧ Rp K (hid B H') v (.list (found.map .str)) ∧ Runs a.cells n (S.turn + U) m S' found ∧ goodW found ∧ found.length ≤ n) m0
        ⟨S, [], .ref p, none, none, D.mono e1, ex_hid e1, rfl, .lst (by rw [hid_at nB]; exact hp1) .nil, hm0, ⟨fun w hw => by simp at hw, .nil⟩, by simp⟩ ?_
      rintro m σ H2 ⟨S', found, v, x3, x4, D2, e2, rfl, rv, hruns, hgood, hfl⟩
      have al2 := alive_up al e2 D2
      have S2 : Slots K ((Wd.pure B).m H2) [some (.ref a.s), some (.int n), some v, x3, x4] [none, some (.int n), some (.list (found.map .str)), none, none] := ⟨rfl, fun i d h => by
        match i with
        | 0 => cases h
        | 1 => cases h; exact ⟨_, rfl, .int _⟩
        | 2 => cases h; exact ⟨v, rfl, rv⟩
        | 3 => cases h
        | 4 => cases h
        | i + 5 => cases h⟩
      have hlen : ((found.map PyData.str).length : Int) = found.length := by rw [List.length_map]
      refine ⟨decide ((found.length : Int) < n), et_pure al2 (EtD.is (dt_test (K := K) (dv_op (dv_cb (da_cons (ds_var S2 rfl) da_nil) ra_lenL) (ds_var S2 rfl) r2_I0b)) (by rw [hlen])), fun hb H3 e3 => ?_, fun hb H3 e3 => ?_⟩
      · have hlt := of_decide_eq_true hb
        cases hruns with
        | done h1 _ => omega
        | @step m' _ _ h1 h2 h3 =>
          refine ⟨fun σ' H' => ∃ S' found v x3 x4, DAt a S' H' ∧ Ex (hid (hides a) H) (hid (hides a) H') ∧ σ' = [some (.ref a.s), some (.int n), some v, x3, x4] ∧ Rp K (hid B H') v (.list (found.map .str)) ∧ Runs a.cells n (S.turn + U) m' S' found ∧ goodW found ∧ found.length ≤ n, fun σ' H' h => ⟨m', Nat.lt_succ_self _, h⟩, ?_⟩
          have al3 := alive_ex al2 e3
          obtain ⟨w1, w2, w3, w4, w5⟩ := wordN_ok (cells := a.cells) D2.ok
          have hw := wStr_word w3 w4 w5
          generalize hwe : wStr (wordN a.cells S').1 = word at h3 hw
          refine s_asgR (word_do (K := K) (σ := [some (.ref a.s), some (.int n), some v, x3, x4]) (x := x3) hB al3 (D2.mono e3) (by omega) (h0 := rfl) _ fun H4 D4 e4 => ?_)
          rw [hwe]
          have al4 := alive_up al3 e4 D4
          have e24 : Ex (hid (hides a) H2) (hid (hides a) H4) := (ex_hid e3).trans e4
          have S4 : Slots K ((Wd.pure B).m H4) [some (.ref a.s), some (.int n), some v, some (.str word), x4] [none, some (.int n), some (.list (found.map .str)), some (.str word), none] := ⟨rfl, fun i d h => by
            match i with
            | 0 => cases h
            | 1 => cases h; exact ⟨_, rfl, .int _⟩
            | 2 => cases h; exact ⟨v, rfl, rv.mono (hidB_up hB e24)⟩
            | 3 => cases h; exact ⟨_, rfl, .str _⟩
            | 4 => cases h
            | i + 5 => cases h⟩
          obtain ⟨wl1, wl2⟩ := word_len hw
          have cl : (cutS word none (some 1)).length ≤ 8 := by
            have : (cutS word none (some 1)).cps.toList.length ≤ 8 := by rw [cut_one, List.length_take]; omega
            rw [Array.length_toList] at this
            exact this
          have altE : ∀ {σ4 : L2.St} {H5 : Hp}, Slots K ((Wd.pure B).m H5) σ4 [none, some (.int n), some (.list (found.map .str)), some (.str word), none] → EvD (Wd.pure B) K (tOp (fun x y H Q => ∃ i j, x = .str i ∧ y = .str j ∧ i.length + j.length ≤ sizeLine ∧ Q (.str (i ++ j)) H) (tSl rSlS (tVar 3) tNoPart (tPart (tC (.int 1)))) (tOp rMulS (tC (.str "q")) (tCB (fun xs H Q => ∃ x n, xs = [x] ∧ LenV K x H n ∧ Q (.int n) H) (tCons (tVar 2) tNil)))) σ4 H5 (.str (altW word found.length)) := fun {σ4 H5} S5 =>
            EvD.is (dv_op (dv_slS (ds_var S5 rfl) (fun _ => en_none) (fun _ => en_int) (by omega)) (dv_op dv_str (dv_cb (da_cons (ds_var S5 rfl) da_nil) ra_lenL) (r2_mulS (by rw [List.length_map]; omega) (by decide))) (r2_addS (by
              have : (repS "q" (found.map PyData.str).length).length = found.length := by
                rw [rep_q, List.length_map]
                show ((List.replicate found.length 113).toArray).size = _
                simp
              omega))) (by rw [rep_q, List.length_map]; rfl)
          refine (dv_op (W := Wd.pure B) (K := K) (ds_var S4 rfl) (dv_if (d := .list ((if word ∈ found then (if altW word found.length ∈ found then [] else if found.length < 8 then [altW word found.length] else []) else [word]).map .str)) (dt_test (K := K) (dv_op (ds_var S4 rfl) (ds_var S4 rfl) (r2_inS (neg := true) rfl (.inr rfl)))) (fun hin => ?_) fun hin => ?_) (r2_catL (by rw [List.length_map, List.length_map]; have := add_len found word; omega))) 0 H4 al4 (Ex.refl _) _ fun v5 H5 i5 r5 rv5 => ?_
          · have hnin : word ∉ found := by
              have : (!decide (word ∈ found)) = true := hin
              simpa using this
            rw [if_neg hnin]
            exact dv_lst (ds := [.str word]) (da_cons (ds_var S4 rfl) da_nil) (by simp)
          · have hyes : word ∈ found := by
              have : (!decide (word ∈ found)) = false := hin
              simpa using this
            rw [if_pos hyes]
            refine dv_if (b := !decide (altW word found.length ∈ found) && decide (found.length < 8)) (EtD.is (dt_and (dt_test (K := K) (dv_op (altE S4) (ds_var S4 rfl) (r2_inS (neg := true) rfl (.inr rfl)))) fun _ => dt_test (K := K) (dv_op (dv_cb (da_cons (ds_var S4 rfl) da_nil) ra_lenL) dv_int r2_I0b)) (by
              rw [hlen]
              congr 1
              exact decide_eq_decide.mpr (by omega))) (fun h5 => ?_) fun h5 => ?_
            · rw [Bool.and_eq_true] at h5
              have h6 : altW word found.length ∉ found := by simpa using h5.1
              rw [if_neg h6, if_pos (of_decide_eq_true h5.2)]
              exact dv_lst (ds := [.str (altW word found.length)]) (da_cons (altE S4) da_nil) (by simp)
            · have e0 : (if altW word found.length ∈ found then ([] : List Str) else if found.length < 8 then [altW word found.length] else []) = [] := by
                split
                · rfl
                · rename_i h6
                  rw [if_neg]
                  intro h7
                  rw [decide_eq_true h7, Bool.and_true] at h5
                  simp [h6] at h5
              rw [e0]
              exact dv_lst da_nil
          · have r5 : Ex H4 H5 := r5
            refine ⟨(wordN a.cells S').2, nextFound found word, v5, some (.str word), x4, D4.mono r5, e2.trans (e24.trans (ex_hid r5)), rfl, ?_, h3, next_good hgood hw, ?_⟩
            · have e6 : (nextFound found word).map PyData.str = found.map .str ++ (if word ∈ found then (if altW word found.length ∈ found then [] else if found.length < 8 then [altW word found.length] else []) else [word]).map .str := by
                unfold nextFound
                rw [List.map_append]
              rw [e6]
              exact rv5
            · rcases nextFound_len found word with q | q
              · rw [q]; exact hfl
              · rw [q]; omega
      · have hge := of_decide_eq_false hb
        have htl : S'.turn ≤ S.turn + U := by
          cases hruns with
          | done _ h => exact h
          | step h1 h2 _ => omega
        have al3 := alive_ex al2 e3
        have S3 := S2.mono (ex_hid e3 : Ex ((Wd.pure B).m H2) ((Wd.pure B).m H3))
        have hfn : found.length = n := by omega
        refine pv_sortedS (W := Wd.pure B) hgood.2 (ds_var S3 rfl) 0 H3 al3 (Ex.refl _) _ fun v5 H5 d5 i5 r5 rv5 hd5 => ?_
        obtain ⟨ys, rfl, hys, hyl⟩ := hd5
        have r5 : Ex H3 H5 := r5
        refine k v5 H5 _ ⟨⟨S', (D2.mono e3).mono r5, by omega⟩, i5⟩ (e2.trans (ex_hid (e3.trans r5))) rv5 ⟨ys, rfl, ?_, fun x hx => hgood.1 x ((hys.2 x).mp hx), nd_of_lt hys.1⟩
        show (ys.length : Int) = n
        omega
  · obtain ⟨b, ds, B, hB, ws, rfl, _, rs, ⟨n, rfl, hn⟩, k⟩ := h
    show (ws.length + 1) = 2
    rw [rs.len]
    rfl
end
end Qt
set_option maxRecDepth 100000
set_option maxHeartbeats 4000000
/-! Shuffled words, free words. -/
namespace Qt
open PySem PySem.Spec PyProof.Rows L2 Evl Qd Qe Qs Qn Qw
open C8 (Cal pe_c)
local macro_rules | `(tactic| walk_at "r2s") => `(tactic| first
    | exact r2_I0b | exact r2_I0 | exact r2_eqI | exact r2_neI | exact r2_eqS | exact r2_neS | exact r2_eqB | exact r2_neB | exact r2_ltS | exact r2_inSign | exact r2_notInSign
    | exact r2_ixT rfl | exact r2_ixL rfl | exact r2_isN | exact r2_notN | exact r2_isBl)
local macro_rules | `(tactic| walk_at "dvs") => `(tactic| first
    | exact dv_int | exact dv_str | exact dv_bl | exact dv_non
    | (refine' ds_var ?hS ?hE; (case hS => assumption); (case hE => exact rfl))
    | (refine' dv_isa ?hT ?hA; (case hT => decide); (case hA => walk_at "dvs"))
    | (refine' dv_cb (da_cons ?hA da_nil) ?hR; (case hA => walk_at "dvs"); (case hR => first | exact ra_lenT | exact ra_lenL | exact ra_lenS (by assumption) | exact ra_all))
    | (refine' dv_op ?hA ?hB ?hR; (case hA => walk_at "dvs"); (case hB => walk_at "dvs"); (case hR => walk_at "r2s"))
    | (refine' dv_call (da_cons ?hA da_nil) (ra_sp ?hO); (case hA => walk_at "dvs"); (case hO => assumption)))
section
variable {P : Program} {w : World} {K : PySem.W.Frag} {mg : Str → Option Value} {base : Heap}
theorem cal_imp {k : Nat} {x : Str} {sp sp' : Sp} {dvs : List V} (c : Cal P w K mg base k x sp dvs) (h : ∀ vs H Q E, sp' vs H Q E → sp vs H Q E) : Cal P w K mg base k x sp' dvs := by
  obtain ⟨f, fd, ps, ds, F, r⟩ := c.ex
  exact ⟨f, fd, ps, ds, F.imp h, r⟩
abbrev spDrD (K : PySem.W.Frag) (a : At) : Sp := spD K a 1 okRoom fun ds d => ∃ i : Int, d = .int i ∧ 0 ≤ i ∧ i < roomOf ds
abbrev spPkD (K : PySem.W.Frag) (a : At) : Sp := spD K a 1 okPick fun ds d => d ∈ itemsOf (d0 ds)
theorem cal_drawD {a : At} {k : Nat} (c : Cal P w K mg base k "_law_draw" (spDr K a) []) : Cal P w K mg base k "_law_draw" (spDrD K a) [] :=
  cal_imp c fun vs H Q E h => spD_of_S h (fun S ds ok hk => by
    obtain ⟨r, rfl, r0, r1⟩ := hk
    obtain ⟨_, _, i0, i1⟩ := drawn_ok (cells := a.cells) (room := r) r0 ok
    exact ⟨_, rfl, i0, i1⟩) fun S ds ok hk => by
    obtain ⟨r, rfl, r0, r1⟩ := hk
    exact (drawn_ok (cells := a.cells) (room := r) r0 ok).2.1
theorem cal_pickD {a : At} {k : Nat} (c : Cal P w K mg base k "_law_pick" (spPk K a) []) : Cal P w K mg base k "_law_pick" (spPkD K a) [] :=
  cal_imp c fun vs H Q E h => spD_of_S h (fun S ds ok hk => by
    obtain ⟨xs, rfl, x0, x1⟩ := hk
    obtain ⟨_, _, i0, i1⟩ := drawn_ok (cells := a.cells) (room := xs.length) (by omega) ok
    show xs.getD (drawn a.cells xs.length S).1.toNat .none ∈ xs
    rw [List.getD_eq_getElem?_getD, List.getElem?_eq_getElem (by omega)]
    exact List.getElem_mem _) fun S ds ok hk => by
    obtain ⟨xs, rfl, x0, x1⟩ := hk
    exact (drawn_ok (cells := a.cells) (room := xs.length) (by omega) ok).2.1
/-- xs != [] of a list of texts -/
theorem ne_nilS {σ : L2.St} {H : Hp} {ta : TE} {l : Addr} {xs : List Str} (hx : ∀ x ∈ xs, PyData.strOk x = true) (h : Ev ta σ H (.ref l)) (hl : H l = some (.lst (xs.map V.str))) : EvT (tTest (tOp (rNeU K) ta (tLst tNil))) σ H (!decide (xs = [])) := fun H1 e Q q =>
  h H1 e _ fun H2 e2 => ⟨by show (0 : Nat) ≤ sizeLine; decide, fun p hp => by
    have e3 : Ex H2 (upd H2 p (.lst [])) := Ex.new hp
    have r1 : Rp K (Wd.m (Wd.pure fun _ => False) (upd H2 p (.lst []))) (.ref l) (.list (xs.map .str)) := .lst ((hid_at (fun z => z)).trans (e3 _ _ (e2 _ _ (e _ _ hl)))) (Rps.of_strs xs)
    have r2 : Rp K (Wd.m (Wd.pure fun _ => False) (upd H2 p (.lst []))) (.ref p) (.list []) := .lst ((hid_at (fun z => z)).trans upd_same) .nil
    refine r2_neNil (W := Wd.pure fun _ => False) (flatAll_strs xs) (by simp [SeqAt.shaped, PyData.canLay0, PyData.depth, canLayAll_strs hx, depthAll_strs]) 0 _ _ _ (fun _ h => h.elim) r1 r2 _ fun v H3 _ e4 rv => ⟨_, rp_bool rv, ?_⟩
    have ed : decide (xs.map PyData.str = []) = decide (xs = []) := decide_eq_decide.mpr (by simp)
    rw [ed]
    exact q H3 (e2.trans (e3.trans e4))⟩
theorem erase_map {α β : Type} (f : α → β) : ∀ (xs : List α) (i : Nat), (xs.map f).eraseIdx i = (xs.eraseIdx i).map f
  | [], _ => rfl
  | x :: xs, 0 => rfl
  | x :: xs, i + 1 => by
    rw [List.map_cons, List.eraseIdx_cons_succ, List.eraseIdx_cons_succ, List.map_cons, erase_map f xs i]
theorem erase_perm {α : Type} : ∀ (ys : List α) (i : Nat) (h : i < ys.length), ([ys[i]] ++ ys.eraseIdx i).Perm ys
  | y :: ys, 0, _ => .refl _
  | y :: ys, i + 1, h => by
    have h2 : i < ys.length := by simpa using h
    show ((ys[i]'h2) :: y :: ys.eraseIdx i).Perm (y :: ys)
    exact (List.Perm.swap _ _ _).trans (.cons y (erase_perm ys i h2))
def okSh (ds : List PyData) : Prop := ∃ xs : List Str, ds = [.list (xs.map .str)] ∧ xs.length ≤ 10 ∧ ∀ x ∈ xs, PyData.strOk x = true
def pSh (ds : List PyData) (d : PyData) : Prop := ∃ xs zs : List Str, ds = [.list (xs.map .str)] ∧ d = .list (zs.map .str) ∧ zs.Perm xs
abbrev spSh (K : PySem.W.Frag) (a : At) : Sp := spD K a 10 okSh pSh
abbrev names__law_shuffled : List Str := ["state", "some", "left", "found"]
theorem sc__law_shuffled : FnScope names__law_shuffled ["state", "some"] (defScope s__law_shuffled) := ⟨rfl, rfl, rfl, by decide +kernel, rfl, by decide +kernel, by decide +kernel⟩
theorem ok__law_shuffled {a : At} {f : Addr} {fd : FuncData} (F : Fun K "_law_shuffled" "_law_shuffled" s__law_shuffled f fd) (T : Top K mg) (c__law_draw : Cal P w K mg base 2 "_law_draw" (spDrD K a) []) : FnOk P w K mg base CX0 3 f fd ["state", "some"] (spSh K a) := by
  refine F.ok sc__law_shuffled (fun vs H Q E h => ?_) fun cdv A outer s H vs Q E hr h => by
    have hu := hu_room hr
    refine ⟨_, (pss_cons (ps_par (i := 2) (j := 3) rfl sc__law_shuffled.nd rfl rfl (by decide) rfl rfl (pa_cons (pe_callTy call_list_of (by rfl) T.list boot_list (pa_cons (pv 1) pa_nil)) (pa_cons (pe_lst pa_nil) pa_nil)) rfl)
  (pss_cons (ps_while PassesOwn.never (pt_cmpR (op_neU hu) (pv 2) (pe_lst pa_nil) rfl) (pss_one (ps_expr (pe_bm PySem.F.plainAttrs_list PySem.F.slot_list_append PySem.F.type_list_append mt_append (pv 3) (pa_cons (pe_bm PySem.F.plainAttrs_list PySem.F.slot_list_pop PySem.F.type_list_pop mt_popAt (pv 2) (pa_cons (pe_c c__law_draw hr (by decide) (by rfl) (pa_cons (pv 0) (pa_cons (pe_callB call_len (by rfl) T.len boot_len (pa_cons (pv 2) pa_nil)) pa_nil))) pa_nil)) pa_nil)))))
  (pss_one (ps_ret (pv 3))))), ?_⟩
    obtain ⟨b, ds, B, hB, ws, rfl, i0, rs, ⟨xs, rfl, hx10, hxo⟩, k⟩ := h
    cases rs with
    | cons rr t =>
      cases t
      obtain ⟨l0, vs0, rfl, hl0, rs0⟩ := rp_lst rr
      have ev := rs0.strs
      subst ev
      -- left, found
      refine ⟨.ref l0, rfl, l0, _, rfl, .inl (sq_of (hid_ex _ _ hl0)), fun l hl => ⟨by show (0 : Nat) ≤ sizeLine; decide, fun f hf => ⟨.ref l, .ref f, rfl, ?_⟩⟩⟩
      have e1 : Ex H (upd H l (.lst (xs.map V.str))) := Ex.new hl
      have e2 : Ex (upd H l (.lst (xs.map V.str))) (upd (upd H l (.lst (xs.map V.str))) f (.lst [])) := Ex.new hf
      have nlf : l ≠ f := ne_of_none upd_same hf
      have nBl : ¬ B l := fun z => i0.2 l z hl
      have nBf : ¬ B f := fun z => alive_ex i0.2 e1 f z hf
      have nhl : ¬ hides a l := fun z => nBl (hB l z)
      have nhf : ¬ hides a f := fun z => nBf (hB f z)
      have hfH : H f = none := fresh_back e1 hf
      refine q_while (fun m σ H' => ∃ ys zs : List Str, m = ys.length ∧ σ = [some (.ref a.s), some (.ref l0), some (.ref l), some (.ref f)] ∧ (dW a B hB).I (b + ys.length) H' ∧ (dW a B hB).R H H' ∧ H' l = some (.lst (ys.map V.str)) ∧ H' f = some (.lst (zs.map V.str)) ∧ (zs ++ ys).Perm xs) xs.length ?_ ?_
      · have i1 := ((dW a B hB).new ((dW a B hB).new i0 e1).2 e2).2
        refine ⟨xs, [], rfl, rfl, Wd.less' (b := b + 10) (by omega) i1, ex_hid (e1.trans e2), by rw [upd_ne nlf]; exact upd_same, upd_same, by simp⟩
      · rintro m σ H2 ⟨ys, zs, rfl, rfl, i2, r2, hl2, hf2, pm⟩
        have hyo : ∀ y ∈ ys, PyData.strOk y = true := fun y hy => hxo y (pm.mem_iff.mp (List.mem_append_right _ hy))
        refine ⟨!decide (ys = []), ne_nilS (K := K) hyo (ev_var rfl) hl2, fun hb H3 e3 => ?_, fun hb H3 e3 => ?_⟩
        · have hne : ys ≠ [] := by simpa using hb
          have hpos : 0 < ys.length := List.length_pos_iff.mpr hne
          have hle : ys.length ≤ 10 := by
            have := pm.length_eq
            rw [List.length_append] at this
            omega
          obtain ⟨r3, i3⟩ := (dW a B hB).new i2 e3
          refine ⟨fun σ H' => ∃ ys' zs' : List Str, ys'.length + 1 = ys.length ∧ σ = [some (.ref a.s), some (.ref l0), some (.ref l), some (.ref f)] ∧ (dW a B hB).I (b + ys'.length) H' ∧ (dW a B hB).R H H' ∧ H' l = some (.lst (ys'.map V.str)) ∧ H' f = some (.lst (zs'.map V.str)) ∧ (zs' ++ ys').Perm xs, fun σ H' ⟨ys', zs', q1, q2, q3⟩ => ⟨ys'.length, by omega, ys', zs', rfl, q2, q3⟩, ?_⟩
          have i3' : (dW a B hB).I (b + (ys.length - 1) + 1) H3 := by rw [show b + (ys.length - 1) + 1 = b + ys.length by omega]; exact i3
          refine ⟨.ref f, rfl, .inl ⟨rfl, _, sq_of (e3 _ _ hf2)⟩, .ref l, rfl, .inl ⟨rfl, _, sq_of (e3 _ _ hl2)⟩, .ref a.s, rfl, .ref l, rfl, .ref l, ys.length, rfl, .inl ⟨_, sq_of (e3 _ _ hl2), by simp⟩, b + (ys.length - 1), [.int ys.length], B, hB, [.int ys.length], rfl, i3', .cons (.int _) .nil, ⟨_, rfl, by omega, by omega⟩, ?_⟩
          rintro v H4 d i4 r4 rp ⟨j, rfl, j0, j1⟩
          have ev := rp_int rp
          subst ev
          have j1 : j < ys.length := j1
          have hl4 : H4 l = some (.lst (ys.map V.str)) := (hid_vis (r4 l _ (by rw [hid_at nhl]; exact e3 _ _ hl2))).2
          have hf4 : H4 f = some (.lst (zs.map V.str)) := (hid_vis (r4 f _ (by rw [hid_at nhf]; exact e3 _ _ hf2))).2
          have hj : j.toNat < ys.length := by omega
          have ej : j = ((j.toNat : Nat) : Int) := by omega
          refine ⟨l, _, j, j.toNat, .str ys[j.toNat], rfl, rfl, hl4, by omega, by omega, ?_, ?_, ?_⟩
          · have := (ixN_seq (ixN_nat (n := (ys.map V.str).length) (j := j.toNat) (by rw [List.length_map]; exact hj))).1
            rw [← ej] at this
            exact this
          · rw [List.getElem?_map, List.getElem?_eq_getElem hj]; rfl
          · have hzl : zs.length ≤ 10 := by
              have := pm.length_eq
              rw [List.length_append] at this
              omega
            refine ⟨f, zs.map V.str, .str ys[j.toNat], rfl, rfl, by rw [upd_ne (Ne.symm nlf)]; exact hf4, by rw [List.length_map]; exact Nat.lt_of_le_of_lt hzl (by decide), ?_⟩
            have em : (ys.map V.str).eraseIdx j.toNat = (ys.eraseIdx j.toNat).map V.str := (erase_map _ _ _)
            have em2 : zs.map V.str ++ [.str ys[j.toNat]] = (zs ++ [ys[j.toNat]]).map V.str := by rw [List.map_append]; rfl
            rw [em, em2]
            have hel : (ys.eraseIdx j.toNat).length = ys.length - 1 := List.length_eraseIdx_of_lt hj
            refine ⟨ys.eraseIdx j.toNat, zs ++ [ys[j.toNat]], by omega, rfl, ?_, ?_, by rw [upd_ne nlf]; exact upd_same, upd_same, ?_⟩
            · rw [hel]
              exact (dW a B hB).imt ((dW a B hB).imt i4 nBl) nBf
            · have s1 : (dW a B hB).R H H4 := (dW a B hB).trans r2 ((dW a B hB).trans r3 r4)
              exact (dW a B hB).mtt i0 hfH ((dW a B hB).mtt i0 hl s1)
            · refine List.Perm.trans ?_ pm
              rw [List.append_assoc]
              refine List.Perm.append_left zs ?_
              exact (erase_perm ys _ hj)
        · have hnil : ys = [] := by simpa using hb
          subst hnil
          obtain ⟨r3, i3⟩ := (dW a B hB).new i2 e3
          refine s_ret (v := .ref f) (ev_var rfl) fun H4 e4 => ?_
          obtain ⟨r4, i4⟩ := (dW a B hB).new i3 e4
          refine k _ H4 _ i4 ((dW a B hB).trans r2 ((dW a B hB).trans r3 r4)) (.lst (by rw [hid_at nBf]; exact e4 _ _ (e3 _ _ hf2)) (Rps.of_strs zs)) ⟨xs, zs, rfl, rfl, by simpa using pm⟩
  · obtain ⟨b, ds, B, hB, ws, rfl, _, rs, ⟨xs, rfl, hn⟩, k⟩ := h
    show (ws.length + 1) = 2
    rw [rs.len]
    rfl
end
end Qt
set_option maxRecDepth 100000
set_option maxHeartbeats 4000000
/-! Free words. -/
namespace Qt
open PySem PySem.Spec PyProof.Rows L2 Evl Qd Qe Qs Qn Qw
open C8 (Cal pe_c)
local macro_rules | `(tactic| walk_at "r2s") => `(tactic| first
    | exact r2_I0b | exact r2_I0 | exact r2_eqI | exact r2_neI | exact r2_eqS | exact r2_neS | exact r2_eqB | exact r2_neB | exact r2_ltS | exact r2_inSign | exact r2_notInSign
    | exact r2_ixT rfl | exact r2_ixL rfl | exact r2_isN | exact r2_notN | exact r2_isBl)
local macro_rules | `(tactic| walk_at "dvs") => `(tactic| first
    | exact dv_int | exact dv_str | exact dv_bl | exact dv_non
    | (refine' ds_var ?hS ?hE; (case hS => assumption); (case hE => exact rfl))
    | (refine' dv_isa ?hT ?hA; (case hT => decide); (case hA => walk_at "dvs"))
    | (refine' dv_cb (da_cons ?hA da_nil) ?hR; (case hA => walk_at "dvs"); (case hR => first | exact ra_lenT | exact ra_lenL | exact ra_lenS (by assumption) | exact ra_all))
    | (refine' dv_op ?hA ?hB ?hR; (case hA => walk_at "dvs"); (case hB => walk_at "dvs"); (case hR => walk_at "r2s"))
    | (refine' dv_call (da_cons ?hA da_nil) (ra_sp ?hO); (case hA => walk_at "dvs"); (case hO => assumption)))
section
variable {P : Program} {w : World} {K : PySem.W.Frag} {mg : Str → Option Value} {base : Heap}
def fz (x : Str) : Str := if x ∈ keptS then x ++ "zz" else x
theorem kept_zz : ∀ x ∈ keptS, isFreeD (.str (x ++ "zz")) = true := by decide +kernel
theorem fz_free {x : Str} (h : isWordS x = true) : isFreeD (.str (fz x)) = true := by
  unfold fz
  by_cases hk : x ∈ keptS
  · rw [if_pos hk]; exact kept_zz x hk
  · rw [if_neg hk]
    show (isWordS x && !decide (x ∈ keptS)) = true
    rw [h, decide_eq_false hk]
    rfl
def spareS : List Str := ["ax", "bx", "cx", "dx", "ex", "fx", "gx", "hx"]
theorem spare_free : ∀ x ∈ spareS, isFreeD (.str x) = true := by decide +kernel
theorem spare_nd : spareS.Nodup := by decide +kernel
/-- len(set(xs)) of texts -/
theorem pv_lenSet {W : Wd} {σ : L2.St} {H : Hp} {te : TE} {xs : List Str} (hl : xs.length ≤ 1000) (h : EvD W K te σ H (.list (xs.map .str))) : EvP W K 0 (tCB (rLenM w) (tCons (tCB (rSetOf K w) (tCons te tNil)) tNil)) σ H (fun r => ∃ L : List Key, r = .int L.length ∧ L.Nodup ∧ ∀ j, j ∈ L ↔ j ∈ xs.map Sum.inr) := fun b H1 i e Q g =>
  set_do (.inl rfl) hl h i e _ fun p L H3 i3 r3 hp nd hm hll => ⟨p, L, rfl, hp, g _ H3 _ i3 r3 (.int _) ⟨L, rfl, nd, hm⟩⟩
theorem nd_len {α : Type} [DecidableEq α] {xs ys : List α} (h1 : xs.Nodup) (h2 : ys.Nodup) (h : ∀ a, a ∈ xs ↔ a ∈ ys) : xs.length = ys.length :=
  Nat.le_antisymm (nodup_len h1 fun a ha => (h a).mp ha) (nodup_len h2 fun a ha => (h a).mpr ha)
def pFree (ds : List PyData) (d : PyData) : Prop := ∃ ws : List Str, d = .list (ws.map .str) ∧ (ws.length : Int) = intD (d0 ds) ∧ (∀ x ∈ ws, isFreeD (.str x) = true) ∧ ws.Nodup
abbrev spFw (K : PySem.W.Frag) (a : At) : Sp := spD K a 1 okMany pFree
theorem cut_to (ds : List PyData) (n : Nat) (h : n ≤ ds.length) : Qe.cutD ds none (some (n : Int)) = ds.take n := by
  unfold Qe.cutD
  rw [HT.sIx_none, HT.sIx_nat, List.drop_zero, Nat.sub_zero, Nat.min_eq_left h]
abbrev names__law_free_words : List Str := ["draws", "many", "found", "word"]
theorem sc__law_free_words : FnScope names__law_free_words ["draws", "many"] (defScope s__law_free_words) := ⟨rfl, rfl, rfl, by decide +kernel, rfl, by decide +kernel, by decide +kernel⟩
theorem ok__law_free_words {a : At} {f : Addr} {fd : FuncData} (F : Fun K "_law_free_words" "_law_free_words" s__law_free_words f fd) (T : Top K mg) (c__law_words : Cal P w K mg base 4 "_law_words" (spWo K a) []) (c__law_kept : Cal P w K mg base 1 "_law_kept" (spK K) []) :
    FnOk P w K mg base CX0 5 f fd ["draws", "many"] (spFw K a) := by
  refine F.ok sc__law_free_words (fun vs H Q E h => ?_) fun cdv A outer s H vs Q E hr h => by
    have hu := hu_room hr
    refine ⟨_, (pss_cons (ps_set (i := 2) sc__law_free_words.nd rfl (by first | exact .inl rfl | exact .inr rfl) (pe_lst pa_nil))
  (pss_cons (ps_for PassesOwn.never rfl (pi_list (pe_c c__law_words hr (by decide) (by rfl) (pa_cons (pv 0) (pa_cons (pv 1) pa_nil)))) (pg_name (i := 3) sc__law_free_words.nd rfl (by first | exact .inl rfl | exact .inr rfl))
    (pss_one (ps_expr (pe_bm PySem.F.plainAttrs_list PySem.F.slot_list_append PySem.F.type_list_append mt_append (pv 2) (pa_cons (pe_ifExp (pt_cmpR op_in_seq (pv 3) (pe_c0 c__law_kept hr (by decide) (by rfl)) rfl) (pe_op op_add_str (pv 3) pe_str) (pv 3)) pa_nil)))))
  (pss_one (ps_ret (pe_ifExp (pt_cmpR (op_eqU hu) (pe_callB cr_lenM (by rfl) T.len boot_len (pa_cons (pe_callTy (cr_setOf rfl) (by rfl) T.set boot_set (pa_cons (pv 2) pa_nil)) pa_nil)) (pv 1) rfl) (pe_callB (cr_sortedM rfl hu) (by rfl) T.sorted b_sorted (pa_cons (pe_callTy (cr_setOf rfl) (by rfl) T.set boot_set (pa_cons (pv 2) pa_nil)) pa_nil)) (pe_slice sl_list (pe_lst (pa_cons pe_str (pa_cons pe_str (pa_cons pe_str (pa_cons pe_str (pa_cons pe_str (pa_cons pe_str (pa_cons pe_str (pa_cons pe_str pa_nil))))))))) po_none (po_some (pv 1)))))))), ?_⟩
    obtain ⟨b, ds, B, hB, ws0, rfl, i0, rs, ⟨n, rfl, hn⟩, k⟩ := h
    cases rs with
    | cons rr t =>
      cases t
      have er := rp_int rr
      subst er
      refine q_asgL (xs := []) (el_lst ea_nil (by decide)) fun p H1 hp e1 hp1 => ?_
      obtain ⟨r1, i1⟩ := (dW a B hB).new i0 e1
      have nB : ¬ B p := fun z => i0.2 p z hp
      have nh : ¬ hides a p := fun z => nB (hB p z)
      let B' : Addr → Prop := fun x => B x ∨ x = p
      have hB' : ∀ x, hides a x → B' x := fun x hx => .inl (hB x hx)
      have i1' : (dW a B' hB').I (b + 1) H1 := ⟨i1.1, fun x hx => hx.elim (fun z => i1.2 x z) fun z => by rw [z, hp1]; simp⟩
      refine ⟨.ref a.s, rfl, .int n, rfl, b, [.int n], B', hB', [.int n], rfl, i1', .cons (.int _) .nil, ⟨n, rfl, hn⟩, ?_⟩
      rintro v H2 d i2 r2 rv ⟨ws, rfl, hwl, hgood⟩
      have hwl : ws.length = n := by
        have : (ws.length : Int) = n := hwl
        omega
      obtain ⟨lw, vs, rfl, hlw, rvs⟩ := rp_lst rv
      have ev := rvs.strs
      subst ev
      obtain ⟨nB'w, hlw2⟩ := hid_vis hlw
      have nlw : lw ≠ p := fun z => nB'w (.inr z)
      have hp2 : H2 p = some (.lst []) := (hid_vis (r2 p _ (by rw [hid_at nh]; exact hp1))).2
      have i2B : (dW a B hB).I b H2 := ⟨i2.1, fun x hx => i2.2 x (.inl hx)⟩
      refine ⟨lw, rfl, ⟨_, sq_of hlw2⟩, for_list (K := K) (a := lw) (xs := ws.map V.str) (fun i σ H' => i ≤ n ∧ (∃ x3, σ = [some (.ref a.s), some (.int n), some (.ref p), x3]) ∧ (dW a B hB).I b H' ∧ (dW a B hB).R H H' ∧ H' lw = some (.lst (ws.map V.str)) ∧ H' p = some (.lst (((ws.take i).map fz).map V.str)))
        ⟨by omega, ⟨_, rfl⟩, i2B, (dW a B hB).trans r1 r2, hlw2, hp2⟩ (fun i σ H' _ q => sq_of q.2.2.2.2.1) ?_ ?_⟩
      · rintro i x σ H3 hx ⟨hi, ⟨x3, rfl⟩, i3, r3, hlw3, hp3⟩
        have hil : i < ws.length := by have := (List.getElem?_eq_some_iff.mp hx).1; simpa using this
        have hx2 : x = .str ws[i] := by
          rw [List.getElem?_map, List.getElem?_eq_getElem hil] at hx
          cases hx
          rfl
        subst hx2
        have hword : isWordS ws[i] = true := hgood.1 _ (List.getElem_mem hil)
        obtain ⟨l1, l2⟩ := word_len hword
        have S3 : Slots K ((Wd.pure B).m H3) [some (.ref a.s), some (.int n), some (.ref p), some (.str ws[i])] [none, some (.int n), none, some (.str ws[i])] := ⟨rfl, fun j d h => by
          match j with
          | 0 => cases h
          | 1 => cases h; exact ⟨_, rfl, .int _⟩
          | 2 => cases h
          | 3 => cases h; exact ⟨_, rfl, .str _⟩
          | j + 4 => cases h⟩
        have val : EvD (Wd.pure B) K (tIf (tTest (tOp (rIn K false) (tVar 3) (tCall (spK K) [] C8.E0 tNil))) (tOp (fun x y H Q => ∃ i j, x = .str i ∧ y = .str j ∧ i.length + j.length ≤ sizeLine ∧ Q (.str (i ++ j)) H) (tVar 3) (tC (.str "zz"))) (tVar 3)) [some (.ref a.s), some (.int n), some (.ref p), some (.str ws[i])] H3 (.str (fz ws[i])) := by
          refine dv_if (dt_test (K := K) (dv_op (ds_var S3 rfl) (dv_call da_nil (ra_sp rfl)) (r2_inS (neg := false) rfl (.inr rfl)))) (fun h => ?_) fun h => ?_
          · have hk : ws[i] ∈ keptS := of_decide_eq_true h
            unfold fz
            rw [if_pos hk]
            exact dv_op (ds_var S3 rfl) dv_str (r2_addS (by have : ("zz" : Str).length = 2 := rfl; omega))
          · have hk : ws[i] ∉ keptS := of_decide_eq_false h
            unfold fz
            rw [if_neg hk]
            exact ds_var S3 rfl
        refine ⟨.ref p, rfl, .inl ⟨rfl, _, sq_of hp3⟩, val 0 H3 i3.2 (Ex.refl _) _ fun v4 H4 i4 r4 rv4 => ?_⟩
        have r4 : Ex H3 H4 := r4
        have ev := rp_str rv4
        subst ev
        obtain ⟨s4, j4⟩ := (dW a B hB).new i3 r4
        refine ⟨p, _, .str (fz ws[i]), rfl, rfl, r4 _ _ hp3, by rw [List.length_map, List.length_map, List.length_take]; exact Nat.lt_of_le_of_lt (Nat.le_trans (Nat.min_le_left _ _) (by omega : i ≤ 8)) (by decide), ?_⟩
        have em : ((ws.take i).map fz).map V.str ++ [.str (fz ws[i])] = ((ws.take (i + 1)).map fz).map V.str := by
          rw [List.take_add_one, List.getElem?_eq_getElem hil, List.map_append, List.map_append]
          rfl
        rw [em]
        exact ⟨by omega, ⟨_, rfl⟩, (dW a B hB).imt j4 nB, (dW a B hB).mtt i0 hp ((dW a B hB).trans r3 s4), by rw [upd_ne nlw]; exact r4 _ _ hlw3, upd_same⟩
      · rintro σ H3 ⟨_, ⟨x3, rfl⟩, i3, r3, hlw3, hp3⟩
        rw [List.length_map, List.take_length] at hp3
        generalize hfs : ws.map fz = fs at hp3
        have hfl : fs.length = n := by rw [← hfs, List.length_map, hwl]
        have hff : ∀ x ∈ fs, isFreeD (.str x) = true := fun x hx => by
          rw [← hfs] at hx
          obtain ⟨y, hy, rfl⟩ := List.mem_map.mp hx
          exact fz_free (hgood.1 y hy)
        have S3 : Slots K ((Wd.pure B).m H3) [some (.ref a.s), some (.int n), some (.ref p), x3] [none, some (.int n), some (.list (fs.map .str)), none] := ⟨rfl, fun j d h => by
          match j with
          | 0 => cases h
          | 1 => cases h; exact ⟨_, rfl, .int _⟩
          | 2 => cases h; exact ⟨_, rfl, .lst ((hid_at nB).trans hp3) (Rps.of_strs fs)⟩
          | 3 => cases h
          | j + 4 => cases h⟩
        -- the test, both ways
        refine (pv_op (W := Wd.pure B) (K := K) (c1 := 0) (c2 := 0) (s := fun x => ∃ L : List Key, x = .bool (decide ((L.length : Int) = n)) ∧ L.Nodup ∧ ∀ j, j ∈ L ↔ j ∈ fs.map Sum.inr) (pv_lenSet (w := w) (by omega) (ds_var S3 rfl)) (EvD.toP (p := fun d => d = .int n) (ds_var S3 rfl) rfl) (fun d e ⟨L, h1, h2, h3⟩ h4 => ⟨.bool (decide ((L.length : Int) = n)), by subst h1; subst h4; exact r2_eqI, L, rfl, h2, h3⟩)) 0 H3 i3.2 (Ex.refl _) _ fun v4 H4 d4 i4 r4 rv4 hd4 => ?_
        obtain ⟨L, rfl, nd, hm⟩ := hd4
        have r4 : Ex H3 H4 := r4
        refine ⟨_, rp_bool rv4, ?_⟩
        obtain ⟨s4, j4⟩ := (dW a B hB).new i3 r4
        have S4 := S3.mono (ex_hid r4 : Ex ((Wd.pure B).m H3) ((Wd.pure B).m H4))
        cases hb : decide ((L.length : Int) = n) with
        | true =>
          have hLn : L.length = n := by have := of_decide_eq_true hb; omega
          refine pv_sortedSet (W := Wd.pure B) (w := w) (xs := fs) (.inl rfl) (by omega) (ds_var S4 rfl) 0 H4 i4 (Ex.refl _) _ fun v5 H5 d5 i5 r5 rv5 hd5 => ?_
          obtain ⟨ys, rfl, hys⟩ := hd5
          have r5 : Ex H4 H5 := r5
          obtain ⟨s5, j5⟩ := (dW a B hB).new j4 r5
          refine k v5 H5 _ j5 ((dW a B hB).trans r3 ((dW a B hB).trans s4 s5)) rv5 ⟨ys, rfl, ?_, fun x hx => hff x ((hys.2 x).mp hx), nd_of_lt hys.1⟩
          have e1 : (ys.map Sum.inr : List Key).length = L.length := nd_len (List.Pairwise.map _ (fun a b hne e => hne (Sum.inr.inj e)) (nd_of_lt hys.1)) nd fun j => by
            rw [hm]
            exact ⟨fun h => by obtain ⟨x, hx, rfl⟩ := List.mem_map.mp h; exact List.mem_map.mpr ⟨x, (hys.2 x).mp hx, rfl⟩, fun h => by obtain ⟨x, hx, rfl⟩ := List.mem_map.mp h; exact List.mem_map.mpr ⟨x, (hys.2 x).mpr hx, rfl⟩⟩
          rw [List.length_map] at e1
          show (ys.length : Int) = n
          omega
        | false =>
          refine pv_slL (W := Wd.pure B) (c1 := 0) (c2 := 0) (c3 := 0) (p := fun d => d = .list (spareS.map .str)) (pl := fun o => o = none) (ph := fun o => ∃ i, o = some i ∧ i = (n : Int)) (EvD.toP (d := .list (spareS.map .str)) (dv_lst (da_cons dv_str (da_cons dv_str (da_cons dv_str (da_cons dv_str (da_cons dv_str (da_cons dv_str (da_cons dv_str (da_cons dv_str da_nil))))))))) ⟨_, rfl, rfl⟩) op_none (op_part (EvD.toP (ds_var S4 rfl) ⟨_, rfl, rfl⟩)) 0 H4 i4 (Ex.refl _) _ fun v5 H5 d5 i5 r5 rv5 hd5 => ?_
          obtain ⟨ds5, lo, hi, rfl, hds, rfl, z, rfl, rfl⟩ := hd5
          have hds : PyData.list ds5 = .list (spareS.map .str) := hds
          cases hds
          have r5 : Ex H4 H5 := r5
          obtain ⟨s5, j5⟩ := (dW a B hB).new j4 r5
          have ec : Qe.cutD (spareS.map PyData.str) none (some (n : Int)) = (spareS.take n).map .str := by
            rw [cut_to _ n (by rw [List.length_map]; exact hn), List.map_take]
          rw [ec] at rv5
          refine k v5 H5 _ j5 ((dW a B hB).trans r3 ((dW a B hB).trans s4 s5)) rv5 ⟨spareS.take n, rfl, ?_, fun x hx => spare_free x (List.mem_of_mem_take hx), spare_nd.sublist (List.take_sublist _ _)⟩
          show ((spareS.take n).length : Int) = n
          rw [List.length_take]
          have : spareS.length = 8 := rfl
          omega
  · obtain ⟨b, ds, B, hB, ws, rfl, _, rs, ⟨n, rfl, hn⟩, k⟩ := h
    show (ws.length + 1) = 2
    rw [rs.len]
    rfl
end
end Qt
set_option maxRecDepth 100000
set_option maxHeartbeats 4000000
/-! A schema is drawn. -/
namespace Qt
open PySem PySem.Spec PyProof.Rows L2 Evl Qd Qe Qs Qn Qw
open C8 (Cal pe_c)
local macro_rules | `(tactic| walk_at "r2s") => `(tactic| first
    | exact r2_I0b | exact r2_I0 | exact r2_eqI | exact r2_neI | exact r2_eqS | exact r2_neS | exact r2_eqB | exact r2_neB | exact r2_ltS | exact r2_inSign | exact r2_notInSign
    | exact r2_ixT rfl | exact r2_ixL rfl | exact r2_isN | exact r2_notN | exact r2_isBl)
local macro_rules | `(tactic| walk_at "dvs") => `(tactic| first
    | exact dv_int | exact dv_str | exact dv_bl | exact dv_non
    | (refine' ds_var ?hS ?hE; (case hS => assumption); (case hE => exact rfl))
    | (refine' dv_isa ?hT ?hA; (case hT => decide); (case hA => walk_at "dvs"))
    | (refine' dv_cb (da_cons ?hA da_nil) ?hR; (case hA => walk_at "dvs"); (case hR => first | exact ra_lenT | exact ra_lenL | exact ra_lenS (by assumption) | exact ra_all))
    | (refine' dv_op ?hA ?hB ?hR; (case hA => walk_at "dvs"); (case hB => walk_at "dvs"); (case hR => walk_at "r2s"))
    | (refine' dv_call (da_cons ?hA da_nil) (ra_sp ?hO); (case hA => walk_at "dvs"); (case hO => assumption)))
section
variable {P : Program} {w : World} {K : PySem.W.Frag} {mg : Str → Option Value} {base : Heap}
/-- pairs of a free word and a width -/
def PairL (ds : List PyData) : Prop := ∀ d ∈ ds, ∃ (x : Str) (i : Int), d = .tuple [.str x, .int i] ∧ isFreeD (.str x) = true ∧ 1 ≤ i ∧ i ≤ 3
theorem PairL.flat : ∀ {ds : List PyData}, PairL ds → flatAll ds = true
  | [], _ => by simp [flatAll]
  | d :: ds, h => by
    obtain ⟨x, i, rfl, _⟩ := h d (.head _)
    rw [flatAll, PairL.flat fun z hz => h z (.tail _ hz)]
    simp [Qd.flat, flatAll]
theorem PairL.alike {ds : List PyData} (h : PairL ds) : PySem.W.AllAlike ds := fun d hd e he => by
  obtain ⟨x, i, rfl, _⟩ := h d hd
  obtain ⟨y, j, rfl, _⟩ := h e he
  rfl
theorem PairL.sortable {ds : List PyData} (h : PairL ds) : PySem.W.Sortable ds := .inl fun d hd => by
  obtain ⟨x, i, rfl, _⟩ := h d hd
  exact ⟨_, _, rfl⟩
theorem PairL.depth {ds : List PyData} (h : PairL ds) : ∀ d ∈ ds, d.depth ≤ 60 := fun d hd => by
  obtain ⟨x, i, rfl, _⟩ := h d hd
  simp [PyData.depth, PyData.depthAll]
theorem PairL.srt {ds : List PyData} (h : PairL ds) : PairL (Qs.srt ds) := fun d hd => h d ((srt_perm ds).mem_iff.mp hd)
theorem PairL.ok {ds : List PyData} (h : PairL ds) : ds.all pairOk = true := List.all_eq_true.mpr fun d hd => by
  obtain ⟨x, i, rfl, h1, h2, h3⟩ := h d hd
  show (isFreeD (.str x) && (decide (1 ≤ i) && decide (i ≤ 3))) = true
  rw [h1, decide_eq_true h2, decide_eq_true h3]
  rfl
theorem str_tri {x y : Str} (h : ¬ y.cps.toList < x.cps.toList) (ne : x ≠ y) : Qe.lt x y := by
  rcases Decidable.em (x.cps.toList < y.cps.toList) with q | q
  · exact q
  · refine absurd (List.le_antisymm (List.not_lt.mp h) (List.not_lt.mp q)) fun e => ne ?_
    cases x; cases y
    congr 1
    exact Array.toList_inj.mp e
theorem PairL.asc {ds : List PyData} (h : PairL ds) (nd : (ds.map fstS).Nodup) : asc fstS (Qs.srt ds) = true := by
  rw [asc_map]
  refine pw_adj ?_
  have T : PySem.W.TotalLe (PySem.W.dataLe false (id : PyData → PyData)) := PySem.W.sortLe_total _ _ _
  have pw : (Qs.srt ds).Pairwise fun a b => PySem.W.dataLe false (id : PyData → PyData) a b = true :=
    List.pairwise_mergeSort (fun a b c h1 h2 => T.trans a b c h1 h2) (fun a b => by rcases T.total a b with h | h <;> simp [h]) _
  have nd2 : ((Qs.srt ds).map fstS).Nodup := ((srt_perm ds).map fstS).nodup_iff.mpr nd
  unfold List.Nodup at nd2
  rw [List.pairwise_map] at nd2 ⊢
  refine List.Pairwise.imp_of_mem (R := fun a b => PySem.W.dataLe false id a b = true ∧ fstS a ≠ fstS b) (fun {a b} ha hb hab => ?_) (pw.and nd2)
  obtain ⟨x, i, rfl, _⟩ := h.srt a ha
  obtain ⟨y, j, rfl, _⟩ := h.srt b hb
  obtain ⟨h1, h2⟩ := hab
  have hne : x ≠ y := h2
  rw [PySem.W.dataLe_eq] at h1
  have h1 : (!PySem.W.dataLt (.tuple [.str y, .int j]) (.tuple [.str x, .int i])) = true := h1
  rw [PySem.W.dataLt_pair rfl rfl, eqvS, decide_eq_false (Ne.symm hne), if_neg Bool.false_ne_true, PySem.W.dataLt_str, Bool.not_eq_true', decide_eq_false_iff_not] at h1
  exact str_tri h1 hne
theorem PairL.small {ds : List PyData} (h : PairL ds) (hl : ds.length ≤ 3) : okS2 (.tuple ds) := by
  refine ⟨?_, ?_⟩
  · rw [sm, Bool.and_eq_true]
    refine ⟨decide_eq_true (by omega), ?_⟩
    clear hl
    induction ds with
    | nil => simp [smAll]
    | cons d ds ih =>
      obtain ⟨x, i, rfl, hx, _⟩ := h d (.head _)
      have hw : isWordS x = true := (Bool.and_eq_true_iff.mp hx).1
      obtain ⟨l1, l2⟩ := word_len hw
      rw [smAll, ih fun z hz => h z (.tail _ hz)]
      simp [sm, smAll]
      omega
  · rw [so]
    clear hl
    induction ds with
    | nil => simp [soAll]
    | cons d ds ih =>
      obtain ⟨x, i, rfl, hx, _⟩ := h d (.head _)
      rw [soAll, ih fun z hz => h z (.tail _ hz)]
      simp [so, soAll, free_ok hx]
theorem strs_small {ns : List Str} (h : ∀ x ∈ ns, isFreeD (.str x) = true) (hl : ns.length ≤ 3) : okS2 (.tuple (ns.map .str)) := by
  refine ⟨?_, ?_⟩
  · rw [sm, Bool.and_eq_true]
    refine ⟨decide_eq_true (by rw [List.length_map]; omega), ?_⟩
    clear hl
    induction ns with
    | nil => simp [smAll]
    | cons x ns ih =>
      have hw : isWordS x = true := (Bool.and_eq_true_iff.mp (h x (.head _))).1
      obtain ⟨l1, l2⟩ := word_len hw
      rw [List.map_cons, smAll, ih fun z hz => h z (.tail _ hz)]
      simp [sm]
      omega
  · rw [so]
    clear hl
    induction ns with
    | nil => simp [soAll]
    | cons x ns ih =>
      rw [List.map_cons, soAll, ih fun z hz => h z (.tail _ hz)]
      simp [so, free_ok (h x (.head _))]
/-- the tuple of the tables, known to the object -/
theorem pairs_addrs {H : Hp} : ∀ {vs : List V} {ds : List PyData}, PairL ds → Rps K H vs ds → ∃ addrs : List Addr, vs = addrs.map V.ref ∧ Paired (fun p kv => SqT K H p [kV kv.1, kv.2]) addrs (ds.map kvD)
  | [], [], _, _ => ⟨[], rfl, .nil⟩
  | [], _ :: _, _, r => nomatch r
  | _ :: _, [], _, r => nomatch r
  | v :: vs, d :: ds, h, r => by
    cases r with
    | cons r t =>
      obtain ⟨addrs, e, p⟩ := pairs_addrs (fun z hz => h z (.tail _ hz)) t
      obtain ⟨x, i, rfl, _⟩ := h d (.head _)
      obtain ⟨a, xs, rfl, hs, rs⟩ := rp_tup r
      cases rs with
      | cons r1 t1 => cases t1 with
        | cons r2 t2 =>
          cases t2
          rw [rp_str r1, rp_int r2] at hs
          exact ⟨a :: addrs, by rw [e]; rfl, .cons hs p⟩
/-- a schema: its value, its data -/
structure Sch (K : PySem.W.Frag) (H : Hp) (v : V) (d : PyData) : Prop where
  rp : Rp K H v d
  ok : schemaOk d = true
  sm : okS2 d
  fz : FzS K H v (pairsOf d)
theorem Sch.mono {H H' : Hp} {v : V} {d : PyData} (e : Ex H H') (h : Sch K H v d) : Sch K H' v d := ⟨h.rp.mono e, h.ok, h.sm, h.fz.mono e⟩
def spSc (K : PySem.W.Frag) (a : At) : Sp := fun vs H Q _ => ∃ (b : Nat) (B : Addr → Prop) (hB : ∀ p, hides a p → B p), vs = [.ref a.s] ∧ (dW a B hB).I (b + 40) H ∧ ∀ v H' d, (dW a B hB).I b H' → (dW a B hB).R H H' → Sch K (hid B H') v d → Q v H'
section
variable {W : Wd} {a : At} {σ : L2.St} {H : Hp}
theorem draw_n {n : Int} (h0 : 0 < n) (h1 : n ≤ 1000000) (ab : Ab a W) (hs : σ[0]? = some (some (.ref a.s))) : EvP W K 1 (tCall (spDrD K a) [] C8.E0 (tCons (tVar 0) (tCons (tC (.int n)) tNil))) σ H (fun d => ∃ i : Int, d = .int i ∧ 0 ≤ i ∧ i < n) :=
  EvP.less (c := 0 + 1) (Nat.le_refl _) (pv_draw (ps := fun ds => ds = [.int n]) ab hs (EaD.toP (da_cons dv_int da_nil) rfl) (fun ds hds => by
    subst hds
    exact ⟨⟨n, rfl, h0, h1⟩, fun d ⟨i, e, h0, h3⟩ => ⟨i, e, h0, h3⟩⟩))
theorem plus_draw {m n : Int} (h0 : 0 < n) (h1 : n ≤ 1000000) (ab : Ab a W) (hs : σ[0]? = some (some (.ref a.s))) : EvP W K 1 (tOp (rI0 fun i j => .int (i + j)) (tC (.int m)) (tCall (spDrD K a) [] C8.E0 (tCons (tVar 0) (tCons (tC (.int n)) tNil)))) σ H (fun d => ∃ i : Int, d = .int i ∧ m ≤ i ∧ i < m + n) :=
  EvP.less (c := 0 + 1) (Nat.le_refl _) (pv_op (p := fun d => d = .int m) (EvD.toP dv_int rfl) (draw_n (n := n) h0 h1 ab hs) (fun d e hd he => by
    obtain ⟨i, rfl, i0, i3⟩ := he
    subst hd
    exact ⟨.int (m + i), r2_I0, m + i, rfl, by omega, by omega⟩))
theorem pick_k (ab : Ab a W) (hs : σ[0]? = some (some (.ref a.s))) : EvP W K 1 (tCall (spPkD K a) [] C8.E0 (tCons (tVar 0) (tCons (tLst (tCons (tC (.int 1)) (tCons (tC (.int 1)) (tCons (tC (.int 2)) (tCons (tC (.int 2)) (tCons (tC (.int 3)) tNil)))))) tNil))) σ H (fun d => ∃ i : Int, d = .int i ∧ ∃ kk : Nat, i = (kk : Int) ∧ 1 ≤ kk ∧ kk ≤ 3) :=
  EvP.less (c := 0 + 1) (Nat.le_refl _) (pv_draw (ps := fun ds => ds = [.list [.int 1, .int 1, .int 2, .int 2, .int 3]]) ab hs (EaD.toP (da_cons (dv_lst (da_cons dv_int (da_cons dv_int (da_cons dv_int (da_cons dv_int (da_cons dv_int da_nil)))))) da_nil) rfl) (fun ds hds => by
    subst hds
    refine ⟨⟨_, rfl, by decide, by decide⟩, fun d hd => ?_⟩
    have hd : d ∈ [PyData.int 1, .int 1, .int 2, .int 2, .int 3] := hd
    simp only [List.mem_cons, List.not_mem_nil, or_false] at hd
    rcases hd with rfl | rfl | rfl | rfl | rfl
    · exact ⟨1, rfl, 1, rfl, by decide, by decide⟩
    · exact ⟨1, rfl, 1, rfl, by decide, by decide⟩
    · exact ⟨2, rfl, 2, rfl, by decide, by decide⟩
    · exact ⟨2, rfl, 2, rfl, by decide, by decide⟩
    · exact ⟨3, rfl, 3, rfl, by decide, by decide⟩))
theorem words_k {ws : List Str} {l : List (Option PyData)} (hw : 3 ≤ ws.length) (ab : Ab a W) (hs : σ[0]? = some (some (.ref a.s))) (S : Slots K (W.m H) σ l) (hl : l[1]? = some (some (.list (ws.map .str)))) :
    EvP W K 1 (tSl (rSlL K) (tVar 1) tNoPart (tPart (tCall (spPkD K a) [] C8.E0 (tCons (tVar 0) (tCons (tLst (tCons (tC (.int 1)) (tCons (tC (.int 1)) (tCons (tC (.int 2)) (tCons (tC (.int 2)) (tCons (tC (.int 3)) tNil)))))) tNil))))) σ H (fun d => ∃ es, d = .list es ∧ ∃ k : Nat, 1 ≤ k ∧ k ≤ 3 ∧ es = (ws.take k).map .str) := by
  have h := pv_slL (W := W) (K := K) (c1 := 0) (c2 := 0) (c3 := 1) (p := fun d => d = .list (ws.map .str)) (pl := fun o => o = none) (ph := fun o => ∃ i, o = some i ∧ ∃ kk : Nat, i = (kk : Int) ∧ 1 ≤ kk ∧ kk ≤ 3) (EvD.toP (ds_var S hl) ⟨_, rfl, rfl⟩) op_none (op_part (pick_k (K := K) (H := H) ab hs))
  refine EvP.imp (fun d hd => ?_) (EvP.less (c' := 1) (by decide) h)
  obtain ⟨ds, lo, hi, rfl, h1, rfl, i, rfl, kk, rfl, k1, k3⟩ := hd
  have h1 : PyData.list ds = .list (ws.map .str) := h1
  cases h1
  exact ⟨_, rfl, kk, k1, k3, by rw [cut_to _ _ (by rw [List.length_map]; omega), List.map_take]⟩
theorem pair_draw {x : Str} {l : List (Option PyData)} {j : Nat} (ab : Ab a W) (hs : σ[0]? = some (some (.ref a.s))) (S : Slots K (W.m H) σ l) (hl : l[j]? = some (some (.str x))) :
    EvP W K 1 (tTup (tCons (tVar j) (tCons (tOp (rI0 fun i j => .int (i + j)) (tC (.int 1)) (tCall (spDrD K a) [] C8.E0 (tCons (tVar 0) (tCons (tC (.int 3)) tNil)))) tNil))) σ H (fun r => ∃ i : Int, r = .tuple [.str x, .int i] ∧ 1 ≤ i ∧ i ≤ 3) := by
  have h := pv_tup (W := W) (K := K) (ap_cons (c1 := 0) (p := fun d => d = .str x) (EvD.toP (ds_var S hl) rfl) (ap_cons (plus_draw (K := K) (H := H) (m := 1) (n := 3) (by decide) (by decide) ab hs) ap_nil)) (fun ds hds => by
    obtain ⟨d1, t1, rfl, _, d2, t2, rfl, _, rfl⟩ := hds
    show 2 ≤ 100000
    decide)
  refine EvP.imp (fun r hr => ?_) (EvP.less (c' := 1) (by decide) h)
  obtain ⟨ds, rfl, d1, t1, rfl, rfl, d2, t2, rfl, ⟨i, rfl, hi1, hi3⟩, rfl⟩ := hr
  exact ⟨i, rfl, hi1, by omega⟩
theorem ra_sortedP {ds : List PyData} (hf : flatAll ds = true) (al : PySem.W.AllAlike ds) (so : PySem.W.Sortable ds) (dp : ∀ d ∈ ds, d.depth ≤ 60) : RaD W K (rSortedP K) [.list ds] (.list (srt ds)) := fun b H xs i rx Q g => by
  cases rx with
  | cons r t =>
    cases t
    obtain ⟨a, vs, rfl, hs, rs⟩ := rp_lst r
    refine ⟨a, vs, ds, rfl, sq_of (hid_ex _ _ hs), (rs.mono hid_ex).dp hf, al, so, dp, fun p bs hp pm e2 => ?_⟩
    have r3 := rps_of (K := K) (H := W.m H) (bs := bs) fun b hb => rps_zip rs b (pm.mem_iff.mp hb)
    rw [e2] at r3
    obtain ⟨i5, r5, rp5⟩ := lst_new i hp r3
    exact g _ _ i5 r5 rp5
theorem srt_strs {xs : List Str} (nd : xs.Nodup) : ∃ ys : List Str, srt (xs.map .str) = ys.map .str ∧ SortOf xs ys ∧ ys.length = xs.length := by
  have pk := srt_perm (xs.map PyData.str)
  have e1 : srt (xs.map PyData.str) = ((srt (xs.map PyData.str)).map strS).map .str := by
    rw [List.map_map]
    refine (List.map_id' _).symm.trans (List.map_congr_left fun d hd => ?_)
    obtain ⟨x, _, rfl⟩ := List.mem_map.mp (pk.mem_iff.mp hd)
    rfl
  have pm : ((srt (xs.map PyData.str)).map strS).Perm xs := by
    have := pk.map strS
    rw [List.map_map] at this
    have e2 : xs.map (strS ∘ PyData.str) = xs := (List.map_congr_left fun _ _ => rfl).trans (List.map_id' xs)
    rw [e2] at this
    exact this
  refine ⟨(srt (xs.map PyData.str)).map strS, e1, ?_, pm.length_eq⟩
  have ndk : (xs.map Sum.inr : List Key).Nodup := List.Pairwise.map _ (fun a b hne e => hne (Sum.inr.inj e)) nd
  obtain ⟨s1, s2⟩ := sorted_keys (ys := ((srt (xs.map PyData.str)).map strS).map Sum.inr) (L := xs.map Sum.inr) (xs := xs) ndk (fun j => Iff.rfl) (pm.map _) (by
    have a1 : ∀ zs : List Str, (zs.map Sum.inr : List Key).map kD = zs.map PyData.str := fun zs => by rw [List.map_map]; rfl
    rw [a1, a1, ← e1])
  have e5 : (((srt (xs.map PyData.str)).map strS).map Sum.inr).map keyStr = (srt (xs.map PyData.str)).map strS := by
    rw [List.map_map]
    exact (List.map_congr_left fun _ _ => rfl).trans (List.map_id' _)
  rw [e5] at s2
  exact s2
theorem strs_alike (xs : List Str) : PySem.W.AllAlike (xs.map PyData.str) := fun d hd e he => by
  obtain ⟨x, _, rfl⟩ := List.mem_map.mp hd
  obtain ⟨y, _, rfl⟩ := List.mem_map.mp he
  rfl
theorem strs_sortable (xs : List Str) : PySem.W.Sortable (xs.map PyData.str) := .inr fun d hd => by
  obtain ⟨x, _, rfl⟩ := List.mem_map.mp hd
  exact ⟨by simp, fun _ => by simp⟩
theorem strs_depth (xs : List Str) : ∀ d ∈ xs.map PyData.str, d.depth ≤ 60 := fun d hd => by
  obtain ⟨x, _, rfl⟩ := List.mem_map.mp hd
  simp [PyData.depth]
theorem cut_mid {ds : List PyData} {m : Nat} {i : Int} (hm : m ≤ ds.length) (hi : (m : Int) ≤ i) : Qe.cutD ds (some (m : Int)) (some i) = (ds.drop m).take (min i.toNat ds.length - m) := by
  unfold Qe.cutD
  obtain ⟨n, rfl⟩ : ∃ n : Nat, i = n := ⟨i.toNat, by omega⟩
  rw [HT.sIx_nat, HT.sIx_nat, Nat.min_eq_left hm, Int.toNat_natCast]
theorem names_draw {ws : List Str} {l : List (Option PyData)} (hw : ws.length = 5) (hnd : ws.Nodup) (ab : Ab a W) (hs : σ[0]? = some (some (.ref a.s))) (S : Slots K (W.m H) σ l) (hl : l[1]? = some (some (.list (ws.map .str)))) :
    EvP W K 1 (tCB (fun xs H Q => ∃ p ys, xs = [.ref p] ∧ ((SqL K H p ys ∧ ∀ l, H l = none → Q (.ref l) (upd H l (.tup ys))) ∨ (SqT K H p ys ∧ Q (.ref p) H))) (tCons (tCB (rSortedP K) (tCons (tSl (rSlL K) (tVar 1) (tPart (tC (.int 3))) (tPart (tOp (rI0 fun i j => .int (i + j)) (tC (.int 3)) (tCall (spDrD K a) [] C8.E0 (tCons (tVar 0) (tCons (tC (.int 3)) tNil)))))) tNil)) tNil)) σ H
      (fun d => ∃ ns : List Str, d = .tuple (ns.map .str) ∧ ns.Pairwise Qe.lt ∧ (∀ x ∈ ns, x ∈ ws) ∧ ns.length ≤ 2) := by
  have h := pv_slL (W := W) (K := K) (c1 := 0) (c2 := 0) (c3 := 1) (p := fun d => d = .list (ws.map .str)) (pl := fun o => o = some 3) (ph := fun o => ∃ i, o = some i ∧ ((3 : Int) ≤ i ∧ i < 3 + 3)) (EvD.toP (ds_var S hl) ⟨_, rfl, rfl⟩) op_int (op_part (plus_draw (K := K) (H := H) (m := 3) (n := 3) (by decide) (by decide) ab hs))
  have h2 := pv_cb (W := W) (K := K) (r := rSortedP K) (s := fun d => ∃ ns : List Str, d = .list (ns.map .str) ∧ ns.Pairwise Qe.lt ∧ (∀ x ∈ ns, x ∈ ws) ∧ ns.length ≤ 2) (ap_cons h ap_nil) (fun ds hds => by
    obtain ⟨d, t, rfl, ⟨es, lo, hi, rfl, h1, rfl, i, rfl, i3, i6⟩, rfl⟩ := hds
    have h1 : PyData.list es = .list (ws.map .str) := h1
    cases h1
    have ec : Qe.cutD (ws.map PyData.str) (some 3) (some i) = ((ws.drop 3).take (min i.toNat 5 - 3)).map .str := by
      have := cut_mid (ds := ws.map PyData.str) (m := 3) (i := i) (by rw [List.length_map]; omega) i3
      rw [List.length_map, hw] at this
      rw [← List.map_drop, ← List.map_take] at this
      exact this
    rw [ec]
    have sub : ((ws.drop 3).take (min i.toNat 5 - 3)).Nodup := (hnd.sublist (List.drop_sublist _ _)).sublist (List.take_sublist _ _)
    obtain ⟨ys, e1, e2, e3⟩ := srt_strs sub
    refine ⟨.list (srt (((ws.drop 3).take (min i.toNat 5 - 3)).map .str)), ra_sortedP (flatAll_strs _) (strs_alike _) (strs_sortable _) (strs_depth _), ys, by rw [e1], e2.1, fun x hx => List.mem_of_mem_drop (List.mem_of_mem_take ((e2.2 x).mp hx)), ?_⟩
    rw [e3, List.length_take, List.length_drop]
    omega)
  have h3 := pv_cb (W := W) (K := K) (r := fun xs H Q => ∃ p ys, xs = [.ref p] ∧ ((SqL K H p ys ∧ ∀ l, H l = none → Q (.ref l) (upd H l (.tup ys))) ∨ (SqT K H p ys ∧ Q (.ref p) H))) (s := fun d => ∃ ns : List Str, d = .tuple (ns.map .str) ∧ ns.Pairwise Qe.lt ∧ (∀ x ∈ ns, x ∈ ws) ∧ ns.length ≤ 2) (ap_cons h2 ap_nil) (fun ds hds => by
    obtain ⟨d, t, rfl, ⟨ns, rfl, q⟩, rfl⟩ := hds
    exact ⟨_, ra_tuple (.inr rfl), ns, rfl, q⟩)
  exact EvP.less (by decide) h3
end
abbrev names__law_schema : List Str := ["draws", "words", "tables", "word"]
theorem sc__law_schema : FnScope names__law_schema ["draws"] (defScope s__law_schema) := ⟨rfl, rfl, rfl, by decide +kernel, rfl, by decide +kernel, by decide +kernel⟩
def pW5 (d : PyData) : Prop := ∃ ws : List Str, d = .list (ws.map .str) ∧ ws.length = 5 ∧ (∀ x ∈ ws, isFreeD (.str x) = true) ∧ ws.Nodup
theorem ok__law_schema {a : At} {f : Addr} {fd : FuncData} (F : Fun K "_law_schema" "_law_schema" s__law_schema f fd) (T : Top K mg) (c__law_shuffled : Cal P w K mg base 3 "_law_shuffled" (spSh K a) []) (c__law_free_words : Cal P w K mg base 5 "_law_free_words" (spFw K a) [])
    (c__law_pick : Cal P w K mg base 3 "_law_pick" (spPkD K a) []) (c__law_draw : Cal P w K mg base 2 "_law_draw" (spDrD K a) []) : FnOk P w K mg base CX0 6 f fd ["draws"] (spSc K a) := by
  refine F.ok sc__law_schema (fun vs H Q E h => by obtain ⟨b, B, hB, rfl, _⟩ := h; rfl) fun cdv A outer s H vs Q E hr h => by
    have hu := hu_room hr
    refine ⟨_, (pss_cons (ps_set (i := 1) sc__law_schema.nd rfl (by first | exact .inl rfl | exact .inr rfl) (pe_c c__law_shuffled hr (by decide) (by rfl) (pa_cons (pv 0) (pa_cons (pe_c c__law_free_words hr (by decide) (by rfl) (pa_cons (pv 0) (pa_cons pe_int pa_nil))) pa_nil))))
  (pss_cons (ps_setLc (i := 2) (own := [("word", 3)]) (g := gName 3) (tt := tYes) rfl sc__law_schema.nd rfl rfl (sw_true rfl rfl rfl (by decide +kernel)) (pi_list (pe_slice sl_list (pv 1) po_none (po_some (pe_c c__law_pick hr (by decide) (by rfl) (pa_cons (pv 0) (pa_cons (pe_lst (pa_cons pe_int (pa_cons pe_int (pa_cons pe_int (pa_cons pe_int (pa_cons pe_int pa_nil)))))) pa_nil)))))) (blkOk_by (N := names__law_schema) (sc := defScope s__law_schema) (by decide +kernel)) (fun _ _ _ _ _ => (pg_name (i := 3) sc__law_schema.nd rfl (by first | exact .inl rfl | exact .inr rfl))) (fun _ _ _ _ _ => pts_nil) (fun _ _ _ _ _ => (pe_tup (pa_cons (pv 3) (pa_cons (pe_op op_add pe_int (pe_c c__law_draw hr (by decide) (by rfl) (pa_cons (pv 0) (pa_cons pe_int pa_nil)))) pa_nil)))))
  (pss_one (ps_ret (pe_tup (pa_cons pe_str (pa_cons (pe_callTy cr_tupleF (by rfl) T.tuple boot_tuple (pa_cons (pe_callB (cr_sortedP hu) (by rfl) T.sorted b_sorted (pa_cons (pv 2) pa_nil)) pa_nil)) (pa_cons (pe_callTy call_tuple_of (by rfl) T.tuple boot_tuple (pa_cons (pe_callB (cr_sortedP hu) (by rfl) T.sorted b_sorted (pa_cons (pe_slice sl_list (pv 1) (po_some pe_int) (po_some (pe_op op_add pe_int (pe_c c__law_draw hr (by decide) (by rfl) (pa_cons (pv 0) (pa_cons pe_int pa_nil)))))) pa_nil)) pa_nil)) pa_nil)))))))), ?_⟩
    obtain ⟨b, B, hB, rfl, i0, k⟩ := h
    have S : Slots K ((dW a B hB).m H) [some (.ref a.s), none, none, none] [none, none, none, none] := ⟨rfl, fun i d h => by match i with | 0 => cases h | 1 => cases h | 2 => cases h | 3 => cases h | i + 4 => cases h⟩
    -- words
    have h1 := pv_draw (W := dW a B hB) (K := K) (E := C8.E0) (σ := [some (.ref a.s), none, none, none]) (H := H) (i := 0) (q := pW5) (ok := okSh) (p := pSh) (cd := 10) ab_self rfl (ap_cons (pv_draw (c := 0) (ps := fun ds => ds = [.int 5]) (q := pW5) (ok := okMany) (p := pFree) (cd := 1) (E := C8.E0) (i := 0) ab_self rfl (EaD.toP (da_cons dv_int da_nil) rfl) (fun ds hds => by
        subst hds
        exact ⟨⟨5, rfl, by decide⟩, fun d ⟨ws, e, hl, h1, h2⟩ => ⟨ws, e, by have hl : (ws.length : Int) = 5 := hl; omega, h1, h2⟩⟩)) ap_nil) (fun ds hds => by
      obtain ⟨d, t, rfl, ⟨ws, rfl, hl, h1, h2⟩, rfl⟩ := hds
      exact ⟨⟨ws, rfl, by omega, fun x hx => free_ok (h1 x hx)⟩, fun d' ⟨xs, zs, e1, e2, pm⟩ => by
        have e1 : [PyData.list (ws.map .str)] = [.list (xs.map .str)] := e1
        have e3 : ws.map PyData.str = xs.map .str := by
          injection e1 with e4 _
          injection e4
        have e5 : ws = xs := List.map_inj_right (fun a b h => by injection h) |>.mp e3
        subst e5
        exact ⟨zs, e2, by rw [pm.length_eq]; exact hl, fun x hx => h1 x (pm.mem_iff.mp hx), pm.nodup_iff.mpr h2⟩⟩)
    refine s_asgR ((EvP.less (c' := 12) (by decide) h1) (b + 28) H i0 (Ex.refl _) _ fun v1 H1 d1 i1 r1 rv1 hd1 => ?_)
    obtain ⟨ws, rfl, hwl, hwf, hwn⟩ := hd1
    have S1 : Slots K ((dW a B hB).m H1) [some (.ref a.s), some v1, none, none] [none, some (.list (ws.map .str)), none, none] := (S.step i0 r1).set (j := 1) rv1
    -- tables
    have ht := ps_lcD (W := dW a B hB) (K := K) (n := 3) (c1 := 1) (c2 := 1) (j := 3) (p := fun es => ∃ k : Nat, 1 ≤ k ∧ k ≤ 3 ∧ es = (ws.take k).map .str) (q := fun d r => ∃ (x : Str) (i : Int), d = .str x ∧ r = .tuple [.str x, .int i] ∧ 1 ≤ i ∧ i ≤ 3) S1
      (eip_list (words_k (K := K) (by omega) ab_self rfl S1 rfl)) (fun es ⟨kk, h1, h3, he⟩ => by subst he; rw [List.length_map, List.length_take]; omega) (by decide)
      (fun D es d σ2 H' nA ⟨kk, h1, h3, he⟩ hd S' hσ => by
        subst he
        obtain ⟨x, _, rfl⟩ := List.mem_map.mp hd
        exact EvP.imp (fun r ⟨i, e, h1, h3⟩ => ⟨x, i, rfl, e, h1, h3⟩) (pair_draw (K := K) (j := 3) (ab_self.hide fun z => nA (hB D z)) (by rw [hσ 0 (by decide)]; rfl) S' rfl))
    refine s_asgR ((EvP.less (c' := 4) (by decide) ht) (b + 24) H1 i1 (Ex.refl _) _ fun v2 H2 d2 i2 r2 rv2 hd2 => ?_)
    obtain ⟨es, rs, rfl, ⟨kk, hk1, hk3, rfl⟩, hrl, hq⟩ := hd2
    have hrl : rs.length = kk := by rw [hrl, List.length_map, List.length_take]; omega
    have hat : ∀ (i : Nat) r, rs[i]? = some r → ∃ (x : Str) (j : Int), (ws.take kk)[i]? = some x ∧ r = .tuple [.str x, .int j] ∧ 1 ≤ j ∧ j ≤ 3 := fun i r hr => by
      have hi : i < rs.length := (List.getElem?_eq_some_iff.mp hr).1
      have hi2 : i < (ws.take kk).length := by rw [List.length_take]; omega
      obtain ⟨x, j, e1, e2, j1, j3⟩ := hq i (.str (ws.take kk)[i]) r (by rw [List.getElem?_map, List.getElem?_eq_getElem hi2]; rfl) hr
      cases e1
      exact ⟨_, j, List.getElem?_eq_getElem hi2, e2, j1, j3⟩
    have hPL : PairL rs := fun r hr => by
      obtain ⟨i, hi, e⟩ := List.getElem_of_mem hr
      obtain ⟨x, j, e1, e2, j1, j3⟩ := hat i r (by rw [List.getElem?_eq_getElem hi, e])
      exact ⟨x, j, e2, hwf x (List.mem_of_mem_take (List.mem_of_getElem? e1)), j1, j3⟩
    have hfst : rs.map fstS = ws.take kk := by
      apply List.ext_getElem?
      intro i
      rw [List.getElem?_map]
      cases hr : rs[i]? with
      | none =>
        have : rs.length ≤ i := List.getElem?_eq_none_iff.mp hr
        rw [List.getElem?_eq_none_iff.mpr (by rw [List.length_take]; omega)]
        rfl
      | some r =>
        obtain ⟨x, j, e1, rfl, _⟩ := hat i r hr
        rw [e1]
        rfl
    have hnd : (rs.map fstS).Nodup := by rw [hfst]; exact hwn.sublist (List.take_sublist _ _)
    have S2 : Slots K ((dW a B hB).m H2) [some (.ref a.s), some v1, some v2, none] [none, some (.list (ws.map .str)), some (.list rs), none] := (S1.step i1 r2).set (j := 2) rv2
    -- the schema
    refine tupF_do (W := dW a B hB) (dv_sortedP (ds_var S2 rfl) hPL.flat hPL.alike hPL.sortable hPL.depth) i2 (Ex.refl _) _ fun t o vs H3 i3 r3 ht ho rvs => ?_
    have S3 := S2.step i2 r3
    obtain ⟨addrs, rfl, hpaired⟩ := pairs_addrs hPL.srt rvs
    refine names_draw (W := dW a B hB) (K := K) hwl hwn ab_self rfl S3 rfl (b + 23) H3 i3 (Ex.refl _) _ fun v4 H4 d4 i4 r4 rv4 hd4 => ?_
    obtain ⟨ns, rfl, hns, hnm, hnl⟩ := hd4
    have up34 := (dW a B hB).up i3 r4
    refine ⟨by show 3 ≤ sizeLine; decide, fun q hq => ?_⟩
    have i4' : (dW a B hB).I b H4 := Wd.less' (b := b + 23) (by omega) i4
    have rT : Rp K ((dW a B hB).m H4) (.ref t) (.tuple (Qs.srt rs)) := .tup (.inl (.inr ⟨o, up34 _ _ ht⟩)) (rvs.mono up34)
    obtain ⟨i5, r5, rp5⟩ := seq_new (W := dW a B hB) (K := K) (ds := [.str "schema", .tuple (Qs.srt rs), .tuple (ns.map .str)]) i4' hq (.cons (.str _) (.cons rT (.cons rv4 .nil)))
    have up45 := (dW a B hB).up i4' r5
    have nA := Wd.fresh i4' hq
    have hlen : (Qs.srt rs).length = kk := by rw [srt_len, hrl]
    have hnf : ∀ x ∈ ns, isFreeD (.str x) = true := fun x hx => hwf x (hnm x hx)
    have okT := hPL.srt.small (by omega)
    have okN := strs_small hnf (by omega)
    refine k _ _ _ i5 ((dW a B hB).trans r1 ((dW a B hB).trans r2 ((dW a B hB).trans r3 ((dW a B hB).trans r4 r5)))) ⟨rp5, ?_, ⟨?_, ?_⟩, q, .str "schema", t, v4, o, addrs, rfl, ?_, up45 _ _ (up34 _ _ ht), ho, paired_mono (up34.trans up45) hpaired⟩
    · show (decide (("schema" : Str) = "schema") && tablesOk (.tuple (Qs.srt rs)) && namesOk (.tuple (ns.map .str))) = true
      have e1 : tablesOk (.tuple (Qs.srt rs)) = true := by
        show (decide (1 ≤ ((Qs.srt rs).length : Int)) && decide (((Qs.srt rs).length : Int) ≤ 3) && (Qs.srt rs).all pairOk && asc fstS (Qs.srt rs)) = true
        rw [decide_eq_true (by omega), decide_eq_true (by omega), hPL.srt.ok, hPL.asc hnd]
        rfl
      have e2 : namesOk (.tuple (ns.map .str)) = true := by
        show (decide (((ns.map PyData.str).length : Int) ≤ 2) && (ns.map PyData.str).all isFreeD && asc strS (ns.map .str)) = true
        have e7 : ns.all (isFreeD ∘ PyData.str) = true := List.all_eq_true.mpr fun x hx => hnf x hx
        rw [List.length_map, decide_eq_true (by omega), adj_strs _ _ rfl, pw_adj hns, List.all_map, e7]
        rfl
      rw [e1, e2]
      rfl
    · rw [sm, Bool.and_eq_true]
      refine ⟨by rfl, ?_⟩
      have e8 : sm (.str "schema") = true := by rw [sm]; exact decide_eq_true (by decide)
      rw [smAll, smAll, smAll, okT.1, okN.1, e8, smAll]
      rfl
    · have e8 : so (.str "schema") = true := by rw [so]; decide +kernel
      show so (.tuple [.str "schema", .tuple (Qs.srt rs), .tuple (ns.map .str)]) = true
      have e9 : so (.tuple [.str "schema", .tuple (Qs.srt rs), .tuple (ns.map .str)]) = soAll [.str "schema", .tuple (Qs.srt rs), .tuple (ns.map .str)] := by rw [so]
      rw [e9, soAll, soAll, soAll, okT.2, okN.2, e8, soAll]
      rfl
    · show SqT K (hid B (upd H4 q (.tup [.str "schema", .ref t, v4]))) q [.str "schema", .ref t, v4]
      rw [hid_new (A := B) nA]
      exact st_of upd_same
end
end Qt
set_option maxRecDepth 100000
set_option maxHeartbeats 4000000
/-! Odd values. -/
namespace Qt
open PySem PySem.Spec PyProof.Rows L2 Evl Qd Qe Qs Qn Qw
open C8 (Cal pe_c)
section
variable {W : Wd} {K : PySem.W.Frag} {σ : L2.St} {H : Hp}
theorem ra_strI {i : Int} (h : 1 ≤ i ∧ i ≤ 3) : RaD W K (fun xs H Q => ∃ i : Int, xs = [.int i] ∧ i.natAbs.log2 < 1920 ∧ Q (.str (toString i)) H) [.int i] (.str (toString i)) := ra_val (v := .str (toString i)) (fun H xs r Q q => by
  cases r with
  | cons r t =>
    cases t
    refine ⟨i, by rw [rp_int r], ?_, q⟩
    have h2 : i = 1 ∨ i = 2 ∨ i = 3 := by omega
    rcases h2 with rfl | rfl | rfl <;> decide) fun _ => .str _
theorem dv_dnew : EvD W K tDNewK σ H (.dict []) := fun b H1 i e Q g p hp => by
  obtain ⟨r, j⟩ := W.new (H' := upd H1 p (.dK [])) i (Ex.new hp)
  have nA := Wd.fresh i hp
  refine g _ _ j r (.dic (kvs := []) (ks := []) (ds := []) ?_ .nil .nil)
  rw [show W.m (upd H1 p (.dK [])) = upd (W.m H1) p (.dK []) from hid_new nA]
  exact .inl upd_same
theorem dv_dispA : EvD W K (tDisp [(tC (.str "a"), tTup tNil)]) σ H (.dict [(.str "a", .tuple [])]) := fun b H1 i e Q g p hp => by
  obtain ⟨r, j⟩ := W.new (H' := upd H1 p (.dK [])) i (Ex.new hp)
  have nA := Wd.fresh i hp
  refine ⟨by show (0 : Nat) ≤ sizeLine; decide, fun q hq => ?_⟩
  obtain ⟨i3, r3, rp3⟩ := seq_new (W := W) (K := K) (ds := []) j hq .nil
  have npq : p ≠ q := ne_of_none upd_same hq
  refine ⟨by rw [upd_ne npq]; exact upd_same, [(.inr "a", .ref q)], rfl, by simp, ?_⟩
  have i4 := W.imt (o := .dK (mergeK [] [(.inr "a", .ref q)])) i3 nA
  have r4 := W.mtt (o := .dK (mergeK [] [(.inr "a", .ref q)])) i hp (W.trans r r3)
  have nAq := Wd.fresh j hq
  refine g _ _ i4 r4 (.dic (kvs := [(.inr "a", .ref q)]) (ks := [.str "a"]) (ds := [.tuple []]) ?_ (.cons (.str _) .nil) (.cons (.tup (xs := []) ?_ .nil) .nil))
  · rw [show W.m (upd _ p (.dK (mergeK [] [(.inr "a", .ref q)]))) = upd (W.m _) p (.dK (mergeK [] [(.inr "a", .ref q)])) from hid_new nA]
    exact .inl upd_same
  · refine st_of ?_
    rw [show W.m (upd _ p (.dK (mergeK [] [(.inr "a", .ref q)]))) = upd (W.m _) p (.dK (mergeK [] [(.inr "a", .ref q)])) from hid_new nA, upd_ne (Ne.symm npq), show W.m _ q = _ from hid_at nAq]
    exact upd_same
end
local macro_rules | `(tactic| walk_at "r2s") => `(tactic| first
    | exact r2_I0b | exact r2_I0 | exact r2_eqI | exact r2_neI | exact r2_eqS | exact r2_neS | exact r2_eqB | exact r2_neB | exact r2_ltS | exact r2_inSign | exact r2_notInSign
    | exact r2_ixT rfl | exact r2_ixL rfl | exact r2_isN | exact r2_notN | exact r2_isBl)
local macro_rules | `(tactic| walk_at "dvs") => `(tactic| first
    | exact dv_int | exact dv_str | exact dv_bl | exact dv_non
    | (refine' ds_var ?hS ?hE; (case hS => assumption); (case hE => exact rfl))
    | (refine' dv_isa ?hT ?hA; (case hT => decide); (case hA => walk_at "dvs"))
    | (refine' dv_cb (da_cons ?hA da_nil) ?hR; (case hA => walk_at "dvs"); (case hR => first | exact ra_lenT | exact ra_lenL | exact ra_lenS (by assumption) | exact ra_all))
    | (refine' dv_op ?hA ?hB ?hR; (case hA => walk_at "dvs"); (case hB => walk_at "dvs"); (case hR => walk_at "r2s"))
    | (refine' dv_call (da_cons ?hA da_nil) (ra_sp ?hO); (case hA => walk_at "dvs"); (case hO => assumption)))
local macro_rules | `(tactic| walk_at "dta") => `(tactic| first
    | exact da_nil
    | (refine' da_cons ?hA ?hB; (case hA => walk_at "dvx"); (case hB => walk_at "dta")))
local macro_rules | `(tactic| walk_at "dvx") => `(tactic| first
    | walk_at "dvs"
    | (refine' dv_tup ?hA ?hL; (case hA => walk_at "dta"); (case hL => first | decide | (simp; done)))
    | (refine' dv_lst ?hA ?hL; (case hA => walk_at "dta"); (case hL => first | decide | (simp; done)))
    | exact dv_dnew
    | (refine' dv_slT ?hA (fun _ => en_none) (fun _ => en_int); (case hA => walk_at "dvx"))
    | exact dv_dispA
    | (refine' dv_revT ?hA; (case hA => walk_at "dvx"))
    | (refine' dv_cb (da_cons ?hA da_nil) ?hR; (case hA => walk_at "dvx"); (case hR => first | exact ra_list (.inl rfl) | exact ra_list (.inr rfl) | exact ra_tuple (.inl rfl) | exact ra_tuple (.inr rfl) | exact ra_strI (by assumption)))
    | (refine' dv_op ?hA ?hB ?hR; (case hA => walk_at "dvx"); (case hB => walk_at "dvx"); (case hR => first | walk_at "r2s" | exact r2_catT' (by first | omega | (simp; done) | (simp; omega)) | exact r2_catL (by first | omega | (simp; done) | (simp; omega)))))
local macro_rules | `(tactic| walk_at "oks") => `(tactic| first
    | assumption | exact ok_int _ | exact ok_bl _ | exact ok_non | exact ok_strc (by decide +kernel)
    | (refine' ok_t0) | (refine' ok_t1 ?_; walk_at "oks") | (refine' ok_t2 ?_ ?_ <;> walk_at "oks") | (refine' ok_t3 ?_ ?_ ?_ <;> walk_at "oks") | (refine' ok_t4 ?_ ?_ ?_ ?_ <;> walk_at "oks") | (refine' ok_l2 ?_ ?_ <;> walk_at "oks"))
section
variable {P : Program} {w : World} {K : PySem.W.Frag} {mg : Str → Option Value} {base : Heap}
def odd1 : List PyData := [.none, .bool true, .int 0, .int 5, .str "", .str "schema", .tuple [], .list [], .dict [], .tuple [.str "schema"], .tuple [.str "schema", .tuple [], .tuple []], .tuple [.str "schema", .tuple [.tuple [.str "a", .int 1]]], .tuple [.str "table"], .tuple [.str "table", .str "zzzzzzzzz"]]
def odd2 : List PyData := [.tuple [.str "schema", .list [.tuple [.str "a", .int 1]], .tuple []], .tuple [.str "keep", .tuple [], .tuple []], .tuple [.str "both", .tuple [.str "table", .str "a"]], .tuple [.str "learner"], .dict [(.str "a", .tuple [])], .tuple [.str "a", .str "b"]]
theorem odd_ok : ∀ d ∈ odd1 ++ odd2, okS2 d := by
  intro d hd
  have key : (odd1 ++ odd2).all (fun d => sm d && so d) = true := by decide +kernel
  have := List.all_eq_true.mp key d hd
  rw [Bool.and_eq_true] at this
  exact this
abbrev spOd (K : PySem.W.Frag) (a : At) : Sp := spD K a 1 (fun ds => ds = []) fun _ d => okS2 d
abbrev names__law_odd : List Str := ["draws", "some"]
theorem sc__law_odd : FnScope names__law_odd ["draws"] (defScope s__law_odd) := ⟨rfl, rfl, rfl, by decide +kernel, rfl, by decide +kernel, by decide +kernel⟩
theorem ok__law_odd {a : At} {f : Addr} {fd : FuncData} (F : Fun K "_law_odd" "_law_odd" s__law_odd f fd) (T : Top K mg) (c__law_pick : Cal P w K mg base 3 "_law_pick" (spPkD K a) []) : FnOk P w K mg base CX0 4 f fd ["draws"] (spOd K a) := by
  refine F.ok sc__law_odd (fun vs H Q E h => ?_) fun cdv A outer s H vs Q E hr h => by
    have hu := hu_room hr
    refine ⟨_, (pss_cons (ps_set (i := 1) sc__law_odd.nd rfl (by first | exact .inl rfl | exact .inr rfl) (pe_lst (pa_cons pe_non (pa_cons pe_bl (pa_cons pe_int (pa_cons pe_int (pa_cons pe_str (pa_cons pe_str (pa_cons (pe_tup pa_nil) (pa_cons (pe_lst pa_nil) (pa_cons (pe_dnewK) (pa_cons (pe_tup (pa_cons pe_str pa_nil)) (pa_cons (pe_tup (pa_cons pe_str (pa_cons (pe_tup pa_nil) (pa_cons (pe_tup pa_nil) pa_nil)))) (pa_cons (pe_tup (pa_cons pe_str (pa_cons (pe_tup (pa_cons (pe_tup (pa_cons pe_str (pa_cons pe_int pa_nil))) pa_nil)) pa_nil))) (pa_cons (pe_tup (pa_cons pe_str pa_nil)) (pa_cons (pe_tup (pa_cons pe_str (pa_cons pe_str pa_nil))) pa_nil))))))))))))))))
  (pss_one (ps_ret (pe_c c__law_pick hr (by decide) (by rfl) (pa_cons (pv 0) (pa_cons (pe_op op_cat (pv 1) (pe_lst (pa_cons (pe_tup (pa_cons pe_str (pa_cons (pe_lst (pa_cons (pe_tup (pa_cons pe_str (pa_cons pe_int pa_nil))) pa_nil)) (pa_cons (pe_tup pa_nil) pa_nil)))) (pa_cons (pe_tup (pa_cons pe_str (pa_cons (pe_tup pa_nil) (pa_cons (pe_tup pa_nil) pa_nil)))) (pa_cons (pe_tup (pa_cons pe_str (pa_cons (pe_tup (pa_cons pe_str (pa_cons pe_str pa_nil))) pa_nil))) (pa_cons (pe_tup (pa_cons pe_str pa_nil)) (pa_cons (pe_disp (pps_cons pe_str (pe_tup pa_nil) pps_nil) rfl rfl (by simp) (by decide)) (pa_cons (pe_tup (pa_cons pe_str (pa_cons pe_str pa_nil))) pa_nil)))))))) pa_nil)))))), ?_⟩
    obtain ⟨b, ds, B, hB, ws, rfl, i0, rs, rfl, k⟩ := h
    cases rs
    have S : Slots K ((dW a B hB).m H) [some (.ref a.s), none] [none, none] := ⟨rfl, fun i d h => by match i with | 0 => cases h | 1 => cases h | i + 2 => cases h⟩
    refine s_asgR ((dv_lst (W := dW a B hB) (K := K) (ds := odd1) (by unfold odd1; walk_at "dta") (by decide)) (b + 1) H i0 (Ex.refl _) _ fun v1 H1 i1 r1 rv1 => ?_)
    have S1 : Slots K ((dW a B hB).m H1) [some (.ref a.s), some v1] [none, some (.list odd1)] := (S.step i0 r1).set (j := 1) rv1
    refine (EvP.less (c := 0 + 1) (c' := 1) (by decide) (pv_draw (W := dW a B hB) (K := K) (ok := okPick) (p := fun ds d => d ∈ itemsOf (d0 ds)) (q := okS2) (ps := fun ds => ds = [.list (odd1 ++ odd2)]) ab_self rfl (EaD.toP (da_cons (dv_op (ds_var (i := 1) S1 rfl) (dv_lst (ds := odd2) (by unfold odd2; walk_at "dta") (by decide)) (r2_catL (by decide))) da_nil) rfl) (fun ds hds => by
      subst hds
      exact ⟨⟨_, rfl, by decide, by decide⟩, fun d hd => odd_ok d hd⟩))) b H1 i1 (Ex.refl _) _ fun v2 H2 d2 i2 r2 rv2 hd2 => ?_
    exact k v2 H2 d2 i2 ((dW a B hB).trans r1 r2) rv2 hd2
  · obtain ⟨b, ds, B, hB, ws, rfl, _, rs, rfl, k⟩ := h
    cases rs
    rfl
end
end Qt
set_option maxRecDepth 100000
set_option maxHeartbeats 4000000
/-! A schema with one part put otherwise. -/
namespace Qt
open PySem PySem.Spec PyProof.Rows L2 Evl Qd Qe Qs Qn Qw
open C8 (Cal pe_c)
theorem sm_all : ∀ {ds : List PyData}, (∀ d ∈ ds, sm d = true) → smAll ds = true
  | [], _ => by simp [smAll]
  | d :: ds, h => by rw [smAll, h d (.head _), sm_all fun x hx => h x (.tail _ hx)]; rfl
theorem so_all : ∀ {ds : List PyData}, (∀ d ∈ ds, so d = true) → soAll ds = true
  | [], _ => by simp [soAll]
  | d :: ds, h => by rw [soAll, h d (.head _), so_all fun x hx => h x (.tail _ hx)]; rfl
theorem ok_tup {ds : List PyData} (h : ∀ d ∈ ds, okS2 d) (hl : ds.length ≤ 1000) : okS2 (.tuple ds) := ⟨by
  rw [sm, sm_all fun d hd => (h d hd).1, decide_eq_true hl]; rfl, by rw [so, so_all fun d hd => (h d hd).2]⟩
theorem ok_lst {ds : List PyData} (h : ∀ d ∈ ds, okS2 d) (hl : ds.length ≤ 1000) : okS2 (.list ds) := ⟨by
  rw [sm, sm_all fun d hd => (h d hd).1, decide_eq_true hl]; rfl, by rw [so, so_all fun d hd => (h d hd).2]⟩
theorem ok_int (i : Int) : okS2 (.int i) := ⟨by rw [sm], by rw [so]⟩
theorem ok_bl (i : Bool) : okS2 (.bool i) := ⟨by rw [sm], by rw [so]⟩
theorem ok_non : okS2 .none := ⟨by rw [sm], by rw [so]⟩
theorem ok_str {x : Str} (h : x.length ≤ 1000) (h2 : PyData.strOk x = true) : okS2 (.str x) := ⟨by rw [sm]; exact decide_eq_true h, by rw [so]; exact h2⟩
theorem ok_strc {x : Str} (h : (decide (x.length ≤ 1000) && PyData.strOk x) = true) : okS2 (.str x) := by
  rw [Bool.and_eq_true] at h
  exact ok_str (of_decide_eq_true h.1) h.2
theorem ok_t0 : okS2 (.tuple []) := ok_tup (by simp) (by simp)
theorem ok_t1 {a : PyData} (h : okS2 a) : okS2 (.tuple [a]) := ok_tup (by simpa using h) (by simp)
theorem ok_t2 {a b : PyData} (h : okS2 a) (h2 : okS2 b) : okS2 (.tuple [a, b]) := ok_tup (by simpa using ⟨h, h2⟩) (by simp)
theorem ok_t3 {a b c : PyData} (h : okS2 a) (h2 : okS2 b) (h3 : okS2 c) : okS2 (.tuple [a, b, c]) := ok_tup (by simpa using ⟨h, h2, h3⟩) (by simp)
theorem ok_t4 {a b c d : PyData} (h : okS2 a) (h2 : okS2 b) (h3 : okS2 c) (h4 : okS2 d) : okS2 (.tuple [a, b, c, d]) := ok_tup (by simpa using ⟨h, h2, h3, h4⟩) (by simp)
theorem ok_l2 {a b : PyData} (h : okS2 a) (h2 : okS2 b) : okS2 (.list [a, b]) := ok_lst (by simpa using ⟨h, h2⟩) (by simp)
theorem ok_mem_t {ds : List PyData} (h : okS2 (.tuple ds)) : ∀ d ∈ ds, okS2 d := fun d hd => h.mem hd
theorem ok_len {ds : List PyData} (h : okS2 (.tuple ds)) : ds.length ≤ 1000 := (sm_tup h.1).1
theorem ok_cut {ds : List PyData} {lo hi : Option Int} (h : okS2 (.tuple ds)) : okS2 (.tuple (Qe.cutD ds lo hi)) := ok_tup (fun d hd => ok_mem_t h d (List.mem_of_mem_drop (List.mem_of_mem_take hd))) (by
  have := ok_len h
  unfold Qe.cutD
  rw [List.length_take, List.length_drop]
  omega)
theorem ok_app {as bs : List PyData} (h : okS2 (.tuple as)) (h2 : okS2 (.tuple bs)) (hl : as.length + bs.length ≤ 1000) : okS2 (.tuple (as ++ bs)) := ok_tup (fun d hd => (List.mem_append.mp hd).elim (ok_mem_t h d) (ok_mem_t h2 d)) (by rw [List.length_append]; exact hl)
theorem ok_rev {ds : List PyData} (h : okS2 (.tuple ds)) : okS2 (.tuple ds.reverse) := ok_tup (fun d hd => ok_mem_t h d (List.mem_reverse.mp hd)) (by rw [List.length_reverse]; exact ok_len h)
theorem ok_list {ds : List PyData} (h : okS2 (.tuple ds)) : okS2 (.list ds) := ok_lst (ok_mem_t h) (ok_len h)
theorem am_nil : ∀ d ∈ ([] : List PyData), okS2 d := by simp
theorem am_cons {a : PyData} {ds : List PyData} (h : okS2 a) (t : ∀ d ∈ ds, okS2 d) : ∀ d ∈ a :: ds, okS2 d := fun d hd => by
  rcases List.mem_cons.mp hd with e | m
  · rw [e]; exact h
  · exact t d m
def LOk (n : Nat) (d : PyData) : Prop := ∃ es, d = .list es ∧ (∀ e ∈ es, okS2 e) ∧ (es.length ≤ n ∧ 1 ≤ es.length)
theorem ok_all_app {as bs : List PyData} (h : ∀ d ∈ as, okS2 d) (h2 : ∀ d ∈ bs, okS2 d) : ∀ d ∈ as ++ bs, okS2 d := fun d hd => (List.mem_append.mp hd).elim (h d) (h2 d)
local macro_rules | `(tactic| walk_at "r2s") => `(tactic| first
    | exact r2_I0b | exact r2_I0 | exact r2_eqI | exact r2_neI | exact r2_eqS | exact r2_neS | exact r2_eqB | exact r2_neB | exact r2_ltS | exact r2_inSign | exact r2_notInSign
    | exact r2_ixT rfl | exact r2_ixL rfl | exact r2_isN | exact r2_notN | exact r2_isBl)
local macro_rules | `(tactic| walk_at "dvs") => `(tactic| first
    | exact dv_int | exact dv_str | exact dv_bl | exact dv_non
    | (refine' ds_var ?hS ?hE; (case hS => assumption); (case hE => exact rfl))
    | (refine' dv_isa ?hT ?hA; (case hT => decide); (case hA => walk_at "dvs"))
    | (refine' dv_cb (da_cons ?hA da_nil) ?hR; (case hA => walk_at "dvs"); (case hR => first | exact ra_lenT | exact ra_lenL | exact ra_lenS (by assumption) | exact ra_all))
    | (refine' dv_op ?hA ?hB ?hR; (case hA => walk_at "dvs"); (case hB => walk_at "dvs"); (case hR => walk_at "r2s"))
    | (refine' dv_call (da_cons ?hA da_nil) (ra_sp ?hO); (case hA => walk_at "dvs"); (case hO => assumption)))
local macro_rules | `(tactic| walk_at "dta") => `(tactic| first
    | exact da_nil
    | (refine' da_cons ?hA ?hB; (case hA => walk_at "dvx"); (case hB => walk_at "dta")))
local macro_rules | `(tactic| walk_at "dvx") => `(tactic| first
    | walk_at "dvs"
    | (refine' dv_tup ?hA ?hL; (case hA => walk_at "dta"); (case hL => first | decide | (simp; done)))
    | (refine' dv_lst ?hA ?hL; (case hA => walk_at "dta"); (case hL => first | decide | (simp; done)))
    | exact dv_dnew
    | (refine' dv_slT ?hA (fun _ => en_none) (fun _ => en_int); (case hA => walk_at "dvx"))
    | exact dv_dispA
    | (refine' dv_revT ?hA; (case hA => walk_at "dvx"))
    | (refine' dv_cb (da_cons ?hA da_nil) ?hR; (case hA => walk_at "dvx"); (case hR => first | exact ra_list (.inl rfl) | exact ra_list (.inr rfl) | exact ra_tuple (.inl rfl) | exact ra_tuple (.inr rfl) | exact ra_strI (by assumption)))
    | (refine' dv_op ?hA ?hB ?hR; (case hA => walk_at "dvx"); (case hB => walk_at "dvx"); (case hR => first | walk_at "r2s" | exact r2_catT' (by first | omega | (simp; done) | (simp; omega)) | exact r2_catL (by first | omega | (simp; done) | (simp; omega)))))
local macro_rules | `(tactic| walk_at "oks") => `(tactic| first
    | assumption | exact ok_int _ | exact ok_bl _ | exact ok_non | exact ok_strc (by decide +kernel)
    | (refine' ok_t0) | (refine' ok_t1 ?_; walk_at "oks") | (refine' ok_t2 ?_ ?_ <;> walk_at "oks") | (refine' ok_t3 ?_ ?_ ?_ <;> walk_at "oks") | (refine' ok_t4 ?_ ?_ ?_ ?_ <;> walk_at "oks") | (refine' ok_l2 ?_ ?_ <;> walk_at "oks"))
section
variable {P : Program} {w : World} {K : PySem.W.Frag} {mg : Str → Option Value} {base : Heap}
section
variable {W : Wd} {σ : L2.St} {H : Hp} {b : Nat} {te : TE} {l : List (Option PyData)} {D : Ends} {tz : TS} {i j k : Nat} {d1 d2 d3 : PyData}
theorem q_tup2 (S : Slots K (W.m H) σ l) (i0 : W.I b H) (h : EvD W K te σ H (.tuple [d1, d2])) (kk : ∀ x y H1, W.I b H1 → W.R H H1 → Slots K (W.m H1) ((σ.set i (some x)).set j (some y)) ((l.set i (some d1)).set j (some d2)) → tz D ((σ.set i (some x)).set j (some y)) H1) : tSeq (tAsg te (gTup K 2 (gCons (gName i) (gCons (gName j) gNil)))) tz D σ H :=
  h b H i0 (Ex.refl _) _ fun v H1 i1 r1 rv => by
    obtain ⟨a, xs, rfl, hq, rs⟩ := rp_tup rv
    cases rs with
    | cons r1' t => cases t with
      | cons r2' t2 =>
        cases t2
        exact ⟨a, _, rfl, ex_t hid_ex hq, rfl, ⟨_, _, rfl, _, _, rfl, rfl, kk _ _ H1 i1 r1 (((S.step i0 r1).set r1').set r2')⟩⟩
theorem q_tup3 (S : Slots K (W.m H) σ l) (i0 : W.I b H) (h : EvD W K te σ H (.tuple [d1, d2, d3])) (kk : ∀ x y z H1, W.I b H1 → W.R H H1 → Slots K (W.m H1) (((σ.set i (some x)).set j (some y)).set k (some z)) (((l.set i (some d1)).set j (some d2)).set k (some d3)) → tz D (((σ.set i (some x)).set j (some y)).set k (some z)) H1) : tSeq (tAsg te (gTup K 3 (gCons (gName i) (gCons (gName j) (gCons (gName k) gNil))))) tz D σ H :=
  h b H i0 (Ex.refl _) _ fun v H1 i1 r1 rv => by
    obtain ⟨a, xs, rfl, hq, rs⟩ := rp_tup rv
    cases rs with
    | cons r1' t => cases t with
      | cons r2' t2 => cases t2 with
        | cons r3' t3 =>
          cases t3
          exact ⟨a, _, rfl, ex_t hid_ex hq, rfl, ⟨_, _, rfl, _, _, rfl, _, _, rfl, rfl, kk _ _ _ H1 i1 r1 ((((S.step i0 r1).set r1').set r2').set r3')⟩⟩
/-- x = e: the slots as they are -/
theorem qd_asg {d : PyData} (S : Slots K (W.m H) σ l) (i0 : W.I b H) (h : EvD W K te σ H d) (kk : ∀ v H1, W.I b H1 → W.R H H1 → Slots K (W.m H1) (σ.set j (some v)) (l.set j (some d)) → tz D (σ.set j (some v)) H1) : tSeq (tAsg te (gName j)) tz D σ H :=
  h b H i0 (Ex.refl _) _ fun v H1 i1 r1 rv => kk v H1 i1 r1 ((S.step i0 r1).set rv)
theorem qd_asgP {c : Nat} {p : PyData → Prop} (S : Slots K (W.m H) σ l) (i0 : W.I (b + c) H) (h : EvP W K c te σ H p) (kk : ∀ v d H1, p d → W.I b H1 → W.R H H1 → Slots K (W.m H1) (σ.set j (some v)) (l.set j (some d)) → tz D (σ.set j (some v)) H1) : tSeq (tAsg te (gName j)) tz D σ H :=
  h b H i0 (Ex.refl _) _ fun v H1 d i1 r1 rv hd => kk v d H1 hd i1 r1 ((S.step i0 r1).set rv)
/-- for x in .., what slot 0 holds stays -/
theorem q_forN0 {c cB N : Nat} {z : V} {wi : TI} {tu : TS} {p : List PyData → Prop} (hj : j ≠ 0) (hz : σ[0]? = some (some z)) (S : Slots K (W.m H) σ l) (hi : EiP W K c wi σ H p) (i0 : W.I (b + (c + N * cB)) H) (hn : ∀ es, p es → es.length ≤ N)
    (F : List PyData → Nat → List (Option PyData) → Prop) (h0 : ∀ es, p es → F es 0 l)
    (hs : ∀ es n d l' σ1 H1 bb (NX : L2.St → Hp → Prop), p es → es[n]? = some d → F es n l' → W.I (bb + cB) H1 → W.R H H1 → Slots K (W.m H1) σ1 (l'.set j (some d)) → σ1[0]? = some (some z) →
      (∀ σ2 H2 l2, W.I bb H2 → W.R H1 H2 → F es (n + 1) l2 → Slots K (W.m H2) σ2 l2 → σ2[0]? = some (some z) → NX σ2 H2) → tu { D with nx := NX, ct := NX, bk := tz D } σ1 H1)
    (hd : ∀ es l' σ1 H1, p es → F es es.length l' → W.I b H1 → W.R H H1 → Slots K (W.m H1) σ1 l' → σ1[0]? = some (some z) → tz D σ1 H1) : tSeq (tFor wi (gName j) tu) tz D σ H := by
  have i1 : W.I (b + N * cB + c) H := by rw [show b + N * cB + c = b + (c + N * cB) by omega]; exact i0
  refine q_forP (b := b + N * cB) (c := c) hi i1 (fun H2 es n σ' H' => n ≤ es.length ∧ W.I (b + (N - n) * cB) H' ∧ W.R H H' ∧ W.R H2 H' ∧ (∃ b0, W.I b0 H2) ∧ σ'[0]? = some (some z) ∧ ∃ l', F es n l' ∧ Slots K (W.m H') σ' l') ?_ ?_ ?_ ?_
  · intro H2 es hp i2 r2
    exact ⟨Nat.zero_le _, i2, r2, W.refl H2, ⟨_, i2⟩, hz, l, h0 es hp, S.mono (W.up i1 r2)⟩
  · rintro H2 es n σ' H' hp hn' ⟨_, i', r', r2', ⟨b0, ib⟩, _⟩
    exact (W.up ib r2').trans hid_ex
  · rintro H2 es n x d σ' H' H3 hp hd' ⟨hle, i', r', r2', ⟨b0, ib⟩, hz', l', hF, S'⟩ e3 hx
    have hlt := (List.getElem?_eq_some_iff.mp hd').1
    have hN := hn es hp
    obtain ⟨r3, i3⟩ := W.new i' e3
    have rx := hx W.A (fun a ha => W.alive i' ha) (W.up ib r2')
    have S3 := S'.mono (W.up i' r3)
    have em : b + (N - n) * cB = b + (N - (n + 1)) * cB + cB := by
      have : N - n = (N - (n + 1)) + 1 := by omega
      rw [this, Nat.add_mul, Nat.one_mul, ← Nat.add_assoc]
    rw [em] at i3
    exact hs es n d l' (σ'.set j (some x)) H3 (b + (N - (n + 1)) * cB) _ hp hd' hF i3 (W.trans r' r3) (S3.set rx) (by rw [List.getElem?_set_ne hj]; exact hz') fun σ4 H4 l2 i4 r4 f4 s4 z4 => ⟨by omega, i4, W.trans (W.trans r' r3) r4, W.trans (W.trans r2' r3) r4, ⟨b0, ib⟩, z4, l2, f4, s4⟩
  · rintro H2 es σ' H' hp ⟨_, i', r', _, _, hz', l', hF, S'⟩
    exact hd es l' σ' H' hp hF (W.less i') r' S' hz'
end
section
variable {W : Wd} {σ : L2.St} {H : Hp} {te : TE} {l : List (Option PyData)} {c n m : Nat} {es : List PyData}
theorem grow (S : Slots K (W.m H) σ l) (hl : l[10]? = some (some (.list es))) (hes : ∀ e ∈ es, okS2 e) (hn : es.length ≤ n) (hnm : n + m ≤ 1000) (h : EvP W K c te σ H (LOk m)) : EvP W K c (tOp rCat (tVar 10) te) σ H (LOk (n + m)) :=
  EvP.less (c := 0 + c) (by omega) (pv_op (c1 := 0) (p := fun d => d = .list es) (EvD.toP (ds_var S hl) rfl) h (fun d e hd ⟨xs, he, hx, hxl⟩ => by
    subst hd
    subst he
    exact ⟨.list (es ++ xs), r2_catL (by omega), es ++ xs, rfl, ok_all_app hes hx, by rw [List.length_append]; omega⟩))
end
def spBe (K : PySem.W.Frag) (a : At) : Sp := fun vs H Q _ => ∃ (b : Nat) (B : Addr → Prop) (hB : ∀ p, hides a p → B p) (v : V) (d : PyData), vs = [.ref a.s, v] ∧ (dW a B hB).I (b + 40) H ∧ Sch K (hid B H) v d ∧ ∀ v' H' d', (dW a B hB).I b H' → (dW a B hB).R H H' → Rp K (hid B H') v' d' → okS2 d' → Q v' H'
abbrev names__law_bent : List Str := ["draws", "schema", "name", "tables", "names", "at", "word", "width", "broad", "letter", "some", "kept", "odd"]
theorem sc__law_bent : FnScope names__law_bent ["draws", "schema"] (defScope s__law_bent) := ⟨rfl, rfl, rfl, by decide +kernel, rfl, by decide +kernel, by decide +kernel⟩
theorem ok__law_bent {a : At} {f : Addr} {fd : FuncData} (F : Fun K "_law_bent" "_law_bent" s__law_bent f fd) (T : Top K mg) (c__law_pick : Cal P w K mg base 3 "_law_pick" (spPkD K a) []) (c__law_draw : Cal P w K mg base 2 "_law_draw" (spDrD K a) []) (c__law_kept : Cal P w K mg base 1 "_law_kept" (spK K) []) :
    FnOk P w K mg base CX0 4 f fd ["draws", "schema"] (spBe K a) := by
  refine F.ok sc__law_bent (fun vs H Q E h => by obtain ⟨b, B, hB, v, d, rfl, _⟩ := h; rfl) fun cdv A outer s H vs Q E hr h => by
    have hu := hu_room hr
    refine ⟨_, (pss_cons (ps_asg (pv 1) (pg_tup rfl (pgs_cons (pg_name (i := 2) sc__law_bent.nd rfl (by first | exact .inl rfl | exact .inr rfl)) (pgs_cons (pg_name (i := 3) sc__law_bent.nd rfl (by first | exact .inl rfl | exact .inr rfl)) (pgs_cons (pg_name (i := 4) sc__law_bent.nd rfl (by first | exact .inl rfl | exact .inr rfl)) pgs_nil)))))
  (pss_cons (ps_set (i := 5) sc__law_bent.nd rfl (by first | exact .inl rfl | exact .inr rfl) (pe_c c__law_draw hr (by decide) (by rfl) (pa_cons (pv 0) (pa_cons (pe_callB call_len (by rfl) T.len boot_len (pa_cons (pv 3) pa_nil)) pa_nil))))
  (pss_cons (ps_asg (pe_ix ix_seq (pv 3) (pv 5) (fun _ _ => rfl)) (pg_tup rfl (pgs_cons (pg_name (i := 6) sc__law_bent.nd rfl (by first | exact .inl rfl | exact .inr rfl)) (pgs_cons (pg_name (i := 7) sc__law_bent.nd rfl (by first | exact .inl rfl | exact .inr rfl)) pgs_nil))))
  (pss_cons (ps_set (i := 8) sc__law_bent.nd rfl (by first | exact .inl rfl | exact .inr rfl) (pe_callTy call_tuple_of (by rfl) T.tuple boot_tuple (pa_cons (pe_lc (own := [("letter", 9)]) (g := gName 9) (tt := tYes) rfl sc__law_bent.nd (pi_str (pe_slice sl_str pe_str po_none (po_some (pe_op op_add pe_int (pe_c c__law_draw hr (by decide) (by rfl) (pa_cons (pv 0) (pa_cons pe_int pa_nil))))))) (blkOk_by (N := names__law_bent) (sc := defScope s__law_bent) (by decide +kernel)) (fun _ _ _ _ _ => (pg_name (i := 9) sc__law_bent.nd rfl (by first | exact .inl rfl | exact .inr rfl))) (fun _ _ _ _ _ => pts_nil) (fun _ _ _ _ _ => (pe_tup (pa_cons (pv 9) (pa_cons (pe_op op_add pe_int (pe_c c__law_draw hr (by decide) (by rfl) (pa_cons (pv 0) (pa_cons pe_int pa_nil)))) pa_nil))))) pa_nil)))
  (pss_cons (ps_set (i := 10) sc__law_bent.nd rfl (by first | exact .inl rfl | exact .inr rfl) (pe_lst (pa_cons (pe_callTy call_list_of (by rfl) T.list boot_list (pa_cons (pv 1) pa_nil)) (pa_cons (pe_slice sl_tupA (pv 1) po_none (po_some pe_int)) (pa_cons (pe_op op_catA (pv 1) (pe_tup (pa_cons pe_int pa_nil))) (pa_cons (pe_tup (pa_cons pe_str (pa_cons (pv 3) (pa_cons (pv 4) pa_nil)))) (pa_cons (pe_tup (pa_cons (pv 2) (pa_cons (pe_callTy call_list_of (by rfl) T.list boot_list (pa_cons (pv 3) pa_nil)) (pa_cons (pv 4) pa_nil)))) (pa_cons (pe_tup (pa_cons (pv 2) (pa_cons (pe_tup pa_nil) (pa_cons (pv 4) pa_nil)))) (pa_cons (pe_tup (pa_cons (pv 2) (pa_cons (pe_revT (pv 3)) (pa_cons (pv 4) pa_nil)))) pa_nil)))))))))
  (pss_cons (ps_set (i := 10) sc__law_bent.nd rfl (by first | exact .inl rfl | exact .inr rfl) (pe_op op_cat (pv 10) (pe_lst (pa_cons (pe_tup (pa_cons (pv 2) (pa_cons (pe_op op_catA (pv 3) (pv 3)) (pa_cons (pv 4) pa_nil)))) (pa_cons (pe_tup (pa_cons (pv 2) (pa_cons (pv 8) (pa_cons (pv 4) pa_nil)))) pa_nil)))))
  (pss_cons (ps_set (i := 10) sc__law_bent.nd rfl (by first | exact .inl rfl | exact .inr rfl) (pe_op op_cat (pv 10) (pe_lst (pa_cons (pe_tup (pa_cons (pv 2) (pa_cons (pv 3) (pa_cons (pe_callTy call_list_of (by rfl) T.list boot_list (pa_cons (pv 4) pa_nil)) pa_nil)))) (pa_cons (pe_tup (pa_cons (pv 2) (pa_cons (pv 3) (pa_cons (pe_revT (pv 4)) pa_nil)))) (pa_cons (pe_tup (pa_cons (pv 2) (pa_cons (pv 3) (pa_cons (pe_op op_catA (pv 4) (pv 4)) pa_nil)))) (pa_cons (pe_tup (pa_cons (pv 2) (pa_cons (pv 3) (pa_cons (pe_slice sl_tupA (pe_tup (pa_cons pe_str (pa_cons pe_str (pa_cons pe_str pa_nil)))) po_none (po_some (pe_op op_add pe_int (pe_c c__law_draw hr (by decide) (by rfl) (pa_cons (pv 0) (pa_cons pe_int pa_nil)))))) pa_nil)))) pa_nil)))))))
  (pss_cons (ps_set (i := 10) sc__law_bent.nd rfl (by first | exact .inl rfl | exact .inr rfl) (pe_op op_cat (pv 10) (pe_lst (pa_cons (pe_tup (pa_cons (pv 2) (pa_cons (pv 3) (pa_cons pe_non pa_nil)))) (pa_cons (pe_tup (pa_cons (pv 2) (pa_cons (pv 4) (pa_cons (pv 3) pa_nil)))) pa_nil)))))
  (pss_cons (ps_set (i := 11) sc__law_bent.nd rfl (by first | exact .inl rfl | exact .inr rfl) (pe_c c__law_pick hr (by decide) (by rfl) (pa_cons (pv 0) (pa_cons (pe_c0 c__law_kept hr (by decide) (by rfl)) pa_nil))))
  (pss_cons (ps_for PassesOwn.never rfl (pi_list (pe_lst (pa_cons (pe_tup (pa_cons (pv 6) (pa_cons pe_int pa_nil))) (pa_cons (pe_tup (pa_cons (pv 6) (pa_cons pe_int pa_nil))) (pa_cons (pe_tup (pa_cons (pv 6) (pa_cons pe_bl pa_nil))) (pa_cons (pe_tup (pa_cons (pv 6) (pa_cons (pe_callTy call_str_int (by rfl) T.str boot_str (pa_cons (pv 7) pa_nil)) pa_nil))) (pa_cons (pe_tup (pa_cons (pv 6) pa_nil)) (pa_cons (pe_tup (pa_cons (pv 6) (pa_cons (pv 7) (pa_cons pe_int pa_nil)))) (pa_cons (pe_lst (pa_cons (pv 6) (pa_cons (pv 7) pa_nil))) (pa_cons pe_non pa_nil)))))))))) (pg_name (i := 12) sc__law_bent.nd rfl (by first | exact .inl rfl | exact .inr rfl))
    (pss_one (ps_set (i := 10) sc__law_bent.nd rfl (by first | exact .inl rfl | exact .inr rfl) (pe_op op_cat (pv 10) (pe_lst (pa_cons (pe_tup (pa_cons (pv 2) (pa_cons (pe_tup (pa_cons (pv 12) pa_nil)) (pa_cons (pv 4) pa_nil)))) (pa_cons (pe_tup (pa_cons (pv 2) (pa_cons (pe_tup (pa_cons (pe_tup (pa_cons pe_str (pa_cons pe_int pa_nil))) (pa_cons (pv 12) pa_nil))) (pa_cons (pv 4) pa_nil)))) pa_nil)))))))
  (pss_cons (ps_for PassesOwn.never rfl (pi_list (pe_lst (pa_cons pe_str (pa_cons pe_str (pa_cons pe_str (pa_cons pe_int (pa_cons (pv 11) pa_nil))))))) (pg_name (i := 12) sc__law_bent.nd rfl (by first | exact .inl rfl | exact .inr rfl))
    (pss_one (ps_set (i := 10) sc__law_bent.nd rfl (by first | exact .inl rfl | exact .inr rfl) (pe_op op_cat (pv 10) (pe_lst (pa_cons (pe_tup (pa_cons (pv 2) (pa_cons (pe_tup (pa_cons (pe_tup (pa_cons (pv 12) (pa_cons (pv 7) pa_nil))) pa_nil)) (pa_cons (pv 4) pa_nil)))) (pa_cons (pe_tup (pa_cons (pv 2) (pa_cons (pe_tup (pa_cons (pe_tup (pa_cons pe_str (pa_cons pe_int pa_nil))) (pa_cons (pe_tup (pa_cons (pv 12) (pa_cons (pv 7) pa_nil))) pa_nil))) (pa_cons (pv 4) pa_nil)))) pa_nil)))))))
  (pss_cons (ps_for PassesOwn.never rfl (pi_list (pe_lst (pa_cons pe_str (pa_cons pe_str (pa_cons pe_str (pa_cons pe_int (pa_cons pe_non (pa_cons (pe_tup (pa_cons pe_str pa_nil)) (pa_cons (pv 11) pa_nil))))))))) (pg_name (i := 12) sc__law_bent.nd rfl (by first | exact .inl rfl | exact .inr rfl))
    (pss_one (ps_set (i := 10) sc__law_bent.nd rfl (by first | exact .inl rfl | exact .inr rfl) (pe_op op_cat (pv 10) (pe_lst (pa_cons (pe_tup (pa_cons (pv 2) (pa_cons (pv 3) (pa_cons (pe_tup (pa_cons (pv 12) pa_nil)) pa_nil)))) (pa_cons (pe_tup (pa_cons (pv 2) (pa_cons (pv 3) (pa_cons (pe_tup (pa_cons pe_str (pa_cons (pv 12) pa_nil))) pa_nil)))) pa_nil)))))))
  (pss_one (ps_ret (pe_c c__law_pick hr (by decide) (by rfl) (pa_cons (pv 0) (pa_cons (pv 10) pa_nil))))))))))))))))), ?_⟩
    obtain ⟨b, B, hB, v, d, rfl, i0, sch, k⟩ := h
    obtain ⟨ps, ns, rfl, hp, _, hp1, hp3, hn2, hnf, _⟩ := schema_shape sch.ok
    have okT : okS2 (.tuple ps) := sch.sm.mem (by simp)
    have okN : okS2 (.tuple ns) := sch.sm.mem (by simp)
    have okA := sch.sm
    have okname : okS2 (.str "schema") := sch.sm.mem (by simp)
    have S : Slots K ((dW a B hB).m H) [some (.ref a.s), some v, none, none, none, none, none, none, none, none, none, none, none] [none, some (.tuple [.str "schema", .tuple ps, .tuple ns]), none, none, none, none, none, none, none, none, none, none, none] := ⟨rfl, fun i d h => by
      match i with
      | 0 => cases h
      | 1 => cases h; exact ⟨v, rfl, sch.rp⟩
      | 2 | 3 | 4 | 5 | 6 | 7 | 8 | 9 | 10 | 11 | 12 => cases h
      | i + 13 => cases h⟩
    refine q_tup3 S i0 (ds_var S rfl) fun x2 x3 x4 H1 i1 r1 S1 => ?_
    -- at
    refine qd_asgP (b := b + 39) (c := 1) S1 i1 (EvP.less (c := 0 + 1) (by decide) (pv_draw (W := dW a B hB) (K := K) (ok := okRoom) (ps := fun ds => ds = [.int ps.length]) (q := fun d => ∃ i : Nat, d = .int i ∧ i < ps.length) ab_self rfl (EaD.toP (da_cons (dv_cb (da_cons (ds_var (i := 3) S1 rfl) da_nil) ra_lenT) da_nil) rfl) (fun ds hds => by
      subst hds
      exact ⟨⟨_, rfl, by omega, by omega⟩, fun d ⟨i, e, i0, i1⟩ => ⟨i.toNat, by rw [e]; congr 1; omega, by have i1 : i < ps.length := i1; omega⟩⟩))) fun x5 d5 H2 hd5 i2 r2 S2 => ?_
    obtain ⟨m, rfl, hm⟩ := hd5
    have hmem : ps[m] ∈ ps := List.getElem_mem hm
    obtain ⟨wd, wi, hpair⟩ := pair_sm hp hmem
    have hat : atI ps (m : Int) = some (.tuple [.str wd, .int wi]) := by
      unfold atI
      rw [ixN_nat hm, ← hpair]
      exact List.getElem?_eq_getElem hm
    have hpo := List.all_eq_true.mp hp _ hmem
    rw [hpair] at hpo
    have okw : okS2 (.str wd) := by
      have := okT.mem hmem
      rw [hpair] at this
      exact this.mem (by simp)
    have hwi : 1 ≤ wi ∧ wi ≤ 3 := by
      have h2 : (isFreeD (.str wd) && (decide (1 ≤ wi) && decide (wi ≤ 3))) = true := hpo
      simp only [Bool.and_eq_true, decide_eq_true_eq] at h2
      exact h2.2
    refine q_tup2 S2 i2 (dv_op (ds_var (i := 3) S2 rfl) (ds_var (i := 5) S2 rfl) (r2_ixT hat)) fun x6 x7 H3 i3 r3 S3 => ?_
    have r03 := (dW a B hB).trans r1 ((dW a B hB).trans r2 r3)
    -- broad
    have hbroad := ps_lcD (W := dW a B hB) (K := K) (n := 8) (c1 := 1) (c2 := 1) (j := 9) (p := fun es => es.length ≤ 8 ∧ ∀ e ∈ es, ∃ x : Str, e = .str x ∧ okS2 e) (q := fun d r => okS2 r) S3
      (eip_str (EvP.imp (fun d hd => by
          obtain ⟨z, lo, hi, rfl, h1, h2, h3⟩ := hd
          have h1 : z = ("abcdefgh" : Str) := h1
          subst h1
          refine ⟨_, rfl, ?_, fun e he => ?_⟩
          · show ((cutS "abcdefgh" lo hi).cps.toList.map fun c => PyData.str ⟨#[c]⟩).length ≤ 8
            rw [List.length_map]
            show ((("abcdefgh" : Str).cps.toList.drop _).take _).length ≤ 8
            rw [List.length_take, List.length_drop]
            have : ("abcdefgh" : Str).cps.toList.length = 8 := by decide +kernel
            omega
          · obtain ⟨c, hc, rfl⟩ := List.mem_map.mp he
            have hc : c ∈ (("abcdefgh" : Str).cps.toList.drop _).take _ := hc
            have hc2 := List.mem_of_mem_drop (List.mem_of_mem_take hc)
            have key : ∀ c ∈ ("abcdefgh" : Str).cps.toList, (decide ((⟨#[c]⟩ : Str).length ≤ 1000) && PyData.strOk ⟨#[c]⟩) = true := by decide +kernel
            exact ⟨_, rfl, ok_strc (key c hc2)⟩)
        (EvP.less (c' := 1) (by decide) (pv_slS (W := dW a B hB) (K := K) (c1 := 0) (c2 := 0) (c3 := 1) (p := fun z => z = ("abcdefgh" : Str)) (pl := fun o => o = none) (ph := fun o => ∃ i, o = some i ∧ ((3 : Int) ≤ i ∧ i < 3 + 2)) (EvD.toP dv_str ⟨_, rfl, rfl⟩) (fun z hz => by subst hz; decide) op_none (op_part (plus_draw (K := K) (m := 3) (n := 2) (by decide) (by decide) ab_self rfl))))))
      (fun es he => he.1) (by decide)
      (fun D es d σ2 H' nA he hd S' hσ => by
        obtain ⟨x, rfl, hx⟩ := he.2 d hd
        exact EvP.imp (fun r ⟨i, e, h1, h3⟩ => by rw [e]; exact ok_t2 hx (ok_int i)) (pair_draw (K := K) (j := 9) (ab_self.hide fun z => nA (hB D z)) (by rw [hσ 0 (by decide)]; rfl) S' rfl))
    refine qd_asgP (b := b + 29) (c := 10) S3 i3 (EvP.less (c := 1 + 8 * 1 + 0) (by decide) (pv_cb (s := fun d => ∃ rs, d = .tuple rs ∧ okS2 (.tuple rs)) (ap_cons hbroad ap_nil) (fun ds hds => by
      obtain ⟨d, t, rfl, ⟨es, rs, rfl, he, hl, hq⟩, rfl⟩ := hds
      refine ⟨_, ra_tuple (.inr rfl), rs, rfl, ok_tup (fun r hr => ?_) (by have := he.1; omega)⟩
      obtain ⟨i, hi, e⟩ := List.getElem_of_mem hr
      exact hq i es[i] r (List.getElem?_eq_getElem (by omega)) (by rw [List.getElem?_eq_getElem hi, e])))) fun x8 d8 H4 hd8 i4 r4 S4 => ?_
    obtain ⟨br, rfl, okB⟩ := hd8
    -- some
    refine qd_asgP (b := b + 29) (c := 0) S4 i4 (p := LOk 7) (EvD.toP (d := .list [.list [.str "schema", .tuple ps, .tuple ns], .tuple (Qe.cutD [.str "schema", .tuple ps, .tuple ns] none (some 2)), .tuple ([.str "schema", .tuple ps, .tuple ns] ++ [.int 1]), .tuple [.str "schemas", .tuple ps, .tuple ns], .tuple [.str "schema", .list ps, .tuple ns], .tuple [.str "schema", .tuple [], .tuple ns], .tuple [.str "schema", .tuple ps.reverse, .tuple ns]]) (by walk_at "dvx")
      ⟨_, rfl, am_cons (ok_list okA) (am_cons (ok_cut okA) (am_cons (ok_app okA (ok_t1 (ok_int 1)) (by simp)) (am_cons (ok_t3 (ok_strc (by decide +kernel)) okT okN) (am_cons (ok_t3 okname (ok_list okT) okN) (am_cons (ok_t3 okname ok_t0 okN) (am_cons (ok_t3 okname (ok_rev okT) okN) am_nil)))))), by simp⟩) fun x10 d10 H5 hd5 i5 r5 S5 => ?_
    obtain ⟨es5, rfl, ok5, l5⟩ := hd5
    refine qd_asgP (b := b + 29) (c := 0) S5 i5 (grow (n := 7) (m := 2) S5 rfl ok5 l5.1 (by decide) (EvD.toP (d := .list [.tuple [.str "schema", .tuple (ps ++ ps), .tuple ns], .tuple [.str "schema", .tuple br, .tuple ns]]) (by walk_at "dvx")
      ⟨_, rfl, am_cons (ok_t3 okname (ok_app okT okT (by omega)) okN) (am_cons (ok_t3 okname okB okN) am_nil), by simp⟩)) fun x10 d10 H6 hd6 i6 r6 S6 => ?_
    obtain ⟨es6, rfl, ok6, l6⟩ := hd6
    have habc := pv_slT (W := dW a B hB) (K := K) (σ := [some (.ref a.s), some v, some x2, some x3, some x4, some x5, some x6, some x7, some x8, none, some x10, none, none]) (H := H6) (c1 := 0) (c2 := 0) (c3 := 1) (p := fun d => d = .tuple [.str "a", .str "b", .str "c"]) (pl := fun o => o = none) (ph := fun o => ∃ i, o = some i ∧ ((2 : Int) ≤ i ∧ i < 2 + 2)) (EvD.toP (d := .tuple [.str "a", .str "b", .str "c"]) (dv_tup (da_cons dv_str (da_cons dv_str (da_cons dv_str da_nil)))) ⟨_, rfl, rfl⟩) op_none (op_part (plus_draw (K := K) (m := 2) (n := 2) (by decide) (by decide) ab_self rfl))
    refine qd_asgP (b := b + 28) (c := 1) S6 i6 (grow (n := 9) (m := 4) S6 rfl ok6 l6.1 (by decide) (EvP.imp (fun d hd => by
        obtain ⟨ds, rfl, d1, t1, rfl, rfl, d2, t2, rfl, rfl, d3, t3, rfl, rfl, d4, t4, rfl, h4, rfl⟩ := hd
        exact ⟨_, rfl, am_cons (ok_t3 okname okT (ok_list okN)) (am_cons (ok_t3 okname okT (ok_rev okN)) (am_cons (ok_t3 okname okT (ok_app okN okN (by omega))) (am_cons h4 am_nil))), by simp⟩)
      (EvP.less (c := 0 + (0 + (0 + (1 + 0)))) (by decide) (pv_lst (ap_cons (c1 := 0) (p := fun d => d = .tuple [.str "schema", .tuple ps, .list ns]) (EvD.toP (by walk_at "dvx") rfl) (ap_cons (c1 := 0) (p := fun d => d = .tuple [.str "schema", .tuple ps, .tuple ns.reverse]) (EvD.toP (by walk_at "dvx") rfl) (ap_cons (c1 := 0) (p := fun d => d = .tuple [.str "schema", .tuple ps, .tuple (ns ++ ns)]) (EvD.toP (by walk_at "dvx") rfl)
        (ap_cons (c1 := 1) (p := okS2) (EvP.imp (fun d hd => by
            obtain ⟨ds, rfl, d1, t1, rfl, rfl, d2, t2, rfl, rfl, d3, t3, rfl, ⟨ds3, lo, hi, rfl, h3, _, _⟩, rfl⟩ := hd
            have h3 : PyData.tuple ds3 = .tuple [.str "a", .str "b", .str "c"] := h3
            cases h3
            exact ok_t3 okname okT (ok_cut (ok_t3 (ok_strc (by decide +kernel)) (ok_strc (by decide +kernel)) (ok_strc (by decide +kernel)))))
          (EvP.less (c := 0 + (0 + (1 + 0))) (by decide) (pv_tup (ap_cons (c1 := 0) (p := fun d => d = .str "schema") (EvD.toP (by walk_at "dvx") rfl) (ap_cons (c1 := 0) (p := fun d => d = .tuple ps) (EvD.toP (by walk_at "dvx") rfl) (ap_cons (c1 := 1) (EvP.less (c := 0 + (0 + 1)) (by decide) habc) ap_nil))) (fun ds hds => by
            obtain ⟨d1, t1, rfl, _, d2, t2, rfl, _, d3, t3, rfl, _, rfl⟩ := hds
            show 3 ≤ 100000
            decide)))) ap_nil)))) (fun ds hds => by
          obtain ⟨d1, t1, rfl, _, d2, t2, rfl, _, d3, t3, rfl, _, d4, t4, rfl, _, rfl⟩ := hds
          show 4 ≤ 100000
          decide))))) fun x10 d10 H7 hd7 i7 r7 S7 => ?_
    obtain ⟨es7, rfl, ok7, l7⟩ := hd7
    refine qd_asgP (b := b + 28) (c := 0) S7 i7 (grow (n := 13) (m := 2) S7 rfl ok7 l7.1 (by decide) (EvD.toP (d := .list [.tuple [.str "schema", .tuple ps, .none], .tuple [.str "schema", .tuple ns, .tuple ps]]) (by walk_at "dvx")
      ⟨_, rfl, am_cons (ok_t3 okname okT ok_non) (am_cons (ok_t3 okname okN okT) am_nil), by simp⟩)) fun x10 d10 H8 hd8 i8 r8 S8 => ?_
    obtain ⟨es8, rfl, ok8, l8⟩ := hd8
    -- kept
    refine qd_asgP (b := b + 27) (c := 1) S8 i8 (EvP.less (c := 0 + 1) (by decide) (pv_draw (W := dW a B hB) (K := K) (ok := okPick) (p := fun ds d => d ∈ itemsOf (d0 ds)) (q := okS2) (ps := fun ds => ds = [.list (keptS.map .str)]) ab_self rfl (EaD.toP (da_cons (dv_call da_nil (ra_sp rfl)) da_nil) rfl) (fun ds hds => by
      subst hds
      refine ⟨⟨_, rfl, by decide, by decide⟩, fun d hd => ?_⟩
      obtain ⟨x, hx, rfl⟩ := List.mem_map.mp (show d ∈ keptS.map PyData.str from hd)
      have key : ∀ x ∈ keptS, (decide (x.length ≤ 1000) && PyData.strOk x) = true := by decide +kernel
      exact ok_strc (key x hx)))) fun x11 kd H9 hkd i9 r9 S9 => ?_
    have r09 := (dW a B hB).trans r03 ((dW a B hB).trans r4 ((dW a B hB).trans r5 ((dW a B hB).trans r6 ((dW a B hB).trans r7 ((dW a B hB).trans r8 r9)))))
    let Lx : List PyData → Option PyData → List (Option PyData) := fun xs y => [none, some (.tuple [.str "schema", .tuple ps, .tuple ns]), some (.str "schema"), some (.tuple ps), some (.tuple ns), some (.int m), some (.str wd), some (.int wi), some (.tuple br), none, some (.list xs), some kd, y]
    let Fx : Nat → List PyData → Nat → List (Option PyData) → Prop := fun k0 es n l' => ∃ xs y, l' = Lx xs y ∧ (∀ e ∈ xs, okS2 e) ∧ (xs.length ≤ k0 + 2 * n ∧ 1 ≤ xs.length)
    have okint : okS2 (.int wi) := ok_int wi
    have okstr : okS2 (.str (toString wi)) := by
      have h2 : wi = 1 ∨ wi = 2 ∨ wi = 3 := by omega
      rcases h2 with e | e | e <;> (rw [e]; exact ok_strc (by decide +kernel))
    -- the first loop
    refine q_forN0 (W := dW a B hB) (b := b + 27) (c := 0) (cB := 0) (N := 8) (z := .ref a.s) (p := fun es => es.length = 8 ∧ ∀ e ∈ es, okS2 e) (by decide) rfl S9 (eip_list (EvD.toP (d := .list [.tuple [.str wd, .int 0], .tuple [.str wd, .int 4], .tuple [.str wd, .bool true], .tuple [.str wd, .str (toString wi)], .tuple [.str wd], .tuple [.str wd, .int wi, .int 1], .list [.str wd, .int wi], .none]) (by walk_at "dvx")
      ⟨_, rfl, rfl, am_cons (ok_t2 okw (ok_int 0)) (am_cons (ok_t2 okw (ok_int 4)) (am_cons (ok_t2 okw (ok_bl true)) (am_cons (ok_t2 okw okstr) (am_cons (ok_t1 okw) (am_cons (ok_t3 okw okint (ok_int 1)) (am_cons (ok_l2 okw okint) (am_cons ok_non am_nil)))))))⟩)) i9 (fun es he => by omega) (Fx 15) (fun es _ => ⟨es8, none, rfl, ok8, by omega⟩)
      (fun es n d l' σ1 H1' bb NX he hd hF i1' r1' S1' hz' nx => by
        obtain ⟨xs, y, rfl, okx, lx⟩ := hF
        have hn := (List.getElem?_eq_some_iff.mp hd).1
        have okd : okS2 d := he.2 d (List.mem_of_getElem? hd)
        refine s_asgE (grow (n := 15 + 2 * n) (m := 2) S1' rfl okx lx.1 (by omega) (EvD.toP (d := .list [.tuple [.str "schema", .tuple [d], .tuple ns], .tuple [.str "schema", .tuple [.tuple [.str "a", .int 1], d], .tuple ns]]) (by walk_at "dvx")
          ⟨_, rfl, am_cons (ok_t3 okname (ok_t1 okd) okN) (am_cons (ok_t3 okname (ok_t2 (ok_t2 (ok_strc (by decide +kernel)) (ok_int 1)) okd) okN) am_nil), by simp⟩) bb H1' i1' (Ex.refl _) _ fun v H2' d2 i2' r2' rv hd2 => ?_)
        obtain ⟨xs2, rfl, okx2, lx2⟩ := hd2
        exact nx _ H2' _ i2' r2' ⟨xs2, some d, rfl, okx2, by omega⟩ ((S1'.step i1' r2').set (j := 10) rv) (by rw [List.getElem?_set_ne (by decide)]; exact hz'))
      (fun es l' σ1 H10 he hF i10 r10 S10 hz10 => ?_)
    obtain ⟨xs10, y10, rfl, ok10, l10⟩ := hF
    have l10 : xs10.length ≤ 31 ∧ 1 ≤ xs10.length := by omega
    -- the second loop
    refine q_forN0 (W := dW a B hB) (b := b + 27) (c := 0) (cB := 0) (N := 5) (z := .ref a.s) (p := fun es => es.length = 5 ∧ ∀ e ∈ es, okS2 e) (by decide) hz10 S10 (eip_list (EvD.toP (d := .list [.str "zzzzzzzzz", .str "A", .str "", .int 5, kd]) (by walk_at "dvx")
      ⟨_, rfl, rfl, am_cons (ok_strc (by decide +kernel)) (am_cons (ok_strc (by decide +kernel)) (am_cons (ok_strc (by decide +kernel)) (am_cons (ok_int 5) (am_cons hkd am_nil))))⟩)) i10 (fun es he => by omega) (Fx 31) (fun es _ => ⟨xs10, y10, rfl, ok10, by omega⟩)
      (fun es n d l' σ1 H1' bb NX he hd hF i1' r1' S1' hz' nx => by
        obtain ⟨xs, y, rfl, okx, lx⟩ := hF
        have hn := (List.getElem?_eq_some_iff.mp hd).1
        have okd : okS2 d := he.2 d (List.mem_of_getElem? hd)
        refine s_asgE (grow (n := 31 + 2 * n) (m := 2) S1' rfl okx lx.1 (by omega) (EvD.toP (d := .list [.tuple [.str "schema", .tuple [.tuple [d, .int wi]], .tuple ns], .tuple [.str "schema", .tuple [.tuple [.str "a", .int 1], .tuple [d, .int wi]], .tuple ns]]) (by walk_at "dvx")
          ⟨_, rfl, am_cons (ok_t3 okname (ok_t1 (ok_t2 okd okint)) okN) (am_cons (ok_t3 okname (ok_t2 (ok_t2 (ok_strc (by decide +kernel)) (ok_int 1)) (ok_t2 okd okint)) okN) am_nil), by simp⟩) bb H1' i1' (Ex.refl _) _ fun v H2' d2 i2' r2' rv hd2 => ?_)
        obtain ⟨xs2, rfl, okx2, lx2⟩ := hd2
        exact nx _ H2' _ i2' r2' ⟨xs2, some d, rfl, okx2, by omega⟩ ((S1'.step i1' r2').set (j := 10) rv) (by rw [List.getElem?_set_ne (by decide)]; exact hz'))
      (fun es l' σ1 H11 he hF i11 r11 S11 hz11 => ?_)
    obtain ⟨xs11, y11, rfl, ok11, l11⟩ := hF
    have l11 : xs11.length ≤ 41 ∧ 1 ≤ xs11.length := by omega
    -- the third loop
    refine q_forN0 (W := dW a B hB) (b := b + 27) (c := 0) (cB := 0) (N := 7) (z := .ref a.s) (p := fun es => es.length = 7 ∧ ∀ e ∈ es, okS2 e) (by decide) hz11 S11 (eip_list (EvD.toP (d := .list [.str "zzzzzzzzz", .str "A", .str "", .int 5, .none, .tuple [.str "a"], kd]) (by walk_at "dvx")
      ⟨_, rfl, rfl, am_cons (ok_strc (by decide +kernel)) (am_cons (ok_strc (by decide +kernel)) (am_cons (ok_strc (by decide +kernel)) (am_cons (ok_int 5) (am_cons ok_non (am_cons (ok_t1 (ok_strc (by decide +kernel))) (am_cons hkd am_nil))))))⟩)) i11 (fun es he => by omega) (Fx 41) (fun es _ => ⟨xs11, y11, rfl, ok11, by omega⟩)
      (fun es n d l' σ1 H1' bb NX he hd hF i1' r1' S1' hz' nx => by
        obtain ⟨xs, y, rfl, okx, lx⟩ := hF
        have hn := (List.getElem?_eq_some_iff.mp hd).1
        have okd : okS2 d := he.2 d (List.mem_of_getElem? hd)
        refine s_asgE (grow (n := 41 + 2 * n) (m := 2) S1' rfl okx lx.1 (by omega) (EvD.toP (d := .list [.tuple [.str "schema", .tuple ps, .tuple [d]], .tuple [.str "schema", .tuple ps, .tuple [.str "a", d]]]) (by walk_at "dvx")
          ⟨_, rfl, am_cons (ok_t3 okname okT (ok_t1 okd)) (am_cons (ok_t3 okname okT (ok_t2 (ok_strc (by decide +kernel)) okd)) am_nil), by simp⟩) bb H1' i1' (Ex.refl _) _ fun v H2' d2 i2' r2' rv hd2 => ?_)
        obtain ⟨xs2, rfl, okx2, lx2⟩ := hd2
        exact nx _ H2' _ i2' r2' ⟨xs2, some d, rfl, okx2, by omega⟩ ((S1'.step i1' r2').set (j := 10) rv) (by rw [List.getElem?_set_ne (by decide)]; exact hz'))
      (fun es l' σ1 H12 he hF i12 r12 S12 hz12 => ?_)
    obtain ⟨xs12, y12, rfl, ok12, l12⟩ := hF
    have l12' : xs12.length ≤ 55 ∧ 1 ≤ xs12.length := by omega
    have hpos : 0 < xs12.length := by omega
    refine (EvP.less (c := 0 + 1) (c' := 1) (by decide) (pv_draw (W := dW a B hB) (K := K) (ok := okPick) (p := fun ds d => d ∈ itemsOf (d0 ds)) (q := okS2) (ps := fun ds => ds = [.list xs12]) ab_self hz12 (EaD.toP (da_cons (ds_var (i := 10) S12 rfl) da_nil) rfl) (fun ds hds => by
      subst hds
      exact ⟨⟨_, rfl, hpos, by omega⟩, fun d hd => ok12 d hd⟩))) (b + 26) H12 i12 (Ex.refl _) _ fun v13 H13 d13 i13 r13 rv13 hd13 => ?_
    exact k v13 H13 d13 (Wd.less' (b := b + 26) (by omega) i13) ((dW a B hB).trans r09 ((dW a B hB).trans r10 ((dW a B hB).trans r11 ((dW a B hB).trans r12 r13)))) rv13 hd13
end
end Qt
set_option maxRecDepth 100000
set_option maxHeartbeats 4000000
/-! The law's own sameness, of data that are the same. -/
namespace Qt
open PySem PySem.Spec PyProof.Rows L2 Evl Qd Qe Qs
open C8 (Cal pe_c)
local macro_rules | `(tactic| walk_at "r2s") => `(tactic| first
    | exact r2_I0b | exact r2_I0 | exact r2_eqI | exact r2_neI | exact r2_eqS | exact r2_neS | exact r2_eqB | exact r2_neB | exact r2_ltS | exact r2_inSign | exact r2_notInSign
    | exact r2_ixT rfl | exact r2_ixL rfl | exact r2_isN | exact r2_notN | exact r2_isBl)
local macro_rules | `(tactic| walk_at "dvs") => `(tactic| first
    | exact dv_int | exact dv_str | exact dv_bl | exact dv_non
    | (refine' ds_var ?hS ?hE; (case hS => assumption); (case hE => exact rfl))
    | (refine' dv_isa ?hT ?hA; (case hT => decide); (case hA => walk_at "dvs"))
    | (refine' dv_cb (da_cons ?hA da_nil) ?hR; (case hA => walk_at "dvs"); (case hR => first | exact ra_lenT | exact ra_lenL | exact ra_lenS (by assumption) | exact ra_all))
    | (refine' dv_op ?hA ?hB ?hR; (case hA => walk_at "dvs"); (case hB => walk_at "dvs"); (case hR => walk_at "r2s"))
    | (refine' dv_call (da_cons ?hA da_nil) (ra_sp ?hO); (case hA => walk_at "dvs"); (case hO => assumption)))
mutual
def wt : PyData → Nat
  | .list xs => 1 + wtAll xs
  | .tuple xs => 1 + wtAll xs
  | _ => 1
def wtAll : List PyData → Nat
  | [] => 0
  | x :: xs => wt x + wtAll xs
end
theorem pe_no {X : Cx} {e : Expr} : PE X e (fun _ _ _ => False) := ⟨fun _ _ _ _ _ _ h => h.elim⟩
def tIfT (t u v : TT) : TT := fun σ H Q => t σ H fun c H1 => if c = true then u σ H1 Q else v σ H1 Q
theorem pt_ifExp {X : Cx} {c a b : Expr} {pos : Pos} {tc ta tb : TT} (hc : PT X c tc) (ha : PT X a ta) (hb : PT X b tb) : PT X (.IfExp c a b pos) (tIfT tc ta tb) := ⟨fun pins s σ H Q I h => by
  refine isTrue_IfExp (wpAny_mono (hc.run pins s σ H _ I h) (fun d s1 ⟨H1, I1, q1⟩ => ?_) fun _ _ x => x)
  cases d with
  | true => exact ha.run pins s1 σ H1 Q I1 q1
  | false => exact hb.run pins s1 σ H1 Q I1 q1⟩
theorem dt_ifT {W : Wd} {σ : L2.St} {H : Hp} {t u v : TT} {b k : Bool} (h : EtD W t σ H b) (h1 : b = true → EtD W u σ H k) (h2 : b = false → EtD W v σ H k) : EtD W (tIfT t u v) σ H k := fun n H1 i e Q g => h n H1 i e _ fun H2 i2 r2 => by
  cases b with
  | true => exact h1 rfl n H2 i2 (e.trans (W.up i r2)) Q fun H3 i3 r3 => g H3 i3 (W.trans r2 r3)
  | false => exact h2 rfl n H2 i2 (e.trans (W.up i r2)) Q fun H3 i3 r3 => g H3 i3 (W.trans r2 r3)
/-- data that are compared place by place: no dicts, not too deep -/
def good (d : PyData) : Prop := flat d = true ∧ d.canLay0 = true ∧ d.depth ≤ 60
theorem depthAll_mem : ∀ {ds : List PyData} {d : PyData}, d ∈ ds → d.depth ≤ PyData.depthAll ds
  | x :: xs, d, h => by
    rw [PyData.depthAll]
    rcases List.mem_cons.mp h with e | m
    · rw [e]; exact Nat.le_max_left _ _
    · exact Nat.le_trans (depthAll_mem m) (Nat.le_max_right _ _)
theorem flatAll_mem : ∀ {ds : List PyData} {d : PyData}, flatAll ds = true → d ∈ ds → flat d = true
  | x :: xs, d, e, h => by
    rw [flatAll, Bool.and_eq_true] at e
    rcases List.mem_cons.mp h with z | m
    · rw [z]; exact e.1
    · exact flatAll_mem e.2 m
theorem layAll_mem : ∀ {ds : List PyData} {d : PyData}, PyData.canLayAll0 ds = true → d ∈ ds → d.canLay0 = true
  | x :: xs, d, e, h => by
    rw [PyData.canLayAll0, Bool.and_eq_true] at e
    rcases List.mem_cons.mp h with z | m
    · rw [z]; exact e.1
    · exact layAll_mem e.2 m
theorem good_tup {ds : List PyData} (h : good (.tuple ds)) : ∀ d ∈ ds, good d := fun d hd => by
  obtain ⟨h1, h2, h3⟩ := h
  rw [flat] at h1
  rw [PyData.canLay0] at h2
  rw [PyData.depth] at h3
  have := depthAll_mem hd
  exact ⟨flatAll_mem h1 hd, layAll_mem h2 hd, by omega⟩
theorem good_lst {ds : List PyData} (h : good (.list ds)) : ∀ d ∈ ds, good d := fun d hd => by
  obtain ⟨h1, h2, h3⟩ := h
  rw [flat] at h1
  rw [PyData.canLay0] at h2
  rw [PyData.depth] at h3
  have := depthAll_mem hd
  exact ⟨flatAll_mem h1 hd, layAll_mem h2 hd, by omega⟩
def dup (d : PyData) : PyData := .tuple [d, d]
theorem dups_ok : ∀ {ds : List PyData}, (∀ d ∈ ds, good d) → flatAll (ds.map dup) = true ∧ PyData.canLayAll0 (ds.map dup) = true ∧ PyData.depthAll (ds.map dup) ≤ 61
  | [], _ => by simp [flatAll, PyData.canLayAll0, PyData.depthAll]
  | d :: ds, h => by
    obtain ⟨h1, h2, h3⟩ := dups_ok (ds := ds) fun x hx => h x (.tail _ hx)
    obtain ⟨g1, g2, g3⟩ := h d (.head _)
    rw [List.map_cons, flatAll, PyData.canLayAll0, PyData.depthAll, h1, h2]
    refine ⟨by simp [dup, flat, flatAll, g1], by simp [dup, PyData.canLay0, PyData.canLayAll0, g2], ?_⟩
    have e : (dup d).depth ≤ 61 := by
      simp [dup, PyData.depth, PyData.depthAll]
      omega
    omega
theorem wtAll_app : ∀ (as bs : List PyData), wtAll (as ++ bs) = wtAll as + wtAll bs
  | [], bs => by simp [wtAll]
  | a :: as, bs => by rw [List.cons_append, wtAll, wtAll, wtAll_app as bs]; omega
theorem wt_pos (d : PyData) : 1 ≤ wt d := by cases d <;> simp [wt]
theorem rps_concat {K : PySem.W.Frag} {H : Hp} : ∀ {as : List PyData} {vs : List V} {b : PyData}, Rps K H vs (as ++ [b]) → ∃ vs' y, vs = vs' ++ [y] ∧ Rps K H vs' as ∧ Rp K H y b
  | [], vs, b, h => by
    have h : Rps K H vs [b] := h
    cases h with
    | cons r t => cases t; exact ⟨[], _, rfl, .nil, r⟩
  | a :: as, vs, b, h => by
    have h : Rps K H vs (a :: (as ++ [b])) := h
    cases h with
    | cons r t =>
      obtain ⟨vs', y, e, r1, r2⟩ := rps_concat t
      exact ⟨_ :: vs', y, by rw [e]; rfl, .cons r r1, r2⟩
section
variable {P : Program} {w : World} {K : PySem.W.Frag} {mg : Str → Option Value} {base : Heap}
theorem dv_isaIS {W : Wd} {σ : L2.St} {H : Hp} {ta : TE} {d : PyData} (ha : EvD W K ta σ H d) : EvD W K (tCB (rIsiT K) (tCons ta (tCons (tTup (tCons (tC (.ty "int")) (tCons (tC (.ty "str")) tNil))) tNil))) σ H (.bool (isA "int" d || isA "str" d)) := fun b H1 i e Q g =>
  ha b H1 i e _ fun x H2 i2 r2 rp => ⟨by show 2 ≤ sizeLine; decide, fun p hp => by
    obtain ⟨r3, i3⟩ := W.new (H' := upd H2 p (.tup [.ty "int", .ty "str"])) i2 (Ex.new hp)
    refine ⟨x, p, [.ty "int", .ty "str"], .type (tyName d), [.type "int", .type "str"], isA "int" d || isA "str" d, rfl, upd_same, .cons (.ty _) (.cons (.ty _) .nil), ty_of ((un rp).mono (Ex.new hp)), ?_, g _ _ i3 (W.trans r2 r3) (.bl _)⟩
    refine kitAny_cons (b := isA "int" d) (kit_ty (kit_isA (by decide) d)) (fun h => ?_) (fun h => by rw [h]; rfl)
    rw [h, Bool.false_or]
    refine kitAny_cons (b := isA "str" d) (kit_ty (kit_isA (by decide) d)) (fun h2 => by rw [h2]; rfl) (fun h2 => h2)⟩
def okSame (ds : List PyData) : Prop := ∃ d, ds = [d, d] ∧ good d ∧ wt d ≤ 10000
abbrev spSame (K : PySem.W.Frag) : Sp := spP K okSame fun _ => .bool true
theorem zip_self (as : List PyData) : (as.zip as).map (fun p => PyData.tuple [p.1, p.2]) = as.map dup := by
  induction as with
  | nil => rfl
  | cons a as ih => rw [List.zip_cons_cons, List.map_cons, List.map_cons, ih]; rfl
theorem ne_nilD {σ : L2.St} {H : Hp} {ta : TE} {l : Addr} {vs : List V} {ds : List PyData} (h1 : flatAll ds = true) (h2 : SeqAt.shaped (.list ds) = true) (h : Ev ta σ H (.ref l)) (hl : H l = some (.lst vs)) (rs : Rps K H vs ds) : EvT (tTest (tOp (rNeU K) ta (tLst tNil))) σ H (!decide (ds = [])) := fun H1 e Q q =>
  h H1 e _ fun H2 e2 => ⟨by show (0 : Nat) ≤ sizeLine; decide, fun p hp => by
    have e3 : Ex H2 (upd H2 p (.lst [])) := Ex.new hp
    have e0 : Ex H (upd H2 p (.lst [])) := e.trans (e2.trans e3)
    have e4 : Ex H (Wd.m (Wd.pure fun _ => False) (upd H2 p (.lst []))) := fun a o ha => (hid_at (fun z => z)).trans (e0 a o ha)
    have r1 : Rp K (Wd.m (Wd.pure fun _ => False) (upd H2 p (.lst []))) (.ref l) (.list ds) := .lst (e4 _ _ hl) (rs.mono e4)
    have r2 : Rp K (Wd.m (Wd.pure fun _ => False) (upd H2 p (.lst []))) (.ref p) (.list []) := .lst ((hid_at (fun z => z)).trans upd_same) .nil
    refine r2_neNil (W := Wd.pure fun _ => False) h1 h2 0 _ _ _ (fun _ h => h.elim) r1 r2 _ fun v H3 _ e4 rv => ⟨_, rp_bool rv, ?_⟩
    exact q H3 (e2.trans (e3.trans e4))⟩
theorem len_wt : ∀ ds : List PyData, ds.length ≤ wtAll ds
  | [] => Nat.zero_le _
  | d :: ds => by
    have := wt_pos d
    have := len_wt ds
    rw [wtAll, List.length_cons]
    omega
theorem s_asgX {te : TE} {g : TG} {tz : TS} {D : Ends} {σ : L2.St} {H : Hp} (h : te σ H fun v H1 => g v σ H1 fun σ2 H2 => tz D σ2 H2) : tSeq (tAsg te g) tz D σ H := h
abbrev names__law_same : List Str := ["found", "due", "unseen_here", "one", "other", "key", "alike", "left", "right"]
theorem sc__law_same : FnScope names__law_same ["found", "due"] (defScope s__law_same) := ⟨rfl, rfl, rfl, by decide +kernel, rfl, by decide +kernel, by decide +kernel⟩
theorem ok__law_same {f : Addr} {fd : FuncData} (F : Fun K "_law_same" "_law_same" s__law_same f fd) (T : Top K mg) (c__law_is_truth : Cal P w K mg base 1 "_law_is_truth" (spTr K) []) : FnOk P w K mg base CX0 2 f fd ["found", "due"] (spSame K) := by
  refine F.ok sc__law_same (fun vs H Q E h => ?_) fun cdv A outer s H vs Q E hr h => by
    have hu := hu_room hr
    refine ⟨_, (pss_cons (ps_set (i := 2) sc__law_same.nd rfl (by first | exact .inl rfl | exact .inr rfl) (pe_lst (pa_cons (pe_tup (pa_cons (pv 0) (pa_cons (pv 1) pa_nil))) pa_nil)))
  (pss_cons (ps_while PassesOwn.never (pt_cmpR (op_neU hu) (pv 2) (pe_lst pa_nil) rfl) (pss_cons (ps_asg (pe_bm0 PySem.F.plainAttrs_list PySem.F.slot_list_pop PySem.F.type_list_pop mt_pop (pv 2)) (pg_tup rfl (pgs_cons (pg_name (i := 3) sc__law_same.nd rfl (by first | exact .inl rfl | exact .inr rfl)) (pgs_cons (pg_name (i := 4) sc__law_same.nd rfl (by first | exact .inl rfl | exact .inr rfl)) pgs_nil))))
    (pss_one (ps_if (PW.pt (pw_or (pt_cmpR op_isN (pv 4) pe_non rfl) (pw_or1 (pt_val (pe_callB call_isi (by rfl) T.isinstance b_isinstance (pa_cons (pv 4) (pa_cons (pe_ty (by rfl) T.bool boot_bool) pa_nil))))))) (pss_one (ps_if (pt_ifExp (pt_cmpR op_isN (pv 4) pe_non rfl) (pt_cmpR op_notN (pv 3) pe_non rfl) (pt_not (pt_val (pe_c c__law_is_truth hr (by decide) (by rfl) (pa_cons (pv 3) (pa_cons (pv 4) pa_nil)))))) (pss_one (ps_ret pe_bl)) pss_nil)) (pss_one (ps_if (pt_val (pe_callB call_isiT (by rfl) T.isinstance b_isinstance (pa_cons (pv 4) (pa_cons (pe_tup (pa_cons (pe_ty (by rfl) T.int boot_int) (pa_cons (pe_ty (by rfl) T.str boot_str) pa_nil))) pa_nil)))) (pss_one (ps_if (PW.pt (pw_or (pt_val (pe_callB call_isi (by rfl) T.isinstance b_isinstance (pa_cons (pv 3) (pa_cons (pe_ty (by rfl) T.bool boot_bool) pa_nil)))) (pw_or (pt_cmpR (op_neU hu) (pe_callB call_isi (by rfl) T.isinstance b_isinstance (pa_cons (pv 3) (pa_cons (pe_ty (by rfl) T.int boot_int) pa_nil))) (pe_callB call_isi (by rfl) T.isinstance b_isinstance (pa_cons (pv 4) (pa_cons (pe_ty (by rfl) T.int boot_int) pa_nil))) rfl) (pw_or1 (pt_cmpR (op_neU hu) (pv 3) (pv 4) rfl))))) (pss_one (ps_ret pe_bl)) pss_nil)) (pss_one (ps_if (pt_val (pe_callB call_isi (by rfl) T.isinstance b_isinstance (pa_cons (pv 4) (pa_cons (pe_ty (by rfl) T.dict boot_dict) pa_nil)))) (pss_cons (ps_if (PW.pt (pw_or (pt_not (pt_val (pe_callB call_isi (by rfl) T.isinstance b_isinstance (pa_cons (pv 3) (pa_cons (pe_ty (by rfl) T.dict boot_dict) pa_nil))))) (pw_or1 (pt_cmpR (op_neU hu) (pe_callTy call_list_of (by rfl) T.list boot_list (pa_cons (pv 3) pa_nil)) (pe_callTy call_list_of (by rfl) T.list boot_list (pa_cons (pv 4) pa_nil)) rfl)))) (pss_one (ps_ret pe_bl)) pss_nil)
          (pss_cons (ps_expr (pe_bm PySem.F.plainAttrs_list PySem.F.slot_list_extend PySem.F.type_list_extend mt_extend (pv 2) (pa_cons (pe_callTy call_list_of (by rfl) T.list boot_list (pa_cons pe_no pa_nil)) pa_nil)))
          (pss_one (ps_expr (pe_bm PySem.F.plainAttrs_list PySem.F.slot_list_extend PySem.F.type_list_extend mt_extend (pv 2) (pa_cons (pe_lc (own := [("key", 5)]) (g := gName 5) (tt := tYes) rfl sc__law_same.nd (pi_keys (pv 4)) (blkOk_by (N := names__law_same) (sc := defScope s__law_same) (by decide +kernel)) (fun _ _ _ _ _ => (pg_name (i := 5) sc__law_same.nd rfl (by first | exact .inl rfl | exact .inr rfl))) (fun _ _ _ _ _ => pts_nil) (fun _ _ _ _ _ => (pe_tup (pa_cons (pe_ix (ixK (K := K) rfl) (pv 3) (pv 5) (fun _ _ => rfl)) (pa_cons (pe_ix (ixK (K := K) rfl) (pv 4) (pv 5) (fun _ _ => rfl)) pa_nil))))) pa_nil)))))) (pss_cons (ps_set (i := 6) sc__law_same.nd rfl (by first | exact .inl rfl | exact .inr rfl) (pe_lst (pa_cons (pe_and (pe_callB call_isi (by rfl) T.isinstance b_isinstance (pa_cons (pv 3) (pa_cons (pe_ty (by rfl) T.tuple boot_tuple) pa_nil))) (pe_one (pe_callB call_isi (by rfl) T.isinstance b_isinstance (pa_cons (pv 4) (pa_cons (pe_ty (by rfl) T.tuple boot_tuple) pa_nil))))) (pa_cons (pe_and (pe_callB call_isi (by rfl) T.isinstance b_isinstance (pa_cons (pv 3) (pa_cons (pe_ty (by rfl) T.list boot_list) pa_nil))) (pe_one (pe_callB call_isi (by rfl) T.isinstance b_isinstance (pa_cons (pv 4) (pa_cons (pe_ty (by rfl) T.list boot_list) pa_nil))))) pa_nil))))
          (pss_cons (ps_if (PW.pt (pw_or (pt_cmpR op_notIn_seq pe_bl (pv 6) rfl) (pw_or1 (pt_cmpR (op_neU hu) (pe_callB call_len (by rfl) T.len boot_len (pa_cons (pv 3) pa_nil)) (pe_callB call_len (by rfl) T.len boot_len (pa_cons (pv 4) pa_nil)) rfl)))) (pss_one (ps_ret pe_bl)) pss_nil)
          (pss_one (ps_expr (pe_bm PySem.F.plainAttrs_list PySem.F.slot_list_extend PySem.F.type_list_extend mt_extend (pv 2) (pa_cons (pe_lc (own := [("left", 7), ("right", 8)]) (g := gTup K 2 (gCons (gName 7) (gCons (gName 8) gNil))) (tt := tYes) rfl sc__law_same.nd (RZ.pi_zipA (by rfl) T.zip (pa_cons (pv 3) (pa_cons (pv 4) pa_nil))) (blkOk_by (N := names__law_same) (sc := defScope s__law_same) (by decide +kernel)) (fun _ _ _ _ _ => (pg_tup rfl (pgs_cons (pg_name (i := 7) sc__law_same.nd rfl (by first | exact .inl rfl | exact .inr rfl)) (pgs_cons (pg_name (i := 8) sc__law_same.nd rfl (by first | exact .inl rfl | exact .inr rfl)) pgs_nil)))) (fun _ _ _ _ _ => pts_nil) (fun _ _ _ _ _ => (pe_tup (pa_cons (pv 7) (pa_cons (pv 8) pa_nil))))) pa_nil))))))))))))))
  (pss_one (ps_ret pe_bl)))), ?_⟩
    obtain ⟨B, ds, al, rs, ⟨d, rfl, hg, hw⟩, k⟩ := h
    have S0 : Slots K ((Wd.pure B).m H) (L2.start names__law_same vs) ([d, d].map some ++ List.replicate 7 none) := slots_start (N := names__law_same) rs (by show 2 ≤ 9; decide)
    refine s_asgX ((da_cons (dv_tup (da_cons (ds_var (i := 0) S0 rfl) (da_cons (ds_var (i := 1) S0 rfl) da_nil)) (by show 2 ≤ 100000; decide)) da_nil : EaD (Wd.pure B) K _ _ H [dup d]) 0 H al (Ex.refl _) _ fun ws H1 i1 r1 rws => ⟨by rw [rws.len]; exact sz_of (by show 1 ≤ 100000; decide), fun u hu1 => ?_⟩)
    have r1 : Ex H H1 := r1
    have huH : H u = none := fresh_back r1 hu1
    have nu : ¬ (Wd.pure B).A u := Wd.fresh (W := Wd.pure B) (b := 0) i1 hu1
    refine q_while (fun m σ' H' => ∃ ds us x3 x4 x5 x6 x7 x8, m = wtAll ds ∧ (∀ d ∈ ds, good d) ∧ wtAll ds ≤ 10000 ∧ (∃ x0 x1, σ' = [x0, x1, some (.ref u), x3, x4, x5, x6, x7, x8]) ∧ ((Wd.pure B).hide u).I 0 H' ∧ (Wd.pure B).R H H' ∧ H' u = some (.lst us) ∧ Rps K (((Wd.pure B).hide u).m H') us (ds.map dup)) (wt d) ?_ ?_
    · refine ⟨[d], ws, none, none, none, none, none, none, by rw [wtAll, wtAll]; rfl, by simpa using hg, by rw [wtAll, wtAll]; exact hw, ?_, Wd.hideI (W := Wd.pure B) (b := 0) i1 hu1, ?_, upd_same, rws.mono (Wd.hide_ex (W := Wd.pure B) hu1)⟩
      · match vs, rs with
        | _, .cons _ (.cons _ .nil) => exact ⟨_, _, rfl⟩
      · exact r1.trans (Ex.new hu1)
    · rintro m σ' H2 ⟨ds, us, x3, x4, x5, x6, x7, x8, rfl, hds, hwt, ⟨x0, x1, rfl⟩, i2, r2, hu2, rus⟩
      have hok := dups_ok hds
      refine ⟨!decide (ds.map dup = []), ne_nilD (K := K) hok.1 (by simp [SeqAt.shaped, PyData.canLay0, PyData.depth, hok.2.1]; omega) (ev_var rfl) hu2 (rus.mono hid_ex), fun hb H3 e3 => ?_, fun hb H3 e3 => ?_⟩
      · have hne : ds ≠ [] := by simpa using hb
        obtain ⟨es, d, rfl⟩ : ∃ es d, ds = es ++ [d] := ⟨ds.dropLast, ds.getLast hne, (List.dropLast_concat_getLast hne).symm⟩
        rw [List.map_append] at rus
        obtain ⟨us', y, rfl, rus', ry⟩ := rps_concat rus
        obtain ⟨r3, i3⟩ := ((Wd.pure B).hide u).new i2 e3
        have hu3 := e3 _ _ hu2
        have em : ((Wd.pure B).hide u).m (upd H3 u (.lst us')) = ((Wd.pure B).hide u).m H3 := Wd.hide_m
        have u23 := ((Wd.pure B).hide u).up i2 r3
        have hgd : good d := hds d (by simp)
        have hes : ∀ x ∈ es, good x := fun x hx => hds x (by simp [hx])
        have hwe : wtAll (es ++ [d]) = wtAll es + wt d := by rw [wtAll_app, wtAll, wtAll]; rfl
        have hpos := wt_pos d
        refine ⟨fun σ H' => ∃ ds us x3 x4 x5 x6 x7 x8, wtAll ds < wtAll (es ++ [d]) ∧ (∀ d ∈ ds, good d) ∧ wtAll ds ≤ 10000 ∧ (∃ x0 x1, σ = [x0, x1, some (.ref u), x3, x4, x5, x6, x7, x8]) ∧ ((Wd.pure B).hide u).I 0 H' ∧ (Wd.pure B).R H H' ∧ H' u = some (.lst us) ∧ Rps K (((Wd.pure B).hide u).m H') us (ds.map dup), fun σ H' ⟨ds', us', x3, x4, x5, x6, x7, x8, q1, q2⟩ => ⟨_, q1, ds', us', x3, x4, x5, x6, x7, x8, rfl, q2⟩, ?_⟩
        have ry4 : Rp K (((Wd.pure B).hide u).m (upd H3 u (.lst us'))) y (.tuple [d, d]) := by rw [em]; exact ry.mono u23
        have rus4 : Rps K (((Wd.pure B).hide u).m (upd H3 u (.lst us'))) us' (es.map dup) := by rw [em]; exact rus'.mono u23
        obtain ⟨ad, ps, rfl, hps, rps⟩ := rp_tup ry4
        cases rps with
        | cons ra t => cases t with
          | cons rb t2 =>
            cases t2
            rename_i va vb
            refine s_asgX ⟨.ref u, rfl, .inl ⟨rfl, _, sq_of hu3⟩, u, _, .ref ad, rfl, rfl, hu3, by simp, ?_⟩
            rw [List.dropLast_concat]
            refine ⟨ad, _, rfl, ex_t hid_ex hps, rfl, ⟨_, _, rfl, _, _, rfl, rfl, ?_⟩⟩
            have i4 : ((Wd.pure B).hide u).I 0 (upd H3 u (.lst us')) := Wd.hide_mut (W := Wd.pure B) (b := 0) i3 nu
            have r4 : (Wd.pure B).R H (upd H3 u (.lst us')) := (Wd.pure B).mtt (b := 0) al huH (Ex.trans r2 e3)
            generalize hH4 : upd H3 u (.lst us') = H4 at *
            have hu4 : H4 u = some (.lst us') := by rw [← hH4]; exact upd_same
            have S4 : Slots K (((Wd.pure B).hide u).m H4) [x0, x1, some (.ref u), some va, some vb, x5, x6, x7, x8] [none, none, none, some d, some d, none, none, none, none] := ⟨rfl, fun i z h => by
              match i with
              | 0 => cases h
              | 1 => cases h
              | 2 => cases h
              | 3 => cases h; exact ⟨va, rfl, ra⟩
              | 4 => cases h; exact ⟨vb, rfl, rb⟩
              | 5 => cases h
              | 6 => cases h
              | 7 => cases h
              | 8 => cases h
              | i + 9 => cases h⟩
            have fin : ∀ H5, ((Wd.pure B).hide u).I 0 H5 → ((Wd.pure B).hide u).R H4 H5 → ∃ ds us y3 y4 y5 y6 y7 y8, wtAll ds < wtAll (es ++ [d]) ∧ (∀ d ∈ ds, good d) ∧ wtAll ds ≤ 10000 ∧ (∃ z0 z1, [x0, x1, some (.ref u), some va, some vb, x5, x6, x7, x8] = [z0, z1, some (.ref u), y3, y4, y5, y6, y7, y8]) ∧ ((Wd.pure B).hide u).I 0 H5 ∧ (Wd.pure B).R H H5 ∧ H5 u = some (.lst us) ∧ Rps K (((Wd.pure B).hide u).m H5) us (ds.map dup) := fun H5 i5 r5 =>
              ⟨es, us', _, _, _, _, _, _, by omega, hes, by omega, ⟨_, _, rfl⟩, i5, Ex.trans r4 r5.1, r5.2.trans hu4, rus4.mono (((Wd.pure B).hide u).up i4 r5)⟩
            cases d with
            | dict kvs => exact absurd hgd.1 (by simp [flat])
            | none =>
              refine qs_last S4 i4 (EtD.is (dt_or (k' := true) (dt_test (by walk_at "dvs")) fun h => by cases h) rfl (k' := true)) (fun _ H5 i5 r5 S5 => ?_) fun h => by cases h
              refine qs_last S5 i5 (dt_ifT (b := true) (k := false) (dt_test (by walk_at "dvs")) (fun _ => dt_test (by walk_at "dvs")) fun h => by cases h) (fun h => by cases h) fun _ H6 i6 r6 S6 => ?_
              exact fin H6 i6 (((Wd.pure B).hide u).trans r5 r6)
            | bool z =>
              refine qs_last S4 i4 (EtD.is (dt_or (k' := isA "bool" (PyData.bool z)) (dt_test (by walk_at "dvs")) fun _ => dt_B (by walk_at "dvs")) rfl (k' := true)) (fun _ H5 i5 r5 S5 => ?_) fun h => by cases h
              refine qs_last S5 i5 (dt_ifT (b := false) (k := false) (dt_test (by walk_at "dvs")) (fun h => by cases h) fun _ => EtD.is (dt_not (dt_B (dv_call (da_cons (ds_var (i := 3) S5 rfl) (da_cons (ds_var (i := 4) S5 rfl) da_nil)) (ra_sp ⟨z, z, rfl⟩)))) (by cases z <;> rfl)) (fun h => by cases h) fun _ H6 i6 r6 S6 => ?_
              exact fin H6 i6 (((Wd.pure B).hide u).trans r5 r6)
            | int z =>
              refine qs_last S4 i4 (EtD.is (dt_or (k' := isA "bool" (PyData.int z)) (dt_test (by walk_at "dvs")) fun _ => dt_B (by walk_at "dvs")) rfl (k' := false)) (fun h => by cases h) fun _ H5 i5 r5 S5 => ?_
              refine qs_last S5 i5 (EtD.is (dt_B (dv_isaIS (ds_var (i := 4) S5 rfl))) rfl (k' := true)) (fun _ H6 i6 r6 S6 => ?_) fun h => by cases h
              refine qs_last S6 i6 (EtD.is (dt_or (k' := false) (dt_B (by walk_at "dvs")) fun _ => EtD.is (dt_or (k' := false) (dt_test (by walk_at "dvs")) fun _ => EtD.is (dt_test (by walk_at "dvs")) (by simp)) rfl) rfl (k' := false)) (fun h => by cases h) fun _ H7 i7 r7 S7 => ?_
              exact fin H7 i7 (((Wd.pure B).hide u).trans r5 (((Wd.pure B).hide u).trans r6 r7))
            | str z =>
              refine qs_last S4 i4 (EtD.is (dt_or (k' := isA "bool" (PyData.str z)) (dt_test (by walk_at "dvs")) fun _ => dt_B (by walk_at "dvs")) rfl (k' := false)) (fun h => by cases h) fun _ H5 i5 r5 S5 => ?_
              refine qs_last S5 i5 (EtD.is (dt_B (dv_isaIS (ds_var (i := 4) S5 rfl))) rfl (k' := true)) (fun _ H6 i6 r6 S6 => ?_) fun h => by cases h
              refine qs_last S6 i6 (EtD.is (dt_or (k' := false) (dt_B (by walk_at "dvs")) fun _ => EtD.is (dt_or (k' := false) (dt_test (by walk_at "dvs")) fun _ => EtD.is (dt_test (by walk_at "dvs")) (by simp)) rfl) rfl (k' := false)) (fun h => by cases h) fun _ H7 i7 r7 S7 => ?_
              exact fin H7 i7 (((Wd.pure B).hide u).trans r5 (((Wd.pure B).hide u).trans r6 r7))
            | tuple zs =>
              have hgz := good_tup hgd
              have hwz : wt (.tuple zs) = 1 + wtAll zs := by rw [wt]
              have hlz := len_wt zs
              have hle := len_wt es
              refine qs_last S4 i4 (EtD.is (dt_or (k' := isA "bool" (PyData.tuple zs)) (dt_test (by walk_at "dvs")) fun _ => dt_B (by walk_at "dvs")) rfl (k' := false)) (fun h => by cases h) fun _ H5 i5 r5 S5 => ?_
              refine qs_last S5 i5 (EtD.is (dt_B (dv_isaIS (ds_var (i := 4) S5 rfl))) rfl (k' := false)) (fun h => by cases h) fun _ H6 i6 r6 S6 => ?_
              refine qs_last S6 i6 (EtD.is (dt_B (k := isA "dict" (PyData.tuple zs)) (by walk_at "dvs")) rfl (k' := false)) (fun h => by cases h) fun _ H7 i7 r7 S7 => ?_
              refine s_asgR ((dv_lst (W := (Wd.pure B).hide u) (K := K) (ds := [PyData.bool true, PyData.bool false]) (da_cons (EvD.is (dv_andV (k' := isA "tuple" (PyData.tuple zs)) (by walk_at "dvs") fun _ => by walk_at "dvs") rfl) (da_cons (EvD.is (dv_andV (k' := isA "list" (PyData.tuple zs)) (by walk_at "dvs") fun _ => by walk_at "dvs") rfl) da_nil)) (by decide)) 0 H7 i7 (Ex.refl _) _ fun v8 H8 i8 r8 rv8 => ?_)
              have S8 := (S7.step i7 r8).set (j := 6) rv8
              refine qs_when (W := (Wd.pure B).hide u) (b := 0) S8 i8 (EtD.is (dt_or (k' := false) (dt_test (dv_op dv_bl (ds_var (i := 6) S8 rfl) (r2_inB (bs := [true, false])))) fun _ => EtD.is (dt_test (by walk_at "dvs")) (by simp)) rfl (k' := false)) (fun h => by cases h) fun _ H9 i9 r9 S9 => ?_
              have r49 : ((Wd.pure B).hide u).R H4 H9 := (((Wd.pure B).hide u).trans r5 (((Wd.pure B).hide u).trans r6 (((Wd.pure B).hide u).trans r7 (((Wd.pure B).hide u).trans r8 r9))))
              refine ⟨.ref u, rfl, .inl ⟨rfl, us', sq_of (r49.2.trans hu4)⟩, ?_⟩
              refine (da_cons (EvD.is (ds_zip S9 (j1 := 7) (j2 := 8) (fun x y => .tuple [x, y]) (ei_zipT (da_cons (ds_var (i := 3) S9 rfl) (da_cons (ds_var (i := 4) S9 rfl) da_nil))) (by omega) fun W' d1 d2 σ2 H' _ S' => dv_tup (da_cons (ds_var (i := 7) S' rfl) (da_cons (ds_var (i := 8) S' rfl) da_nil)) (by show 2 ≤ 100000; decide)) (congrArg PyData.list (zip_self zs))) da_nil : EaD ((Wd.pure B).hide u) K _ _ H9 [.list (zs.map dup)]) 0 H9 i9 (Ex.refl _) _ fun ws H10 i10 r10 rws => ?_
              cases rws with
              | cons rw0 t =>
                cases t
                obtain ⟨q, vz, rfl, hq, rvz⟩ := rp_lst rw0
                have r410 := ((Wd.pure B).hide u).trans r49 r10
                have u410 := ((Wd.pure B).hide u).up i4 r410
                refine ⟨u, q, us', vz, rfl, rfl, r410.2.trans hu4, hid_ex _ _ hq, ?_, ?_⟩
                · rw [rus4.len, rvz.len, List.length_map, List.length_map]
                  exact sz_of (by omega)
                · have em2 : ((Wd.pure B).hide u).m (upd H10 u (.lst (us' ++ vz))) = ((Wd.pure B).hide u).m H10 := Wd.hide_m
                  refine ⟨es ++ zs, us' ++ vz, _, _, _, _, _, _, by rw [wtAll_app, hwe]; omega, fun x hx => (List.mem_append.mp hx).elim (hes x) (hgz x), by rw [wtAll_app]; omega, ⟨_, _, rfl⟩, Wd.hide_mut (W := Wd.pure B) (b := 0) i10 nu, (Wd.pure B).mtt (b := 0) al huH (Ex.trans r4 r410.1), upd_same, ?_⟩
                  rw [em2, List.map_append]
                  exact (rus4.mono u410).app rvz
            | list zs =>
              have hgz := good_lst hgd
              have hwz : wt (.list zs) = 1 + wtAll zs := by rw [wt]
              have hlz := len_wt zs
              have hle := len_wt es
              refine qs_last S4 i4 (EtD.is (dt_or (k' := isA "bool" (PyData.list zs)) (dt_test (by walk_at "dvs")) fun _ => dt_B (by walk_at "dvs")) rfl (k' := false)) (fun h => by cases h) fun _ H5 i5 r5 S5 => ?_
              refine qs_last S5 i5 (EtD.is (dt_B (dv_isaIS (ds_var (i := 4) S5 rfl))) rfl (k' := false)) (fun h => by cases h) fun _ H6 i6 r6 S6 => ?_
              refine qs_last S6 i6 (EtD.is (dt_B (k := isA "dict" (PyData.list zs)) (by walk_at "dvs")) rfl (k' := false)) (fun h => by cases h) fun _ H7 i7 r7 S7 => ?_
              refine s_asgR ((dv_lst (W := (Wd.pure B).hide u) (K := K) (ds := [PyData.bool false, PyData.bool true]) (da_cons (EvD.is (dv_andV (k' := isA "tuple" (PyData.list zs)) (by walk_at "dvs") fun _ => by walk_at "dvs") rfl) (da_cons (EvD.is (dv_andV (k' := isA "list" (PyData.list zs)) (by walk_at "dvs") fun _ => by walk_at "dvs") rfl) da_nil)) (by decide)) 0 H7 i7 (Ex.refl _) _ fun v8 H8 i8 r8 rv8 => ?_)
              have S8 := (S7.step i7 r8).set (j := 6) rv8
              refine qs_when (W := (Wd.pure B).hide u) (b := 0) S8 i8 (EtD.is (dt_or (k' := false) (dt_test (dv_op dv_bl (ds_var (i := 6) S8 rfl) (r2_inB (bs := [false, true])))) fun _ => EtD.is (dt_test (by walk_at "dvs")) (by simp)) rfl (k' := false)) (fun h => by cases h) fun _ H9 i9 r9 S9 => ?_
              have r49 : ((Wd.pure B).hide u).R H4 H9 := (((Wd.pure B).hide u).trans r5 (((Wd.pure B).hide u).trans r6 (((Wd.pure B).hide u).trans r7 (((Wd.pure B).hide u).trans r8 r9))))
              refine ⟨.ref u, rfl, .inl ⟨rfl, us', sq_of (r49.2.trans hu4)⟩, ?_⟩
              refine (da_cons (EvD.is (ds_zip S9 (j1 := 7) (j2 := 8) (fun x y => .tuple [x, y]) (ei_zipL (da_cons (ds_var (i := 3) S9 rfl) (da_cons (ds_var (i := 4) S9 rfl) da_nil))) (by omega) fun W' d1 d2 σ2 H' _ S' => dv_tup (da_cons (ds_var (i := 7) S' rfl) (da_cons (ds_var (i := 8) S' rfl) da_nil)) (by show 2 ≤ 100000; decide)) (congrArg PyData.list (zip_self zs))) da_nil : EaD ((Wd.pure B).hide u) K _ _ H9 [.list (zs.map dup)]) 0 H9 i9 (Ex.refl _) _ fun ws H10 i10 r10 rws => ?_
              cases rws with
              | cons rw0 t =>
                cases t
                obtain ⟨q, vz, rfl, hq, rvz⟩ := rp_lst rw0
                have r410 := ((Wd.pure B).hide u).trans r49 r10
                have u410 := ((Wd.pure B).hide u).up i4 r410
                refine ⟨u, q, us', vz, rfl, rfl, r410.2.trans hu4, hid_ex _ _ hq, ?_, ?_⟩
                · rw [rus4.len, rvz.len, List.length_map, List.length_map]
                  exact sz_of (by omega)
                · have em2 : ((Wd.pure B).hide u).m (upd H10 u (.lst (us' ++ vz))) = ((Wd.pure B).hide u).m H10 := Wd.hide_m
                  refine ⟨es ++ zs, us' ++ vz, _, _, _, _, _, _, by rw [wtAll_app, hwe]; omega, fun x hx => (List.mem_append.mp hx).elim (hes x) (hgz x), by rw [wtAll_app]; omega, ⟨_, _, rfl⟩, Wd.hide_mut (W := Wd.pure B) (b := 0) i10 nu, (Wd.pure B).mtt (b := 0) al huH (Ex.trans r4 r410.1), upd_same, ?_⟩
                  rw [em2, List.map_append]
                  exact (rus4.mono u410).app rvz
      · have hnil : ds = [] := by simpa using hb
        have r3 : (Wd.pure B).R H H3 := Ex.trans r2 e3
        refine s_ret (v := .bl true) (fun H4 e4 Q q => q H4 (Ex.refl _)) fun H4 e4 => ?_
        exact k _ H4 (Ex.trans r3 e4) (.bl _)
  · obtain ⟨B, ds, _, r, ⟨d, rfl, _, _⟩, _⟩ := h
    rw [r.len]
    rfl
end
end Qt
set_option maxRecDepth 100000
set_option maxHeartbeats 4000000
/-! The state of the draws begins. -/
namespace Qt
open PySem PySem.Spec PyProof.Rows L2 Evl Qd Qe Qs Qn Qw
open C8 (Cal pe_c)
abbrev absI (i : Int) : Int := if i < 0 then -i else i
abbrev P18 : Int := (10 : Int) ^ ((18 : Int).toNat)
def isGr (zs : List Int) (i : Nat) : Bool := decide (P18 ≤ absI (zs.getD i 0))
def grs (zs : List Int) : List Int := ((List.range zs.length).filter (isGr zs)).map fun i => absI (zs.getD i 0) - P18
def cls (zs : List Int) : List Int := ((List.range zs.length).filter fun _ => true).map fun i => absI (zs.getD i 0)
theorem grs_given (zs : List Int) : given zs.length (isGr zs) (fun i => .int (absI (zs.getD i 0) - P18)) = (grs zs).map V.int := by
  unfold given grs
  rw [List.map_map]; rfl
theorem cls_given (zs : List Int) : given zs.length (fun _ => true) (fun i => .int (absI (zs.getD i 0))) = (cls zs).map V.int := by
  unfold given cls
  rw [List.map_map]; rfl
theorem grs_len (zs : List Int) : (grs zs).length ≤ zs.length := by
  have := given_len zs.length (isGr zs) (fun i => .int (absI (zs.getD i 0) - P18))
  rw [grs_given, List.length_map] at this
  exact this
theorem cls_len (zs : List Int) : (cls zs).length ≤ zs.length := by
  have := given_len zs.length (fun _ => true) (fun i => .int (absI (zs.getD i 0)))
  rw [cls_given, List.length_map] at this
  exact this
theorem grs_pos (zs : List Int) : ∀ g ∈ grs zs, 0 ≤ g := by
  intro g hg
  obtain ⟨i, hi, rfl⟩ := List.mem_map.mp hg
  have := (List.mem_filter.mp hi).2
  unfold isGr at this
  have := of_decide_eq_true this
  omega
theorem get_int {zs : List Int} {i : Nat} {x : V} (h : (zs.map V.int)[i]? = some x) : x = .int (zs.getD i 0) := by
  rw [List.getElem?_map] at h
  cases q : zs[i]? with
  | none => rw [q] at h; cases h
  | some z =>
    rw [q] at h
    cases h
    rw [List.getD_eq_getElem?_getD, q]; rfl
/-- handed the script: the dict of draws, made anew -/
def spBg (K : PySem.W.Frag) : Sp := fun vs H Q _ => ∃ (l : Addr) (zs : List Int), vs = [.ref l] ∧ SqL K H l (zs.map V.int) ∧ zs.length < 64 ∧ ∀ (a : At) (S : Dst) H', S.turn = 0 → Ex H H' → (∀ x, hides a x → H x = none) → DAt a S H' → Q (.ref a.s) H'
section
variable {P : Program} {w : World} {K : PySem.W.Frag} {mg : Str → Option Value} {base : Heap} {σ : L2.St} {H : Hp}
theorem tC_app {v : V} {Q : VK} : tC v σ H Q = Q v H := rfl
theorem ev_abs {te : TE} {i : Int} (h : Ev te σ H (.int i)) : Ev (tCB (fun xs H Q => ∃ i, xs = [.int i] ∧ Q (.int (if i < 0 then -i else i)) H) (tCons te tNil)) σ H (.int (absI i)) := fun H1 e Q q =>
  h H1 e _ fun H2 e2 => ⟨i, rfl, q H2 e2⟩
theorem ev_18 : Ev (tOp (rI CPow fun i j => .int (i ^ j.toNat)) (tC (.int 10)) (tC (.int 18))) σ H (.int P18) := ev_op ev_c ev_c (rv_I (by unfold CPow; decide))
abbrev names__law_begun : List Str := ["script", "great", "cell"]
theorem sc__law_begun : FnScope names__law_begun ["script"] (defScope s__law_begun) := ⟨rfl, rfl, rfl, by decide +kernel, rfl, by decide +kernel, by decide +kernel⟩
theorem ok__law_begun {f : Addr} {fd : FuncData} (F : Fun K "_law_begun" "_law_begun" s__law_begun f fd) (T : Top K mg) : FnOk P w K mg base CX0 1 f fd ["script"] (spBg K) := by
  refine F.ok sc__law_begun (fun vs H Q E h => ?_) fun cdv A outer s H vs Q E hr h => by
    have hu := hu_room hr
    refine ⟨_, (pss_cons (ps_setLc (i := 1) (own := [("cell", 2)]) (g := gName 2) rfl sc__law_begun.nd rfl rfl (sw_true rfl rfl rfl (by decide +kernel)) (pi_list (pv 0)) (blkOk_by (N := names__law_begun) (sc := defScope s__law_begun) (by decide +kernel)) (fun _ _ _ _ _ => (pg_name (i := 2) sc__law_begun.nd rfl (by first | exact .inl rfl | exact .inr rfl))) (fun _ _ _ _ _ => pts_one (pt_cmpR op_ge (pe_callB call_abs (by rfl) T.abs b_abs (pa_cons (pv 2) pa_nil)) (pe_op op_pow pe_int pe_int) rfl)) (fun _ _ _ _ _ => (pe_op op_sub (pe_callB call_abs (by rfl) T.abs b_abs (pa_cons (pv 2) pa_nil)) (pe_op op_pow pe_int pe_int))))
  (pss_one (ps_ret (pe_disp (pps_cons pe_str (pv 1) (pps_cons pe_str (pe_lc (own := [("cell", 2)]) (g := gName 2) (tt := tYes) rfl sc__law_begun.nd (pi_list (pv 0)) (blkOk_by (N := names__law_begun) (sc := defScope s__law_begun) (by decide +kernel)) (fun _ _ _ _ _ => (pg_name (i := 2) sc__law_begun.nd rfl (by first | exact .inl rfl | exact .inr rfl))) (fun _ _ _ _ _ => pts_nil) (fun _ _ _ _ _ => (pe_callB call_abs (by rfl) T.abs b_abs (pa_cons (pv 2) pa_nil)))) (pps_cons pe_str pe_int (pps_cons pe_str pe_int pps_nil)))) rfl rfl (by simp) (by decide))))), ?_⟩
    obtain ⟨l, zs, rfl, hl, hn, k⟩ := h
    have hz : (zs.map V.int).length ≤ 40000 := by rw [List.length_map]; omega
    have g1 := el_lcL (K := K) (σ := L2.start names__law_begun [.ref l]) (H := H) (j := 2) (vs := [2]) (tl := tVar 0) (isGr zs) (fun i => .int (absI (zs.getD i 0) - P18)) (ev_var rfl) hl hz (fun x => rfl)
      (t := tTest (tOp (rI0 fun i j => .bl (decide (j ≤ i))) (tCB (fun xs H Q => ∃ i, xs = [.int i] ∧ Q (.int (if i < 0 then -i else i)) H) (tCons (tVar 2) tNil)) (tOp (rI CPow fun i j => .int (i ^ j.toNat)) (tC (.int 10)) (tC (.int 18)))))
      (te := tOp (rI0 fun i j => .int (i - j)) (tCB (fun xs H Q => ∃ i, xs = [.int i] ∧ Q (.int (if i < 0 then -i else i)) H) (tCons (tVar 2) tNil)) (tOp (rI CPow fun i j => .int (i ^ j.toNat)) (tC (.int 10)) (tC (.int 18))))
      (fun i x H1 e hi => fun H2 e2 Q q => ev_op (ev_abs (ev_var (by rw [get_int hi]; rfl))) ev_18 rv_I0 H2 e2 _ fun H3 e3 => ⟨_, rfl, q H3 e3⟩)
      (fun i x H1 e hi hf => ev_op (ev_abs (ev_var (by rw [get_int hi]; rfl))) ev_18 rv_I0)
    rw [List.length_map, grs_given] at g1
    refine s_asgR (g1 H (Ex.refl _) _ fun g H1 hg e1 hg1 => ?_)
    show tDisp _ _ _ _
    intro p hp
    have e2 : Ex H1 (upd H1 p (.dK [])) := Ex.new hp
    refine ⟨.ref g, rfl, ?_⟩
    have g2 := el_lcL (K := K) (σ := (L2.start names__law_begun [.ref l]).set 1 (some (.ref g))) (H := upd H1 p (.dK [])) (j := 2) (vs := [2]) (tl := tVar 0) (fun _ => true) (fun i => .int (absI (zs.getD i 0))) (ev_var rfl) (ex_l (e1.trans e2) hl) hz (fun x => rfl)
      (t := tYes) (te := tCB (fun xs H Q => ∃ i, xs = [.int i] ∧ Q (.int (if i < 0 then -i else i)) H) (tCons (tVar 2) tNil))
      (fun i x H1 e hi => fun H2 e2 Q q => q H2 (Ex.refl _))
      (fun i x H1 e hi hf => ev_abs (ev_var (by rw [get_int hi]; rfl)))
    rw [List.length_map, cls_given] at g2
    show tPairs _ _ _ _
    rw [tPairs, tC_app]
    refine g2 _ (Ex.refl _) _ fun c H3 hc e3 hc3 => ?_
    have hp3 : H3 p = some (.dK []) := e3 _ _ upd_same
    have npg : p ≠ g := fun z => by rw [z, hg1] at hp; cases hp
    have npc : p ≠ c := ne_of_none upd_same hc
    have ngc : g ≠ c := ne_of_none (e2 _ _ hg1) hc
    refine ⟨hp3, [(.inr "great", .ref g), (.inr "cells", .ref c), (.inr "rest", .int 0), (.inr "turn", .int 0)], rfl, by show 4 ≤ 15; decide, ?_⟩
    have hpH : H p = none := fresh_back e1 hp
    have hcH : H c = none := fresh_back (e1.trans e2) hc
    refine k ⟨p, g, c, cls zs⟩ ⟨grs zs, 0, 0⟩ _ rfl (Ex.mut ((e1.trans e2).trans e3) hpH) (fun x hx => by
      rcases hx with h | h | h
      · rw [h]; exact hpH
      · rw [h]; exact hg
      · rw [h]; exact hcH) ⟨⟨_, upd_same, rfl, rfl, rfl, rfl, by show 4 ≤ 100; decide⟩, ?_, ?_, npg, npc, ngc, ?_, ?_, ⟨grs_pos zs, Int.le_refl _, Int.le_refl _⟩⟩
    · rw [upd_ne npg.symm]; exact e3 _ _ (e2 _ _ hg1)
    · rw [upd_ne npc.symm]; exact hc3
    · exact Nat.lt_of_le_of_lt (cls_len zs) hn
    · exact Nat.le_trans (grs_len zs) (by omega)
  · obtain ⟨l, zs, rfl, _⟩ := h
    rfl
end
end Qt
set_option maxRecDepth 100000
set_option maxHeartbeats 4000000
/-! Calls by names of parameters alone. -/
namespace Qt
open PySem PySem.Spec PyProof.Rows L2 Evl Qd Qe Qs Qn Qw
open C8 (Cal pe_c)
def kg1 {α : Type} : List α → List α → List α
  | [], [a] => [a]
  | _, _ => []
def kg2 {α : Type} : List α → List α → List α
  | [], [a, b] => [b, a]
  | _, _ => []
def kg3 {α : Type} : List α → List α → List α
  | [], [a, b, c] => [c, b, a]
  | _, _ => []
section
variable {K : PySem.W.Frag}
theorem kg1_rel {vs : List V} {us : List Value} {zs : List V} {ws : List Value} (r : Vals vs us) (q : Vals zs ws) : Vals (kg1 vs zs) (kg1 us ws) := by
  cases r with
  | cons h t => cases q <;> exact .nil
  | nil => cases q with
    | nil => exact .nil
    | cons h t => cases t with
      | nil => exact .cons h .nil
      | cons h2 t2 => exact .nil
theorem kg2_rel {vs : List V} {us : List Value} {zs : List V} {ws : List Value} (r : Vals vs us) (q : Vals zs ws) : Vals (kg2 vs zs) (kg2 us ws) := by
  cases r with
  | cons h t => cases q <;> exact .nil
  | nil => cases q with
    | nil => exact .nil
    | cons h t => cases t with
      | nil => exact .nil
      | cons h2 t2 => cases t2 with
        | nil => exact .cons h2 (.cons h .nil)
        | cons h3 t3 => exact .nil
theorem kg3_rel {vs : List V} {us : List Value} {zs : List V} {ws : List Value} (r : Vals vs us) (q : Vals zs ws) : Vals (kg3 vs zs) (kg3 us ws) := by
  cases r with
  | cons h t => cases q <;> exact .nil
  | nil => cases q with
    | nil => exact .nil
    | cons h t => cases t with
      | nil => exact .nil
      | cons h2 t2 => cases t2 with
        | nil => exact .nil
        | cons h3 t3 => cases t3 with
          | nil => exact .cons h3 (.cons h2 (.cons h .nil))
          | cons h4 t4 => exact .nil
theorem kg1_to {α : Type} {us ws : List α} (h : (kg1 us ws).length = 1) : ∃ a, us = [] ∧ ws = [a] := by
  match us, ws, h with
  | [], [a], _ => exact ⟨a, rfl, rfl⟩
theorem kg2_to {α : Type} {us ws : List α} (h : (kg2 us ws).length = 2) : ∃ a b, us = [] ∧ ws = [a, b] := by
  match us, ws, h with
  | [], [a, b], _ => exact ⟨a, b, rfl, rfl⟩
theorem kg3_to {α : Type} {us ws : List α} (h : (kg3 us ws).length = 3) : ∃ a b c, us = [] ∧ ws = [a, b, c] := by
  match us, ws, h with
  | [], [a, b, c], _ => exact ⟨a, b, c, rfl, rfl⟩
theorem fun_kb1 {x qual a : Str} {st : Stmt} {f : Addr} {fd : FuncData} (F : Fun K x qual st f fd)
    (h : ∀ (kV doc pm : Value) (an : Option Addr) (cdv ct : Value) (u : Value), bindArgs (PySem.W.fnOf x qual (defArgs st) (defBody st) (defScope st) .none kV doc pm an cdv ct) ⟨[], [(a, u)]⟩ = pure [(a, u)]) : KBinds K fd [a] [a] kg1 kg1 := by
  obtain ⟨oc, od, kV, doc, pm, an, cdv, ct, osl, rfl, lk, hcd⟩ := F.ex
  refine ⟨fun s us ws _ hl => ?_, kg1_rel⟩
  obtain ⟨u, rfl, rfl⟩ := kg1_to hl
  exact .of_eq (h kV doc pm an cdv ct u)
theorem fun_kb2 {x qual a b : Str} {st : Stmt} {f : Addr} {fd : FuncData} (F : Fun K x qual st f fd)
    (h : ∀ (kV doc pm : Value) (an : Option Addr) (cdv ct : Value) (u v : Value), bindArgs (PySem.W.fnOf x qual (defArgs st) (defBody st) (defScope st) .none kV doc pm an cdv ct) ⟨[], [(b, u), (a, v)]⟩ = pure [(a, v), (b, u)]) : KBinds K fd [a, b] [b, a] kg2 kg2 := by
  obtain ⟨oc, od, kV, doc, pm, an, cdv, ct, osl, rfl, lk, hcd⟩ := F.ex
  refine ⟨fun s us ws _ hl => ?_, kg2_rel⟩
  obtain ⟨u, v, rfl, rfl⟩ := kg2_to hl
  exact .of_eq (h kV doc pm an cdv ct u v)
theorem fun_kb3 {x qual a b c : Str} {st : Stmt} {f : Addr} {fd : FuncData} (F : Fun K x qual st f fd)
    (h : ∀ (kV doc pm : Value) (an : Option Addr) (cdv ct : Value) (u v z : Value), bindArgs (PySem.W.fnOf x qual (defArgs st) (defBody st) (defScope st) .none kV doc pm an cdv ct) ⟨[], [(c, u), (b, v), (a, z)]⟩ = pure [(a, z), (b, v), (c, u)]) : KBinds K fd [a, b, c] [c, b, a] kg3 kg3 := by
  obtain ⟨oc, od, kV, doc, pm, an, cdv, ct, osl, rfl, lk, hcd⟩ := F.ex
  refine ⟨fun s us ws _ hl => ?_, kg3_rel⟩
  obtain ⟨u, v, z, rfl, rfl⟩ := kg3_to hl
  exact .of_eq (h kV doc pm an cdv ct u v z)
end
structure CalK (P : Program) (w : World) (K : PySem.W.Frag) (mg : Str → Option Value) (base : Heap) (CX : CXT) (k : Nat) (x : Str) (ks : List Str) (g : List Value → List Value → List Value) (gV : List V → List V → List V) (sp : Sp) : Prop where
  ex : ∃ (f : Addr) (fd : FuncData) (ps : List Str), FnOk P w K mg base CX k f fd ps sp ∧ mg x = some (.ref f) ∧ PySem.W.keepIn K (.ref f) = true ∧ KBinds K fd ps ks g gV
section
variable {X : Cx} {CX : CXT} {k j : Nat} {x : Str} {ks : List Str} {g : List Value → List Value → List Value} {gV : List V → List V → List V} {sp : Sp} {E : XK} {p pos : Pos} {kws : List Keyword} {tk : TA}
/-- f(k = b, ..) -/
theorem pe_ck (c : CalK X.prog X.w X.K X.mg X.base CX k x ks g gV sp) (hr : Room j X.A) (hk : k ≤ j) (hg : Gl X x) (hx : Passes CX X E)
    (hkw : PK X kws tk) (hall : (backToKw pos (keywordEach kws X.env)).all (·.1.isSome) = true := by rfl) (hks : (backToKw pos (keywordEach kws X.env)).filterMap (·.1) = ks := by rfl)
    (hdb : (x == ("__debug__" : Str)) = false := by decide)
    (hpl : ((backTo pos (starEach [] X.env)).any (·.1) || (backToKw pos (keywordEach kws X.env)).any (·.1.isNone)) = false := by rfl) :
    PE X (.Call (.Name x p) [] kws pos) (tCallK sp gV E tNil tk) := by
  obtain ⟨f, fd, ps, F, hm, kp, hb⟩ := c.ex
  refine ⟨fun pins s σ H Q I h => ?_⟩
  refine wpAny_Call_Name_kw (ld_glob I hg hm ?_ hdb)
  refine PySem.W.callWith_KW0 (h₀ := X.base) I.ok.mod.kin kp hall (thn (hkw.run pos pins s σ H _ I h) fun ws s2 ⟨zs, H2, I2, rz, q2⟩ => ⟨I2.kIn, ?_⟩) hpl
  rw [hks]
  exact run_fnk F (hr.mono hk) hb hx I2 .nil rz q2
variable {W : Wd} {K : PySem.W.Frag} {σ : L2.St} {H : Hp} {d1 d2 d3 r : PyData}
theorem dv_ck1 (ha : EaD W K tk σ H [d1]) (hr : RaD W K (fun vs H Q => sp vs H Q E) [d1] r) : EvD W K (tCallK sp kg1 E tNil tk) σ H r := fun b H1 i e Q k => ha b H1 i e _ fun vs H2 i2 r2 rs => by
  cases rs with
  | cons ra t =>
    cases t
    exact hr b H2 _ i2 (.cons ra .nil) Q fun v H3 i3 r3 rv => k v H3 i3 (W.trans r2 r3) rv
theorem dv_ck2 (ha : EaD W K tk σ H [d1, d2]) (hr : RaD W K (fun vs H Q => sp vs H Q E) [d2, d1] r) : EvD W K (tCallK sp kg2 E tNil tk) σ H r := fun b H1 i e Q k => ha b H1 i e _ fun vs H2 i2 r2 rs => by
  cases rs with
  | cons ra t => cases t with
    | cons rb t2 =>
      cases t2
      exact hr b H2 _ i2 (.cons rb (.cons ra .nil)) Q fun v H3 i3 r3 rv => k v H3 i3 (W.trans r2 r3) rv
theorem dv_ck3 (ha : EaD W K tk σ H [d1, d2, d3]) (hr : RaD W K (fun vs H Q => sp vs H Q E) [d3, d2, d1] r) : EvD W K (tCallK sp kg3 E tNil tk) σ H r := fun b H1 i e Q k => ha b H1 i e _ fun vs H2 i2 r2 rs => by
  cases rs with
  | cons ra t => cases t with
    | cons rb t2 => cases t2 with
      | cons rc t3 =>
        cases t3
        exact hr b H2 _ i2 (.cons rc (.cons rb (.cons ra .nil))) Q fun v H3 i3 r3 rv => k v H3 i3 (W.trans r2 r3) rv
end
end Qt
set_option maxRecDepth 100000
set_option maxHeartbeats 4000000
/-! Data outlast the making of lambdas: all but the tables of code objects stay. -/
namespace Qt
open PySem PySem.Spec PyProof.Rows L2 Evl Qd Qe Qs Qn Qw
open LamX (ExtN TabS Tabs CodeO)
section
variable {K : PySem.W.Frag} {H H' : Hp} {a : Addr}
theorem rdN {o : HO} (n : ∀ ps, o ≠ .tbl ps) (e : ExtN H H') (h : Rd H a o) : Rd H' a o := by
  rcases h with h | ⟨ob, h⟩
  · exact .inl (e _ _ h n)
  · exact .inr ⟨ob, e _ _ h (fun ps z => by cases z)⟩
theorem sqtN {xs : List V} (e : ExtN H H') (h : SqT K H a xs) : SqT K H' a xs := h.elim (fun h => .inl (rdN (fun ps z => by cases z) e h)) .inr
mutual
theorem rpN (e : ExtN H H') : ∀ {d : PyData} {v : V}, Rp K H v d → Rp K H' v d
  | _, _, .non => .non
  | _, _, .bl b => .bl b
  | _, _, .int i => .int i
  | _, _, .str x => .str x
  | _, _, .lst h r => .lst (e _ _ h fun ps z => by cases z) (rpsN e r)
  | _, _, .tup h r => .tup (sqtN e h) (rpsN e r)
  | _, _, .dic h r1 r2 => .dic (rdN (fun ps z => by cases z) e h) (rpsN e r1) (rpsN e r2)
theorem rpsN (e : ExtN H H') : ∀ {ds : List PyData} {vs : List V}, Rps K H vs ds → Rps K H' vs ds
  | _, _, .nil => .nil
  | _, _, .cons r t => .cons (rpN e r) (rpsN e t)
end
theorem slotsN {σ : L2.St} {l : List (Option PyData)} (e : ExtN H H') (S : Slots K H σ l) : Slots K H' σ l := ⟨S.1, fun i d h => by
  obtain ⟨v, h1, h2⟩ := S.2 i d h
  exact ⟨v, h1, rpN e h2⟩⟩
theorem hidN {A : Addr → Prop} (e : ExtN H H') : ExtN (hid A H) (hid A H') := fun b o h n => by
  obtain ⟨h1, h2⟩ := hid_vis h
  rw [hid_at h1]
  exact e b o h2 n
theorem datN {x : At} {S : Dst} (D : DAt x S H) (e : ExtN H H') : DAt x S H' := by
  obtain ⟨⟨kvs, h1, h2⟩, h3, h4, k1, k2, k3, k4, k5, k6⟩ := D
  exact ⟨⟨kvs, e _ _ h1 (fun ps z => by cases z), h2⟩, e _ _ h3 (fun ps z => by cases z), e _ _ h4 (fun ps z => by cases z), k1, k2, k3, k4, k5, k6⟩
end
/-- the world of the law: the draws and the table of its code objects are hidden -/
noncomputable def lawW (a : At) (P : Addr) : Wd := (dW a (hides a) fun _ h => h).hide P
/-- what stands at the law's level -/
def LJ (a : At) (P : Addr) (q : Str) (b : Nat) (H : Hp) : Prop := (lawW a P).I b H ∧ TabS H P q ∧ ¬ hides a P
section
variable {K : PySem.W.Frag} {H H' : Hp} {a : At} {P : Addr} {q : Str} {b c : Nat}
theorem hides_not {x : Addr} {o : HO} (i : (lawW a P).I b H) (h : H x = some o) (n1 : ∀ k, o ≠ .dK k) (n2 : ∀ k, o ≠ .lst k) : ¬ hides a x := by
  obtain ⟨⟨⟨S, D, _⟩, _⟩, _⟩ := i
  obtain ⟨⟨kvs, h1, _⟩, h3, h4, _⟩ := D
  rintro (rfl | rfl | rfl)
  · rw [h1] at h; cases h; exact n1 _ rfl
  · rw [h3] at h; cases h; exact n2 _ rfl
  · rw [h4] at h; cases h; exact n2 _ rfl
theorem tab_step (i : (lawW a P).I b H) (r : (lawW a P).R H H') (t : TabS H P q) : TabS H' P q := by
  obtain ⟨ps, h1, h2, h3⟩ := t
  refine ⟨ps, r.2.trans h1, h2, fun pos cv hc => ?_⟩
  obtain ⟨c, e, hc2⟩ := h3 pos cv hc
  have nh : ¬ hides a c := hides_not i hc2 (fun k z => by cases z) (fun k z => by cases z)
  exact ⟨c, e, (hid_vis (r.1 c _ (by rw [hid_at nh]; exact hc2))).2⟩
theorem LJ.step (j : LJ a P q b H) (i : (lawW a P).I c H') (r : (lawW a P).R H H') : LJ a P q c H' := ⟨i, tab_step j.1 r j.2.1, j.2.2⟩
theorem LJ.less (j : LJ a P q (b + c) H) : LJ a P q b H := ⟨(lawW a P).less j.1, j.2⟩
theorem lawN (i : (lawW a P).I b H) (t : TabS H P q) (e : ExtN H H') (t' : TabS H' P q) : (lawW a P).I b H' := by
  obtain ⟨⟨⟨S, D, h⟩, al⟩, hp⟩ := i
  have D' := datN D e
  refine ⟨⟨⟨S, D', h⟩, fun p hp => ?_⟩, ?_⟩
  · obtain ⟨⟨kvs, h1, _⟩, h3, h4, _⟩ := D'
    rcases hp with rfl | rfl | rfl
    · rw [h1]; simp
    · rw [h3]; simp
    · rw [h4]; simp
  · obtain ⟨ps, h1, _⟩ := t'
    rw [h1]; simp
theorem LJ.ext (j : LJ a P q b H) (e : ExtN H H') (t' : TabS H' P q) : LJ a P q b H' := ⟨lawN j.1 j.2.1 e t', t', j.2.2⟩
theorem step_N (i : (lawW a P).I b H) (r : (lawW a P).R H H') : ExtN ((lawW a P).m H) ((lawW a P).m H') := LamX.ExtN.of ((lawW a P).up i r)
/-- a lambda is made, at the law's level -/
theorem j_lam {σ : L2.St} {params : Arguments} {body : Expr} {scope : Scope} {Q : VK} (j : LJ a P q b H)
    (k : ∀ f c H', LJ a P q b H' → ExtN H H' → H f = none → H' f = some (Ql.LamO q params body scope f c) → H' c = some (CodeO c q) → Q (.ref f) H') : Ql.tLamE [(P, q)] q params body scope σ H Q := by
  refine ⟨fun p hp => ?_, fun f c H1 hf e hf1 t1 hc => ?_⟩
  · cases List.mem_singleton.mp hp
    exact j.2.1
  · have e2 : Ex H1 (upd H1 f (Ql.LamO q params body scope f c)) := Ex.new hf1
    have tt : TabS (upd H1 f (Ql.LamO q params body scope f c)) P q := (t1 (P, q) (.head _)).ext e2
    have en := e.trans (LamX.ExtN.of e2)
    exact k f c _ (j.ext en tt) en hf upd_same (e2 _ _ hc)
end
end Qt
set_option maxRecDepth 100000
set_option maxHeartbeats 4000000
/-! (None,) * width. -/
namespace Qt
open PySem PySem.Spec PyProof.Rows L2 Evl Qd Qe Qs Qn Qw
theorem r2_rep {W : Wd} {K : PySem.W.Frag} {n : Int} (h : 1 ≤ n ∧ n ≤ 3) : R2D W K (Qr.rRepA K) (.tuple [.none]) (.int n) (.tuple (List.replicate n.toNat .none)) := fun b H x y i rx ry Q g => by
  obtain ⟨a, xs, rfl, hs, rs⟩ := rp_tup rx
  have ey := rp_int ry
  subst ey
  have h3 : n = 1 ∨ n = 2 ∨ n = 3 := by omega
  by_cases h1 : n = 1
  · subst h1
    exact .inl ⟨a, xs, rfl, rfl, ex_t hid_ex hs, g _ H i (W.refl H) rx⟩
  · cases rs with
    | cons r t =>
      cases t
      cases r
      refine .inr ⟨a, n, [.non], rfl, rfl, ex_t hid_ex hs, by simp, by omega, by omega, by simp, fun p hp => ?_⟩
      obtain ⟨i3, r3, rp3⟩ := seq_new (W := W) (K := K) (ds := List.replicate n.toNat PyData.none) (vs := (List.replicate n.toNat [V.non]).flatten) i hp (by
        rcases h3 with rfl | rfl | rfl
        · exact absurd rfl h1
        · exact .cons .non (.cons .non .nil)
        · exact .cons .non (.cons .non (.cons .non .nil)))
      exact g _ _ i3 r3 rp3
end Qt
set_option maxRecDepth 100000
set_option maxHeartbeats 4000000
/-! _law_caught of a lambda that raises, at the law's level. -/
namespace Qt
open PySem PySem.Spec PyProof.Rows L2 Evl Qd Qe Qs Qn Qw
open LamX (ExtN TabS Tabs CodeO)
section
variable {K : PySem.W.Frag} {H : Hp} {a : At} {P C CS : Addr} {q : Str} {b : Nat} {σ : L2.St}
theorem j_caught {t : XK → TE} {Q : VK} (j : LJ a P q b H) (hc : PySem.W.exmOne K (.ref C) (.ref CS) = some true)
    (ht : ∀ H1, LJ a P q b H1 → ExtN H H1 → ∀ (E : XK) (Q' : VK), (∀ H2, LJ a P q b H2 → ExtN H1 H2 → E (.ref C) none H2) → t E σ H1 Q')
    (k : ∀ p H2, LJ a P q b H2 → ExtN H H2 → H2 p = some (Qx.ExH (.ref C) none p) → Q (.ref p) H2) : LamX.tLam [(P, q)] (Ql.TCaught K CS) t σ H Q := by
  refine ⟨fun p hp => ?_, fun H1 e1 t1 => ?_⟩
  · cases List.mem_singleton.mp hp
    exact j.2.1
  · have j1 := j.ext e1 (t1 (P, q) (.head _))
    refine ht H1 j1 e1 _ _ fun H2 j2 e2 => ⟨true, hc, fun _ p hp => ?_, fun h => by cases h⟩
    have e3 : Ex H2 (upd H2 p (Qx.ExH (.ref C) none p)) := Ex.new hp
    exact k p _ (j2.ext (LamX.ExtN.of e3) (j2.2.1.ext e3)) (e1.trans (e2.trans (LamX.ExtN.of e3))) upd_same
end
end Qt
set_option maxRecDepth 100000
set_option maxHeartbeats 4000000
/-! The law's body as a term of rules. -/
namespace Qt
open PySem PySem.Spec PyProof.Rows L2 Evl Qd Qe Qs Qn Qw
open C8 (Cal pe_c)
open Qx (call_isH)
theorem b_ve : bootBuiltins "ValueError" = some (.type "ValueError") := by decide +kernel
abbrev qL : Str := (envOfC "law" (defScope s_law) 0 0 .none).qual ++ "<lambda>"
theorem hfree_of {scope : Scope} {cells : List (Str × Addr)} (h : (scope.names.all fun y => !decide (y.2 = .free)) = true) : ∀ y ∈ scope.names, y.2 = .free → ∃ c, cells.lookup y.1 = some c := fun y hy e => by
  have := List.all_eq_true.mp h y hy
  rw [e] at this
  cases this
def forB : Stmt → List Stmt
  | .For _ _ b _ _ => b
  | _ => []
def forI : Stmt → Expr
  | .For _ i _ _ _ => i
  | _ => .Constant .none 0 ⟨0, 0, 0, 0⟩
def nth (l : List Stmt) (i : Nat) : Stmt := l.getD i (.Pass ⟨0, 0, 0, 0⟩)
def eltAt : Expr → Nat → Expr
  | .List es _, i => es.getD i (.Constant .none 0 ⟨0, 0, 0, 0⟩)
  | e, _ => e
def lamP : Expr → Arguments
  | .Lambda a _ _ _ => a
  | _ => defArgs s_law
def lamB : Expr → Expr
  | .Lambda _ b _ _ => b
  | e => e
def lamS : Expr → Scope
  | .Lambda _ _ c _ => c
  | _ => defScope s_law
abbrev lap : List Stmt := forB (nth (defBody s_law) 1)
abbrev lam1 : Expr := eltAt (forI (nth (forB (nth lap 3)) 2)) 1
abbrev lam2 : Expr := eltAt (forI (nth (forB (nth lap 3)) 2)) 2
abbrev lam3 : Expr := eltAt (forI (nth lap 8)) 1
theorem scl1 : FnScope ["one"] ["one"] (lamS lam1) := ⟨rfl, rfl, rfl, by decide +kernel, rfl, by decide +kernel, by decide +kernel⟩
theorem scl2 : FnScope ["one"] ["one"] (lamS lam2) := ⟨rfl, rfl, rfl, by decide +kernel, rfl, by decide +kernel, by decide +kernel⟩
theorem scl3 : FnScope ["one", "two"] ["one", "two"] (lamS lam3) := ⟨rfl, rfl, rfl, by decide +kernel, rfl, by decide +kernel, by decide +kernel⟩
theorem alt_cx {X : Cx} {k j : Nat} {x : Str} {f : Addr} {sp : Sp} {E : XK} (c : CalX X.prog X.w X.K X.mg X.base k x sp) (hm : X.mg x = some (.ref f)) (hr : Room j X.A) (hk : k ≤ j) (hx : Passes (L2.CX X.prog X.w) X E) : Ql.Alt X (Ql.aFn f sp E) := by
  obtain ⟨f', fd, ps, F, hm', kp, b⟩ := c.ex
  cases hm.symm.trans hm'
  exact Ql.alt_fn F (hr.mono hk) b hx
/-- what work may be in the first loop, in the second -/
def alt1 (ftw : Addr) (spWk spSk spRk : Sp) (E : XK) : Ql.TAlt := Ql.aOr (Ql.aFn ftw spWk E) (Ql.aOr (Ql.aLam qL (lamP lam1) (lamB lam1) (lamS lam1) ["one"] ["one"] (tCall spSk [] E (tCons (tVar 0) (tCons (tC .non) tNil))))
  (Ql.aLam qL (lamP lam2) (lamB lam2) (lamS lam2) ["one"] ["one"] (tCall spRk [] E (tCons (tVar 0) (tCons (tC .non) (tCons (tC .non) tNil))))))
def alt2 (ftd : Addr) (spSk spRk : Sp) (E : XK) : Ql.TAlt := Ql.aOr (Ql.aFn ftd spSk E) (Ql.aLam qL (lamP lam3) (lamB lam3) (lamS lam3) ["one", "two"] ["one", "two"] (tCall spRk [] E (tCons (tVar 0) (tCons (tVar 1) (tCons (tC .non) tNil)))))
theorem halt1 {X : Cx} {ftw : Addr} {spWk spSk spRk : Sp} {E : XK} (hr : Room 8 X.A) (hx : Passes (L2.CX X.prog X.w) X E) (m1 : X.mg "table_words" = some (.ref ftw)) (c1 : CalX X.prog X.w X.K X.mg X.base 7 "table_words" spWk) (c2 : CalX X.prog X.w X.K X.mg X.base 7 "table_width" spSk) (c3 : CalX X.prog X.w X.K X.mg X.base 7 "is_row_of" spRk) : Ql.Alt X (alt1 ftw spWk spSk spRk E) :=
  Ql.Alt.or (alt_cx c1 m1 hr (by decide) hx) (Ql.Alt.or
    (Ql.alt_lam (k := 7) scl1 (fun pm cv ctv us hl => match us, hl with | [_], _ => rfl) hr hx fun f c A outer s H hr2 => pe_cx c2 hr2 (by decide) (by rfl) (passes_call (takes_of rfl rfl rfl rfl) fun _ _ _ _ h => h) (pa_cons (pv 0) (pa_cons pe_non pa_nil)))
    (Ql.alt_lam (k := 7) scl2 (fun pm cv ctv us hl => match us, hl with | [_], _ => rfl) hr hx fun f c A outer s H hr2 => pe_cx c3 hr2 (by decide) (by rfl) (passes_call (takes_of rfl rfl rfl rfl) fun _ _ _ _ h => h) (pa_cons (pv 0) (pa_cons pe_non (pa_cons pe_non pa_nil)))))
theorem halt2 {X : Cx} {ftd : Addr} {spSk spRk : Sp} {E : XK} (hr : Room 8 X.A) (hx : Passes (L2.CX X.prog X.w) X E) (m1 : X.mg "table_width" = some (.ref ftd)) (c2 : CalX X.prog X.w X.K X.mg X.base 7 "table_width" spSk) (c3 : CalX X.prog X.w X.K X.mg X.base 7 "is_row_of" spRk) : Ql.Alt X (alt2 ftd spSk spRk E) :=
  Ql.Alt.or (alt_cx c2 m1 hr (by decide) hx)
    (Ql.alt_lam (k := 7) scl3 (fun pm cv ctv us hl => match us, hl with | [_, _], _ => rfl) hr hx fun f c A outer s H hr2 => pe_cx c3 hr2 (by decide) (by rfl) (passes_call (takes_of rfl rfl rfl rfl) fun _ _ _ _ h => h) (pa_cons (pv 0) (pa_cons (pv 1) (pa_cons pe_non pa_nil))))
abbrev names__law_caught : List Str := ["action", "found", "error"]
theorem sc__law_caught : FnScope names__law_caught ["action"] (defScope s__law_caught) := ⟨rfl, rfl, rfl, by decide +kernel, rfl, by decide +kernel, by decide +kernel⟩
theorem passL {X : Cx} : Passes (L2.CX X.prog X.w) X C8.E0 := fun _ _ _ _ _ _ _ ⟨_, _, _, _, _, _, _, _, _, _, _, _, h⟩ => h.elim
section
variable {P : Program} {w : World} {K : PySem.W.Frag} {mg : Str → Option Value} {base : Heap}
abbrev names_law : List Str := ["script", "draws", "turn", "schema", "word", "value", "lap", "due", "work", "error", "words", "pair", "table", "width", "row", "place", "part", "odd"]
theorem sc_law : FnScope names_law ["script"] (defScope s_law) := ⟨rfl, rfl, rfl, by decide +kernel, rfl, by decide +kernel, by decide +kernel⟩
/-- some draws, any -/
def exA (sp : At → Sp) : Sp := fun vs H Q E => ∃ a, sp a vs H Q E
theorem FnOk.exA {CX : CXT} {k : Nat} {f : Addr} {fd : FuncData} {ps : List Str} {sp : At → Sp} (F : ∀ a, FnOk P w K mg base CX k f fd ps (sp a)) : FnOk P w K mg base CX k f fd ps (exA sp) :=
  ⟨fun vs H Q E ⟨a, h⟩ => (F a).len vs H Q E h, fun A outer s H args us vs Q E hr e0 hb r ⟨a, h⟩ => (F a).run A outer s H args us vs Q E hr e0 hb r h⟩
/-- all that the law's text calls -/
structure LawC (P : Program) (w : World) (K : PySem.W.Frag) (mg : Str → Option Value) (base : Heap) (BS BT SE ftw ftd cL P' gC : Addr) (fdC : FuncData) : Prop where
  T : Top K mg
  TB : LamX.TabB base mg cL P'
  FC : Fun K "_law_caught" "_law_caught" s__law_caught gC fdC
  mC : mg "_law_caught" = some (.ref gC)
  e_BadSchema : mg "BadSchema" = some (.ref BS)
  e_BadTable : mg "BadTable" = some (.ref BT)
  e_ShowError : mg "ShowError" = some (.ref SE)
  m_table_words : mg "table_words" = some (.ref ftw)
  m_table_width : mg "table_width" = some (.ref ftd)
  hm0 : mg "ValueError" = none
  kw1 : PySem.W.keepIn K (.ref ftw) = true
  kw2 : PySem.W.keepIn K (.ref ftd) = true
  exS : ExcC K BS
  exT : ExcC K BT
  exmS : PySem.W.exmOne K (.ref BS) (.ref SE) = some true
  exmT : PySem.W.exmOne K (.ref BT) (.ref SE) = some true
  kSS : PySem.W.kitOne K (.ref BS) (.ref BS) = some true
  kST : PySem.W.kitOne K (.ref BS) (.ref BT) = some false
  kSE : PySem.W.kitOne K (.ref BS) (.ref SE) = some true
  kTT : PySem.W.kitOne K (.ref BT) (.ref BT) = some true
  kTS : PySem.W.kitOne K (.ref BT) (.ref BS) = some false
  kTE : PySem.W.kitOne K (.ref BT) (.ref SE) = some true
  kTV : PySem.W.kitOne K (.ref BT) (.type "ValueError") = some true
  c__law_begun : Cal P w K mg base 1 "_law_begun" (spBg K) []
  c__law_schema : Cal P w K mg base 6 "_law_schema" (exA fun a => spSc K a) []
  c__law_words : Cal P w K mg base 4 "_law_words" (exA fun a => spWo K a) []
  c__law_pick : Cal P w K mg base 3 "_law_pick" (exA fun a => spPkD K a) []
  c__law_kept : Cal P w K mg base 1 "_law_kept" (spK K) []
  c__law_is_truth : Cal P w K mg base 1 "_law_is_truth" (spTr K) []
  c__law_is_word : Cal P w K mg base 1 "_law_is_word" (spBW K isWordD) []
  c_is_word : Cal P w K mg base 1 "is_word" (spB K isWordD) []
  k_is_word : CalK P w K mg base CX0 1 "is_word" ["value"] kg1 kg1 (spB K isWordD)
  c__law_odd : Cal P w K mg base 4 "_law_odd" (exA fun a => spOd K a) []
  c__law_bent : Cal P w K mg base 4 "_law_bent" (exA fun a => spBe K a) []
  c__law_is_schema : Cal P w K mg base 3 "_law_is_schema" (spBS K schemaOk) []
  c_is_schema : Cal P w K mg base 5 "is_schema" (spB K schemaOk) []
  k_is_schema : CalK P w K mg base CX0 5 "is_schema" ["value"] kg1 kg1 (spB K schemaOk)
  c__law_same : Cal P w K mg base 2 "_law_same" (spSame K) []
  c_table_words : CalX P w K mg base 7 "table_words" (spTW K BS)
  k_table_words : CalK P w K mg base (L2.CX P w) 7 "table_words" ["schema"] kg1 kg1 (spTW K BS)
  c_table_width : CalX P w K mg base 7 "table_width" (spTWd K BS BT)
  k_table_width : CalK P w K mg base (L2.CX P w) 7 "table_width" ["table", "schema"] kg2 kg2 (spTWd K BS BT)
  c_is_row_of : CalX P w K mg base 7 "is_row_of" (spRO K BS BT)
  k_is_row_of : CalK P w K mg base (L2.CX P w) 7 "is_row_of" ["value", "table", "schema"] kg3 kg3 (spRO K BS BT)
/-- where the law's body is read -/
abbrev LX (P : Program) (w : World) (K : PySem.W.Frag) (mg : Str → Option Value) (base : Heap) (f cL : Addr) (A : Around) (outer : List Env) (s : Shared) (H : Hp) (E : XK) : Cx := (cxOf CX0 P w K mg base names_law "law" (defScope s_law) f (.ref cL) A outer s H E).nox
end
end Qt
set_option maxRecDepth 100000
set_option maxHeartbeats 4000000
/-! Tools for the reading of the law's body. -/
namespace Qt
open PySem PySem.Spec PyProof.Rows L2 Evl Qd Qe Qs Qn Qw
open LamX (ExtN TabS Tabs CodeO)
/-- slots but those at vs are as they were -/
def Fr (vs : List Nat) (σ σ' : L2.St) : Prop := σ'.length = σ.length ∧ ∀ i, i ∉ vs → σ'[i]? = σ[i]?
section
variable {vs us : List Nat} {σ σ1 σ2 : L2.St} {j : Nat} {x : Option V}
theorem Fr.refl : Fr vs σ σ := ⟨rfl, fun _ _ => rfl⟩
theorem Fr.trans (a : Fr vs σ σ1) (b : Fr vs σ1 σ2) : Fr vs σ σ2 := ⟨b.1.trans a.1, fun i h => (b.2 i h).trans (a.2 i h)⟩
theorem Fr.le (h : ∀ i ∈ us, i ∈ vs) (a : Fr us σ σ1) : Fr vs σ σ1 := ⟨a.1, fun i q => a.2 i fun z => q (h i z)⟩
theorem Fr.set (a : Fr vs σ σ1) (h : j ∈ vs) : Fr vs σ (σ1.set j x) := ⟨by rw [List.length_set]; exact a.1, fun i q => by
  have ne : j ≠ i := fun e => q (by rw [← e]; exact h)
  rw [List.getElem?_set_ne ne]
  exact a.2 i q⟩
theorem Fr.at {i : Nat} (a : Fr vs σ σ1) (h : i ∉ vs) {v : V} (e : σ[i]? = some (some v)) : σ1[i]? = some (some v) := by rw [a.2 i h]; exact e
end
theorem at_set {σ : L2.St} {j : Nat} {x : Option V} (h : j < σ.length) : (σ.set j x)[j]? = some x := by rw [List.getElem?_set_self h]
section
variable {W : Wd} {K : PySem.W.Frag} {a : At} {σ : L2.St} {H H' : Hp} {b c cB cd N n j : Nat} {wi : TI} {p : List PyData → Prop} {D : Ends} {tu tz : TS} {te : TE} {tt : TT} {ta : TA} {d : PyData} {q : PyData → Prop} {vs : List Nat} {l : List (Option PyData)}
theorem slots_nil (h : σ.length = n) : Slots K H σ (List.replicate n none) := ⟨by simp [h], fun i d e => by
  rw [List.getElem?_replicate] at e
  split at e <;> cases e⟩
theorem slots_add {v : V} (S : Slots K H σ l) (hs : σ[j]? = some (some v)) (r : Rp K H v d) : Slots K H σ (l.set j (some d)) := ⟨by simp [S.1], fun i d' h => by
  by_cases hj : j = i
  · subst hj
    rw [List.getElem?_set_self'] at h
    cases z : l[j]? with
    | none => rw [z] at h; cases h
    | some y => rw [z] at h; cases h; exact ⟨v, hs, r⟩
  · rw [List.getElem?_set_ne hj] at h
    exact S.2 i d' h⟩
theorem f_asg (i0 : W.I b H) (h : EvD W K te σ H d) (k : ∀ v H1, W.I b H1 → W.R H H1 → Rp K (W.m H1) v d → tz D (σ.set j (some v)) H1) : tSeq (tAsg te (gName j)) tz D σ H := h b H i0 (Ex.refl _) _ fun v H1 i1 r1 rv => k v H1 i1 r1 rv
theorem f_asgP (i0 : W.I (b + c) H) (h : EvP W K c te σ H q) (k : ∀ v d H1, q d → W.I b H1 → W.R H H1 → Rp K (W.m H1) v d → tz D (σ.set j (some v)) H1) : tSeq (tAsg te (gName j)) tz D σ H := h b H i0 (Ex.refl _) _ fun v H1 d i1 r1 rv hd => k v d H1 hd i1 r1 rv
/-- if not .. : return False -/
theorem f_no (i0 : W.I b H) (h : EtD W tt σ H false) (k : ∀ H1, W.I b H1 → W.R H H1 → tz D σ H1) : tSeq (tIfS tt tu tNext) tz D σ H := h b H i0 (Ex.refl _) _ fun H1 i1 r1 => k H1 i1 r1
theorem f_noL (i0 : W.I b H) (h : EtD W tt σ H false) (k : ∀ H1, W.I b H1 → W.R H H1 → D.nx σ H1) : tIfS tt tu tNext D σ H := h b H i0 (Ex.refl _) _ fun H1 i1 r1 => k H1 i1 r1
/-- for x in ..: the state but some slots stays -/
theorem f_forG {g : TG} {T : PyData → L2.St → Hp → Prop} (hi : EiP W K c wi σ H p) (i0 : W.I (b + (c + N * cB)) H) (hn : ∀ es, p es → es.length ≤ N)
    (hg : ∀ es d σ1 H1 x Q, p es → d ∈ es → Fr vs σ σ1 → Rp K (W.m H1) x d → (∀ σ2, Fr vs σ σ2 → T d σ2 H1 → Q σ2 H1) → g x σ1 H1 Q)
    (hs : ∀ es d σ1 H1 bb (NX : L2.St → Hp → Prop), p es → d ∈ es → W.I (bb + cB) H1 → W.R H H1 → Fr vs σ σ1 → T d σ1 H1 →
      (∀ σ2 H2, W.I bb H2 → W.R H1 H2 → Fr vs σ σ2 → NX σ2 H2) → tu { D with nx := NX, ct := NX, bk := tz D } σ1 H1)
    (hd : ∀ σ1 H1, W.I b H1 → W.R H H1 → Fr vs σ σ1 → tz D σ1 H1) : tSeq (tFor wi g tu) tz D σ H := by
  have i1 : W.I (b + N * cB + c) H := by rw [show b + N * cB + c = b + (c + N * cB) by omega]; exact i0
  refine q_forP (b := b + N * cB) (c := c) hi i1 (fun H2 es n σ' H' => n ≤ es.length ∧ W.I (b + (N - n) * cB) H' ∧ W.R H H' ∧ W.R H2 H' ∧ (∃ b0, W.I b0 H2) ∧ Fr vs σ σ') ?_ ?_ ?_ ?_
  · intro H2 es hp i2 r2
    exact ⟨Nat.zero_le _, i2, r2, W.refl H2, ⟨_, i2⟩, Fr.refl⟩
  · rintro H2 es n σ' H' hp hn' ⟨_, i', r', r2', ⟨b0, ib⟩, _⟩
    exact (W.up ib r2').trans hid_ex
  · rintro H2 es n x d σ' H' H3 hp hd' ⟨hle, i', r', r2', ⟨b0, ib⟩, F'⟩ e3 hx
    have hlt := (List.getElem?_eq_some_iff.mp hd').1
    have hN := hn es hp
    obtain ⟨r3, i3⟩ := W.new i' e3
    have rx := hx W.A (fun a ha => W.alive i' ha) (W.up ib r2')
    refine hg es d σ' H3 x _ hp (List.mem_of_getElem? hd') F' rx fun σ2 F2 T2 => ?_
    have em : b + (N - n) * cB = b + (N - (n + 1)) * cB + cB := by
      have : N - n = (N - (n + 1)) + 1 := by omega
      rw [this, Nat.add_mul, Nat.one_mul, ← Nat.add_assoc]
    rw [em] at i3
    exact hs es d σ2 H3 (b + (N - (n + 1)) * cB) _ hp (List.mem_of_getElem? hd') i3 (W.trans r' r3) F2 T2 fun σ4 H4 i4 r4 f4 => ⟨by omega, i4, W.trans (W.trans r' r3) r4, W.trans (W.trans r2' r3) r4, ⟨b0, ib⟩, f4⟩
  · rintro H2 es σ' H' hp ⟨_, i', r', _, _, F'⟩
    exact hd σ' H' (W.less i') r' F'
theorem f_for (hj : j ∈ vs) (hl : j < σ.length) (hi : EiP W K c wi σ H p) (i0 : W.I (b + (c + N * cB)) H) (hn : ∀ es, p es → es.length ≤ N)
    (hs : ∀ es d v σ1 H1 bb (NX : L2.St → Hp → Prop), p es → d ∈ es → W.I (bb + cB) H1 → W.R H H1 → Fr vs σ σ1 → σ1[j]? = some (some v) → Rp K (W.m H1) v d →
      (∀ σ2 H2, W.I bb H2 → W.R H1 H2 → Fr vs σ σ2 → NX σ2 H2) → tu { D with nx := NX, ct := NX, bk := tz D } σ1 H1)
    (hd : ∀ σ1 H1, W.I b H1 → W.R H H1 → Fr vs σ σ1 → tz D σ1 H1) : tSeq (tFor wi (gName j) tu) tz D σ H :=
  f_forG (T := fun d σ1 H1 => ∃ v, σ1[j]? = some (some v) ∧ Rp K (W.m H1) v d) hi i0 hn (fun es d σ1 H1 x Q _ _ F1 rx k => k _ (F1.set hj) ⟨x, at_set (by rw [F1.1]; exact hl), rx⟩)
    (fun es d σ1 H1 bb NX he hd i1 r1 F1 ⟨v, h1, h2⟩ nx => hs es d v σ1 H1 bb NX he hd i1 r1 F1 h1 h2 nx) hd
theorem f_forPr {j1 j2 : Nat} (hj1 : j1 ∈ vs) (hj2 : j2 ∈ vs) (hne : j1 ≠ j2) (hl1 : j1 < σ.length) (hl2 : j2 < σ.length) (hi : EiP W K c wi σ H p) (i0 : W.I (b + (c + N * cB)) H) (hn : ∀ es, p es → es.length ≤ N) (hp : ∀ es, p es → ∀ d ∈ es, ∃ a b, d = .tuple [a, b])
    (hs : ∀ es d1 d2 v1 v2 σ1 H1 bb (NX : L2.St → Hp → Prop), p es → .tuple [d1, d2] ∈ es → W.I (bb + cB) H1 → W.R H H1 → Fr vs σ σ1 → σ1[j1]? = some (some v1) → σ1[j2]? = some (some v2) → Rp K (W.m H1) v1 d1 → Rp K (W.m H1) v2 d2 →
      (∀ σ2 H2, W.I bb H2 → W.R H1 H2 → Fr vs σ σ2 → NX σ2 H2) → tu { D with nx := NX, ct := NX, bk := tz D } σ1 H1)
    (hd : ∀ σ1 H1, W.I b H1 → W.R H H1 → Fr vs σ σ1 → tz D σ1 H1) : tSeq (tFor wi (gTup K 2 (gCons (gName j1) (gCons (gName j2) gNil))) tu) tz D σ H :=
  f_forG (T := fun d σ1 H1 => ∃ d1 d2 v1 v2, d = .tuple [d1, d2] ∧ σ1[j1]? = some (some v1) ∧ σ1[j2]? = some (some v2) ∧ Rp K (W.m H1) v1 d1 ∧ Rp K (W.m H1) v2 d2) hi i0 hn
    (fun es d σ1 H1 x Q he hm F1 rx k => by
      obtain ⟨d1, d2, rfl⟩ := hp es he d hm
      obtain ⟨ad, xs, rfl, hq, rs⟩ := rp_tup rx
      cases rs with
      | cons r1 t => cases t with
        | cons r2 t2 =>
          cases t2
          refine ⟨ad, _, rfl, ex_t hid_ex hq, rfl, ⟨_, _, rfl, _, _, rfl, rfl, k _ ((F1.set hj1).set hj2) ⟨d1, d2, _, _, rfl, ?_, ?_, r1, r2⟩⟩⟩
          · rw [List.getElem?_set_ne (Ne.symm hne)]
            exact at_set (by rw [F1.1]; exact hl1)
          · exact at_set (by rw [List.length_set, F1.1]; exact hl2))
    (fun es d σ1 H1 bb NX he hd i1 r1 F1 ⟨d1, d2, v1, v2, e, h1, h2, h3, h4⟩ nx => by subst e; exact hs es d1 d2 v1 v2 σ1 H1 bb NX he hd i1 r1 F1 h1 h2 h3 h4 nx) hd
/-- lists of data that are fit to be handed about -/
def AOk (n : Nat) (ds : List PyData) : Prop := (∀ d ∈ ds, okS2 d) ∧ ds.length = n
theorem al_nil : EaP W K 0 tNil σ H (AOk 0) := EaP.imp (fun ds h => by subst h; exact ⟨by simp, rfl⟩) ap_nil
theorem al_cons {c1 c2 : Nat} {tr : TA} (h : EvP W K c1 te σ H okS2) (hr : EaP W K c2 tr σ H (AOk n)) : EaP W K (c1 + c2) (tCons te tr) σ H (AOk (n + 1)) := EaP.imp (fun ds ⟨d, t, e, h1, h2⟩ => by
  subst e
  exact ⟨am_cons h1 h2.1, by rw [List.length_cons, h2.2]⟩) (ap_cons h hr)
theorem al_d {c2 : Nat} {tr : TA} (h : EvD W K te σ H d) (ok : okS2 d) (hr : EaP W K c2 tr σ H (AOk n)) : EaP W K c2 (tCons te tr) σ H (AOk (n + 1)) := EaP.less (c := 0 + c2) (by omega) (al_cons (EvD.toP h ok) hr)
/-- the draws, whichever they are -/
theorem pv_drawA {i : Nat} {ok : List PyData → Prop} {pp : List PyData → PyData → Prop} {ps : List PyData → Prop} {E : XK} (ab : Ab a W) (hs : σ[i]? = some (some (.ref a.s))) (h : EaP W K c ta σ H ps) (hp : ∀ ds, ps ds → ok ds ∧ ∀ d, pp ds d → q d) :
    EvP W K (c + cd) (tCall (exA fun a => spD K a cd ok pp) [] E (tCons (tVar i) ta)) σ H q := fun b H1 i1 e Q k => by
  have i' : W.I (b + cd + c) H1 := by rw [show b + cd + c = b + (c + cd) by omega]; exact i1
  refine ⟨.ref a.s, hs, h (b + cd) H1 i' e _ fun vs H2 ds i2 r2 rs hds => ?_⟩
  show exA (fun a => spD K a cd ok pp) ((.ref a.s :: vs) ++ []) H2 Q E
  rw [List.append_nil]
  obtain ⟨h1, h2⟩ := hp ds hds
  refine ⟨a, b, ds, W.A, ab.sub, vs, rfl, ab.I i2, rs, h1, fun v H3 d i3 r3 rp hd => ?_⟩
  obtain ⟨j3, s3⟩ := ab.st i2 i3 r3
  exact k v H3 d j3 (W.trans r2 s3) rp (h2 d hd)
theorem pv_bent {i m : Nat} {E : XK} {v : V} (ab : Ab a W) (hs : σ[i]? = some (some (.ref a.s))) (hm : σ[m]? = some (some v)) (sch : Sch K (W.m H) v d) :
    EvP W K 40 (tCall (exA fun a => spBe K a) [] E (tCons (tVar i) (tCons (tVar m) tNil))) σ H okS2 := fun b H1 i1 e Q k => by
  refine ⟨.ref a.s, hs, v, hm, ?_⟩
  refine ⟨a, b, W.A, ab.sub, v, d, rfl, ab.I i1, sch.mono e, fun v' H' d' i' r' rv hd => ?_⟩
  obtain ⟨j3, s3⟩ := ab.st i1 i' r'
  exact k v' H' d' j3 s3 rv hd
theorem ev_sch {i : Nat} {E : XK} {Q : VK} (ab : Ab a W) (hs : σ[i]? = some (some (.ref a.s))) (i1 : W.I (b + 40) H) (k : ∀ v H' d, W.I b H' → W.R H H' → Sch K (W.m H') v d → Q v H') : tCall (exA fun a => spSc K a) [] E (tCons (tVar i) tNil) σ H Q := by
  refine ⟨.ref a.s, hs, ?_⟩
  refine ⟨a, b, W.A, ab.sub, rfl, ab.I i1, fun v' H' d' i' r' hd => ?_⟩
  obtain ⟨j3, s3⟩ := ab.st i1 i' r'
  exact k v' H' d' j3 s3 hd
end
/-- a schema outlasts the making of lambdas -/
theorem pairedN {K : PySem.W.Frag} {H H' : Hp} (e : ExtN H H') : ∀ {addrs : List Addr} {kvs : List (Key × V)}, Paired (fun p kv => SqT K H p [kV kv.1, kv.2]) addrs kvs → Paired (fun p kv => SqT K H' p [kV kv.1, kv.2]) addrs kvs
  | _, _, .nil => .nil
  | _, _, .cons h t => .cons (sqtN e h) (pairedN e t)
theorem schN {K : PySem.W.Frag} {H H' : Hp} {v : V} {d : PyData} (e : ExtN H H') (h : Sch K H v d) : Sch K H' v d := ⟨rpN e h.rp, h.ok, h.sm, by
  obtain ⟨a, n, t, m, o, addrs, h1, h2, h3, h4, h5⟩ := h.fz
  exact ⟨a, n, t, m, o, addrs, h1, sqtN e h2, e _ _ h3 (fun ps z => by cases z), h4, pairedN e h5⟩⟩
theorem ab_law {a : At} {P : Addr} (h : ¬ hides a P) : Ab a (lawW a P) := ab_self.hide h
/-! texts -/
theorem strOk_iff {x : Str} : PyData.strOk x = true ↔ ∀ c ∈ x.cps.toList, c < 0x110000 := by
  unfold PyData.strOk
  rw [← Array.all_toList, List.all_eq_true]
  exact ⟨fun h c hc => of_decide_eq_true (h c hc), fun h c hc => decide_eq_true (h c hc)⟩
theorem strOk_app {x y : Str} (h1 : PyData.strOk x = true) (h2 : PyData.strOk y = true) : PyData.strOk (x ++ y) = true := strOk_iff.mpr fun c hc => by
  have hc : c ∈ (x.cps ++ y.cps).toList := hc
  rw [Array.toList_append] at hc
  exact (List.mem_append.mp hc).elim (strOk_iff.mp h1 c) (strOk_iff.mp h2 c)
theorem len_app {x y : Str} : (x ++ y).length = x.length + y.length := by
  show (x.cps ++ y.cps).size = x.cps.size + y.cps.size
  rw [Array.size_append]
theorem strOk_rep {x : Str} {n : Nat} (h : PyData.strOk x = true) : PyData.strOk (repS x n) = true := strOk_iff.mpr fun c hc => by
  have hc : c ∈ (List.replicate n x.cps.toList).flatten := by simpa [repS] using hc
  obtain ⟨l, hl, hc⟩ := List.mem_flatten.mp hc
  rw [(List.mem_replicate.mp hl).2] at hc
  exact strOk_iff.mp h c hc
theorem len_rep {x : Str} {n : Nat} : (repS x n).length = n * x.length := by
  show ((List.replicate n x.cps.toList).flatten.toArray).size = _
  rw [List.size_toArray]
  have key : ∀ (m : Nat) (l : List Nat), (List.replicate m l).flatten.length = m * l.length := fun m l => by
    induction m with
    | zero => simp
    | succ m ih => rw [List.replicate_succ, List.flatten_cons, List.length_append, ih, Nat.succ_mul]; omega
  rw [key, Array.length_toList]
  rfl
theorem strOk_cut {x : Str} (h : PyData.strOk x = true) : PyData.strOk (cutS x none (some 1)) = true := strOk_iff.mpr fun c hc => by
  rw [cut_one] at hc
  exact strOk_iff.mp h c (List.mem_of_mem_take hc)
theorem len_cut {x : Str} : (cutS x none (some 1)).length ≤ 1 := by
  show (cutS x none (some 1)).cps.size ≤ 1
  rw [← Array.length_toList, cut_one, List.length_take]
  omega
end Qt
set_option maxRecDepth 100000
set_option maxHeartbeats 4000000
/-! The law's body: a schema, a word, the words tried. -/
namespace Qt
open PySem PySem.Spec PyProof.Rows L2 Evl Qd Qe Qs Qn Qw
open LamX (ExtN TabS Tabs CodeO)
open C8 (Cal pe_c)
/-- what is seen outlasts -/
abbrev EN (a : At) (P' : Addr) (H H' : Hp) : Prop := ExtN ((lawW a P').m H) ((lawW a P').m H')
theorem EN.of {a : At} {P' : Addr} {q : Str} {b : Nat} {H H' : Hp} (j : LJ a P' q b H) (r : (lawW a P').R H H') : EN a P' H H' := step_N j.1 r
section
variable {P : Program} {w : World} {K : PySem.W.Frag} {mg : Str → Option Value} {base : Heap} {BS BT SE ftw ftd cL P' gC : Addr} {fdC : FuncData} {f : Addr} {A : Around} {outer : List Env} {s : Shared} {H0 : Hp} {E : XK}
variable (C : LawC P w K mg base BS BT SE ftw ftd cL P' gC fdC) (hr : Room 10 (A.deeper (envOfC "law" (defScope s_law) s.heap.objs.size f (.ref cL))))
include C hr in
theorem p_A0 : ∃ t, PS (LX P w K mg base f cL A outer s H0 E) (nth lap 0) t ∧ ∀ (a : At) (q : Str) (b : Nat) (σ : L2.St) (H : Hp) (D : Ends) (tz : TS), LJ a P' q (b + 40) H → σ[1]? = some (some (.ref a.s)) →
    (∀ v d H', LJ a P' q b H' → EN a P' H H' → Sch K ((lawW a P').m H') v d → tz D (σ.set 3 (some v)) H') → tSeq t tz D σ H := by
  obtain ⟨T, TB, FC, mC, e_BadSchema, e_BadTable, e_ShowError, m_table_words, m_table_width, hm0, kw1, kw2, exS, exT, exmS, exmT, kSS, kST, kSE, kTT, kTS, kTE, kTV, c__law_begun, c__law_schema, c__law_words, c__law_pick, c__law_kept, c__law_is_truth, c__law_is_word, c_is_word, k_is_word, c__law_odd, c__law_bent, c__law_is_schema, c_is_schema, k_is_schema, c__law_same, c_table_words, k_table_words, c_table_width, k_table_width, c_is_row_of, k_is_row_of⟩ := id C
  refine ⟨_, (ps_set (i := 3) sc_law.nd rfl (by first | exact .inl rfl | exact .inr rfl) (pe_c c__law_schema hr (by decide) (by rfl) (pa_cons (pv 1) pa_nil))), ?_⟩
  intro a q b σ H D tz j hs k
  exact ev_sch (W := lawW a P') (ab_law j.2.2) hs j.1 fun v H' d i' r' sch => k v d H' (j.step i' r') (EN.of j r') sch
include C hr in
theorem p_A1 : ∃ t, PS (LX P w K mg base f cL A outer s H0 E) (nth lap 1) t ∧ ∀ (a : At) (q : Str) (b : Nat) (σ : L2.St) (H : Hp) (D : Ends) (tz : TS), LJ a P' q (b + 1) H → σ[1]? = some (some (.ref a.s)) →
    (∀ wd H', LJ a P' q b H' → EN a P' H H' → isWordS wd = true → tz D (σ.set 4 (some (.str wd))) H') → tSeq t tz D σ H := by
  obtain ⟨T, TB, FC, mC, e_BadSchema, e_BadTable, e_ShowError, m_table_words, m_table_width, hm0, kw1, kw2, exS, exT, exmS, exmT, kSS, kST, kSE, kTT, kTS, kTE, kTV, c__law_begun, c__law_schema, c__law_words, c__law_pick, c__law_kept, c__law_is_truth, c__law_is_word, c_is_word, k_is_word, c__law_odd, c__law_bent, c__law_is_schema, c_is_schema, k_is_schema, c__law_same, c_table_words, k_table_words, c_table_width, k_table_width, c_is_row_of, k_is_row_of⟩ := id C
  refine ⟨_, (ps_set (i := 4) sc_law.nd rfl (by first | exact .inl rfl | exact .inr rfl) (pe_ix ix_seq (pe_c c__law_words hr (by decide) (by rfl) (pa_cons (pv 1) (pa_cons pe_int pa_nil))) pe_int (fun _ _ => rfl))), ?_⟩
  intro a q b σ H D tz j hs k
  refine f_asgP (W := lawW a P') (c := 1) (q := fun d => ∃ wd, d = .str wd ∧ isWordS wd = true) j.1 (EvP.less (c := 0 + 1 + 0) (by decide) (pv_op (c1 := 0 + 1) (c2 := 0) (p := fun d => ∃ wd, d = .list [.str wd] ∧ isWordS wd = true) (q := fun d => d = .int 0)
    (pv_drawA (K := K) (ok := okMany) (pp := pWords) (ps := fun ds => ds = [.int 1]) (ab_law j.2.2) hs (EaD.toP (da_cons dv_int da_nil) rfl) fun ds e => by
      subst e
      refine ⟨⟨1, rfl, by decide⟩, fun d ⟨ws, e, hl, hg⟩ => ?_⟩
      have hl : (ws.length : Int) = 1 := hl
      match ws, hl with
      | [x], _ => exact ⟨x, e, hg.1 x (by simp)⟩) (EvD.toP dv_int rfl)
    (fun d e ⟨wd, h1, h2⟩ h3 => by
      subst h1 h3
      exact ⟨_, r2_ixL rfl, wd, rfl, h2⟩))) fun v d H' ⟨wd, e, hw⟩ i' r' rv => ?_
  subst e
  rw [rp_str rv]
  exact k wd H' (j.step i' r') (EN.of j r') hw
include C hr in
theorem p_B : ∃ t, PS (LX P w K mg base f cL A outer s H0 E) (nth lap 2) t ∧ ∀ (a : At) (q : Str) (b : Nat) (σ : L2.St) (H : Hp) (D : Ends) (tz : TS) (wd : Str), LJ a P' q (b + 1) H → σ.length = 18 → σ[1]? = some (some (.ref a.s)) → σ[4]? = some (some (.str wd)) → isWordS wd = true →
    (∀ σ' H', LJ a P' q b H' → EN a P' H H' → Fr [5] σ σ' → tz D σ' H') → tSeq t tz D σ H := by
  have hu := hu_room hr
  obtain ⟨T, TB, FC, mC, e_BadSchema, e_BadTable, e_ShowError, m_table_words, m_table_width, hm0, kw1, kw2, exS, exT, exmS, exmT, kSS, kST, kSE, kTT, kTS, kTE, kTV, c__law_begun, c__law_schema, c__law_words, c__law_pick, c__law_kept, c__law_is_truth, c__law_is_word, c_is_word, k_is_word, c__law_odd, c__law_bent, c__law_is_schema, c_is_schema, k_is_schema, c__law_same, c_table_words, k_table_words, c_table_width, k_table_width, c_is_row_of, k_is_row_of⟩ := id C
  refine ⟨_, (ps_for PassesOwn.never rfl (pi_list (pe_lst (pa_cons (pv 4) (pa_cons (pe_op op_add_str (pv 4) pe_str) (pa_cons (pe_op op_mulS (pv 4) pe_int) (pa_cons pe_str (pa_cons (pe_tup (pa_cons (pv 4) pa_nil)) (pa_cons pe_non (pa_cons (pe_op op_add_str (pv 4) pe_str) (pa_cons (pe_c c__law_pick hr (by decide) (by rfl) (pa_cons (pv 1) (pa_cons (pe_c0 c__law_kept hr (by decide) (by rfl)) pa_nil))) (pa_cons (pe_op op_add_str (pe_slice sl_str (pv 4) po_none (po_some pe_int)) pe_str) pa_nil))))))))))) (pg_name (i := 5) sc_law.nd rfl (by first | exact .inl rfl | exact .inr rfl))
    (pss_one (ps_if (PW.pt (pw_or (pt_not (pt_val (pe_c c__law_is_truth hr (by decide) (by rfl) (pa_cons (pe_c c_is_word hr (by decide) (by rfl) (pa_cons (pv 5) pa_nil)) (pa_cons (pe_c c__law_is_word hr (by decide) (by rfl) (pa_cons (pv 5) pa_nil)) pa_nil))))) (pw_or1 (pt_cmpR (op_neU hu) (pe_ck (E := C8.E0) k_is_word hr (by decide) (by rfl) C8.pass0 (pk_cons (pv 5) pk_nil)) (pe_c c__law_is_word hr (by decide) (by rfl) (pa_cons (pv 5) pa_nil)) rfl)))) (pss_one (ps_ret pe_bl)) pss_nil))), ?_⟩
  intro a q b σ H D tz wd j hl hs h4 hw k
  obtain ⟨l1, l2⟩ := word_len hw
  have hok := word_ok hw
  have S : Slots K ((lawW a P').m H) σ ((List.replicate 18 none).set 4 (some (.str wd))) := slots_add (slots_nil hl) h4 (.str wd)
  have okA : ∀ z : Str, z.length ≤ 1 → PyData.strOk z = true → okS2 (.str (wd ++ z)) := fun z h1 h2 => ok_str (by rw [len_app]; omega) (strOk_app hok h2)
  have r2A : ∀ z : Str, z.length ≤ 1 → R2D (lawW a P') K (fun x y H Q => ∃ i j, x = .str i ∧ y = .str j ∧ i.length + j.length ≤ sizeLine ∧ Q (.str (i ++ j)) H) (.str wd) (.str z) (.str (wd ++ z)) := fun z h => r2_addS (by omega)
  refine f_for (W := lawW a P') (K := K) (vs := [5]) (c := 1) (cB := 0) (N := 9) (p := AOk 9) (by decide) (by rw [hl]; decide) (eip_list (pv_lst
    (al_d (ds_var (i := 4) S rfl) (ok_str (by omega) hok) (al_d (dv_op (ds_var (i := 4) S rfl) dv_str (r2A "A" (by decide))) (okA "A" (by decide) (by decide +kernel)) (al_d (dv_op (ds_var (i := 4) S rfl) dv_int (r2_mulS (n := 9) (by decide) (by omega))) (ok_str (by rw [len_rep]; omega) (strOk_rep hok))
    (al_d dv_str (ok_strc (by decide +kernel)) (al_d (dv_tup (da_cons (ds_var (i := 4) S rfl) da_nil) (by simp)) (ok_t1 (ok_str (by omega) hok)) (al_d dv_non ok_non (al_d (dv_op (ds_var (i := 4) S rfl) dv_str (r2A "1" (by decide))) (okA "1" (by decide) (by decide +kernel))
    (al_cons (c1 := 0 + 1) (c2 := 0) (pv_drawA (K := K) (i := 1) (ok := okPick) (pp := fun ds d => d ∈ itemsOf (d0 ds)) (ps := fun ds => ds = [.list (keptS.map .str)]) (ab_law j.2.2) hs (EaD.toP (da_cons (dv_call da_nil (ra_sp rfl)) da_nil) rfl) (fun ds hds => by
      subst hds
      refine ⟨⟨_, rfl, by decide, by decide⟩, fun d hd => ?_⟩
      obtain ⟨x, hx, rfl⟩ := List.mem_map.mp (show d ∈ keptS.map PyData.str from hd)
      have key : ∀ x ∈ keptS, (decide (x.length ≤ 1000) && PyData.strOk x) = true := by decide +kernel
      exact ok_strc (key x hx)))
    (al_d (dv_op (dv_slS (ds_var (i := 4) S rfl) (fun _ => en_none) (fun _ => en_int) (by omega)) dv_str (r2_addS (by have := len_cut (x := wd); have : (" " : Str).length = 1 := rfl; omega))) (ok_str (by have := len_cut (x := wd); have : (" " : Str).length = 1 := rfl; rw [len_app]; omega) (strOk_app (strOk_cut hok) (by decide +kernel))) al_nil))))))))) (fun ds h => by rw [h.2]; decide)))
    j.1 (fun es h => by rw [h.2]; decide) (fun es d v σ1 H1 bb NX he hd i1 r1 F1 hv rv nx => ?_) (fun σ1 H1 i1 r1 F1 => k σ1 H1 (j.step i1 r1) (EN.of j r1) F1)
  have okd := he.1 d hd
  have S1 : Slots K ((lawW a P').m H1) σ1 ((List.replicate 18 none).set 5 (some d)) := slots_add (slots_nil (by rw [F1.1, hl])) hv rv
  have bw : EvD (lawW a P') K (tCall (spBW K isWordD) [] C8.E0 (tCons (tVar 5) tNil)) σ1 H1 (.bool (isWordD d)) := dv_call (da_cons (ds_var (i := 5) S1 rfl) da_nil) (ra_sp ⟨d, rfl, okd.w⟩)
  refine f_noL i1 (EtD.is (dt_or (dt_not (dt_B (dv_call (da_cons (dv_call (da_cons (ds_var (i := 5) S1 rfl) da_nil) (rb okd.1)) (da_cons bw da_nil)) (ra_sp ⟨_, _, rfl⟩)))) fun _ => dt_test (dv_op (dv_ck1 (da_cons (ds_var (i := 5) S1 rfl) da_nil) (rb okd.1)) bw r2_neB)) (by simp [boolD, d0, d1])) fun H2 i2 r2 => nx σ1 H2 i2 r2 F1
end
end Qt
set_option maxRecDepth 100000
set_option maxHeartbeats 4000000
/-! A schema's names and widths; calls of the program's functions on it. -/
namespace Qt
open PySem PySem.Spec PyProof.Rows L2 Evl Qd Qe Qs Qn Qw
open LamX (ExtN TabS Tabs CodeO)
theorem fst_pair {x : Str} {n : Int} : fstS (.tuple [.str x, .int n]) = x := rfl
theorem wid_no {x : Str} : ∀ {ps : List PyData} {kvs : List (Key × V)}, ps.all pairOk = true → (∀ p ∈ ps, fstS p ≠ x) → valV (mergeK kvs (ps.map kvD)) (.inr x) = valV kvs (.inr x)
  | [], _, _, _ => rfl
  | p :: ps, kvs, hp, h => by
    rw [List.all_cons, Bool.and_eq_true] at hp
    obtain ⟨y, n, rfl⟩ := pair_shape hp.1
    show valV (mergeK (putK kvs (.inr y) (.int n)) (ps.map kvD)) (.inr x) = _
    rw [wid_no hp.2 fun q hq => h q (.tail _ hq), valV_put, if_neg]
    intro e
    have e : x = y := Sum.inr.inj e
    exact h _ (.head _) e.symm
theorem wid_yes {x : Str} {n : Int} : ∀ {ps : List PyData} {kvs : List (Key × V)}, ps.all pairOk = true → (ps.map fstS).Nodup → .tuple [.str x, .int n] ∈ ps → valV (mergeK kvs (ps.map kvD)) (.inr x) = some (.int n)
  | p :: ps, kvs, hp, nd, h => by
    rw [List.all_cons, Bool.and_eq_true] at hp
    obtain ⟨y, m, rfl⟩ := pair_shape hp.1
    rw [List.map_cons, List.nodup_cons] at nd
    show valV (mergeK (putK kvs (.inr y) (.int m)) (ps.map kvD)) (.inr x) = _
    rcases List.mem_cons.mp h with e | hm
    · cases e
      rw [wid_no (x := x) hp.2 fun q hq e => nd.1 (List.mem_map.mpr ⟨q, hq, e⟩), valV_put, if_pos rfl]
    · exact wid_yes hp.2 nd.2 hm
/-- a schema in its parts -/
theorem sch_parts {d : PyData} (h : schemaOk d = true) : ∃ ps ns, d = .tuple [.str "schema", .tuple ps, .tuple ns] ∧ ps.all pairOk = true ∧ (ps.map fstS).Nodup ∧ 1 ≤ ps.length ∧ ps.length ≤ 3 := by
  obtain ⟨ps, ns, e, h1, h2, h3, h4, _⟩ := schema_shape h
  rw [asc_map] at h2
  have pw := adj_pw h2
  exact ⟨ps, ns, e, h1, pw.imp fun {a b} hab e => by
    subst e
    exact List.lt_irrefl _ hab, h3, h4⟩
theorem widI_yes {d : PyData} {x : Str} {n : Int} (h : schemaOk d = true) (hm : .tuple [.str x, .int n] ∈ pairsOf d) : widD d (.str x) = some (.int n) ∧ widI d (.str x) = n := by
  obtain ⟨ps, ns, rfl, h1, h2, _⟩ := sch_parts h
  have e : widD (.tuple [.str "schema", .tuple ps, .tuple ns]) (.str x) = some (.int n) := wid_yes h1 h2 hm
  exact ⟨e, by unfold widI; rw [e]; rfl⟩
theorem widD_no {d t : PyData} (h : schemaOk d = true) (hn : ∀ x, t = .str x → isFreeD (.str x) = false) : widD d t = none := by
  obtain ⟨ps, ns, rfl, h1, h2, _⟩ := sch_parts h
  cases t with
  | str x =>
    show valV (mergeK [] (ps.map kvD)) (.inr x) = none
    rw [wid_no h1 fun p hp e => ?_]
    · rfl
    · have hpo := List.all_eq_true.mp h1 p hp
      obtain ⟨y, n, rfl⟩ := pair_shape hpo
      have e : y = x := e
      subst e
      have h3 : (isFreeD (.str y) && (decide (1 ≤ n) && decide (n ≤ 3))) = true := hpo
      rw [hn y rfl] at h3
      cases h3
  | _ => rfl
/-- a pair of a schema -/
theorem sch_pair {d p : PyData} (h : schemaOk d = true) (hm : p ∈ pairsOf d) : ∃ x n, p = .tuple [.str x, .int n] ∧ isFreeD (.str x) = true ∧ 1 ≤ n ∧ n ≤ 3 := by
  obtain ⟨ps, ns, rfl, h1, h2, _⟩ := sch_parts h
  have hpo := List.all_eq_true.mp h1 p hm
  obtain ⟨x, n, rfl⟩ := pair_shape hpo
  have h3 : (isFreeD (.str x) && (decide (1 ≤ n) && decide (n ≤ 3))) = true := hpo
  simp only [Bool.and_eq_true, decide_eq_true_eq] at h3
  exact ⟨x, n, rfl, h3.1, h3.2⟩
def namesD (d : PyData) : List Str := (pairsOf d).map fstS
theorem names_free {d : PyData} (h : schemaOk d = true) : ∀ x ∈ namesD d, isFreeD (.str x) = true := fun x hx => by
  obtain ⟨p, hp, rfl⟩ := List.mem_map.mp hx
  obtain ⟨y, n, rfl, h1, _⟩ := sch_pair h hp
  exact h1
theorem names_len {d : PyData} (h : schemaOk d = true) : (namesD d).length ≤ 3 := by
  obtain ⟨ps, ns, rfl, h1, h2, h3, h4⟩ := sch_parts h
  show (ps.map fstS).length ≤ 3
  rw [List.length_map]
  exact h4
theorem good_strs : ∀ {xs : List Str}, (∀ x ∈ xs, PyData.strOk x = true) → flatAll (xs.map .str) = true ∧ PyData.canLayAll0 (xs.map .str) = true ∧ PyData.depthAll (xs.map .str) ≤ 1 ∧ wtAll (xs.map .str) = xs.length
  | [], _ => by simp [flatAll, PyData.canLayAll0, PyData.depthAll, wtAll]
  | x :: xs, h => by
    obtain ⟨h1, h2, h3, h4⟩ := good_strs fun y hy => h y (.tail _ hy)
    have hx := h x (.head _)
    rw [List.map_cons, flatAll, PyData.canLayAll0, PyData.depthAll, wtAll, h1, h2, h4]
    refine ⟨by simp [flat], by simp [PyData.canLay0, hx], ?_, ?_⟩
    · simp [PyData.depth]
      omega
    · simp [wt]; omega
theorem same_strs {xs : List Str} (h : ∀ x ∈ xs, PyData.strOk x = true) (hl : xs.length ≤ 100) : okSame [.tuple (xs.map .str), .tuple (xs.map .str)] := by
  obtain ⟨h1, h2, h3, h4⟩ := good_strs h
  refine ⟨_, rfl, ⟨by rw [flat]; exact h1, by rw [PyData.canLay0]; exact h2, by rw [PyData.depth]; omega⟩, ?_⟩
  rw [wt, h4]
  omega
theorem same_int {n : Int} : okSame [.int n, .int n] := ⟨_, rfl, ⟨by simp [flat], by simp [PyData.canLay0], by simp [PyData.depth]⟩, by simp [wt]⟩
section
variable {W : Wd} {K : PySem.W.Frag} {σ : L2.St} {H : Hp} {i : Nat} {v : V} {d d1 d2 d3 : PyData} {tr : TA} {te te1 te2 : TE} {E : XK} {pre : List V → Hp → List PyData → Prop} {ok : List PyData → Prop} {err : List PyData → Option Addr} {g : List PyData → PyData} {ds : List PyData}
/-- such a call does not raise -/
theorem ra_X (hok : ok ds) (hp : ∀ vs Hv, pre vs Hv ds) (he : err ds = none) : RaD W K (fun vs H Q => spX K pre ok err g vs H Q E) ds (g ds) := fun b H xs i rx Q k => ⟨W.A, ds, fun a ha => W.alive i ha, rx, hok, hp _ _, fun _ v H' e r => by
  obtain ⟨r2, i2⟩ := W.new i e
  exact k v H' i2 r2 r, fun C z => by rw [he] at z; cases z⟩
theorem callS_run {b : Nat} {H2 : Hp} {vs : List V} {Q : VK} (i2 : W.I b H2) (rv : Rp K (W.m H2) v d) (fz : FzS K (W.m H2) v (pairsOf d)) (rps : Rps K (W.m H2) vs ds) (hok : ok (d :: ds)) (he : err (d :: ds) = none)
    (k : ∀ v H', W.I b H' → W.R H2 H' → Rp K (W.m H') v (g (d :: ds)) → Q v H') : spX K (preS K) ok err g (v :: vs) H2 Q E :=
  ⟨W.A, d :: ds, fun a ha => W.alive i2 ha, .cons rv rps, hok, fun _ => ⟨v, vs, rfl, fz⟩, fun _ v H' e r => by
    obtain ⟨r3, i3⟩ := W.new i2 e
    exact k v H' i3 r3 r, fun C z => by rw [he] at z; cases z⟩
theorem dv_callS (hs : σ[i]? = some (some v)) (sch : Sch K (W.m H) v d) (ha : EaD W K tr σ H ds) (hok : ok (d :: ds)) (he : err (d :: ds) = none) : EvD W K (tCall (spX K (preS K) ok err g) [] E (tCons (tVar i) tr)) σ H (g (d :: ds)) := fun b H1 i1 e Q k =>
  ⟨v, hs, ha b H1 i1 e _ fun vs H2 i2 r2 rps => by
    have s2 := (sch.mono e).mono (W.up i1 r2)
    show spX K (preS K) ok err g ((v :: vs) ++ []) H2 Q E
    rw [List.append_nil]
    exact callS_run i2 s2.rp s2.fz rps hok he fun v' H' i' r' rv => k v' H' i' (W.trans r2 r') rv⟩
theorem dv_kS2 (hs : σ[i]? = some (some v)) (sch : Sch K (W.m H) v d) (ha : EvD W K te σ H d1) (hok : ok [d, d1]) (he : err [d, d1] = none) : EvD W K (tCallK (spX K (preS K) ok err g) kg2 E tNil (tCons te (tCons (tVar i) tNil))) σ H (g [d, d1]) := fun b H1 i1 e Q k =>
  ha b H1 i1 e _ fun x H2 i2 r2 rx => by
    have s2 := (sch.mono e).mono (W.up i1 r2)
    refine ⟨v, hs, ?_⟩
    exact callS_run i2 s2.rp s2.fz (.cons rx .nil) hok he fun v' H' i' r' rv => k v' H' i' (W.trans r2 r') rv
theorem dv_kS3 (hs : σ[i]? = some (some v)) (sch : Sch K (W.m H) v d) (ha : EvD W K te σ H d2) (hb : EvD W K te1 σ H d1) (hok : ok [d, d1, d2]) (he : err [d, d1, d2] = none) : EvD W K (tCallK (spX K (preS K) ok err g) kg3 E tNil (tCons te (tCons te1 (tCons (tVar i) tNil)))) σ H (g [d, d1, d2]) := fun b H1 i1 e Q k =>
  ha b H1 i1 e _ fun x H2 i2 r2 rx => hb b H2 i2 (e.trans (W.up i1 r2)) _ fun y H3 i3 r3 ry => by
    have s3 := ((sch.mono e).mono (W.up i1 r2)).mono (W.up i2 r3)
    refine ⟨v, hs, ?_⟩
    exact callS_run i3 s3.rp s3.fz (.cons ry (.cons (rx.mono (W.up i2 r3)) .nil)) hok he fun v' H' i' r' rv => k v' H' i' (W.trans (W.trans r2 r3) r') rv
/-- such a call raises -/
theorem x_run {b : Nat} {CC : Addr} {vs : List V} {Q : VK} (i2 : W.I b H) (rps : Rps K (W.m H) vs ds) (hok : ok ds) (hp : pre vs (W.m H) ds) (he : err ds = some CC) (k : ∀ H', W.I b H' → W.R H H' → E (.ref CC) none H') : spX K pre ok err g vs H Q E :=
  ⟨W.A, ds, fun a ha => W.alive i2 ha, rps, hok, hp, fun z => (by rw [he] at z; cases z), fun C' z H' e => by
    rw [he] at z
    cases z
    obtain ⟨r3, i3⟩ := W.new i2 e
    exact k H' i3 r3⟩
end
end Qt
set_option maxRecDepth 100000
set_option maxHeartbeats 4000000
/-! The law's body: words, tables, rows, what is odd. -/
namespace Qt
open PySem PySem.Spec PyProof.Rows L2 Evl Qd Qe Qs Qn Qw
open LamX (ExtN TabS Tabs CodeO)
open C8 (Cal pe_c)
def wordsD (d : PyData) : PyData := .tuple ((namesD d).map .str)
theorem errS_ok {CS : Addr} {d : PyData} (h : schemaOk d = true) : errS CS [d] = none := by
  show (if schemaOk d = true then none else some CS) = none
  rw [if_pos h]
theorem errST_ok {CS CT : Addr} {d t : PyData} {ds : List PyData} (h : schemaOk d = true) (hw : (widD d t).isSome = true) : errST CS CT (d :: t :: ds) = none := by
  show (if schemaOk d = true then (if (widD d t).isSome = true then none else some CT) else some CS) = none
  rw [if_pos h, if_pos hw]
theorem names_ok {d : PyData} (h : schemaOk d = true) : ∀ x ∈ namesD d, PyData.strOk x = true := fun x hx => free_ok (names_free h x hx)
section
variable {P : Program} {w : World} {K : PySem.W.Frag} {mg : Str → Option Value} {base : Heap} {BS BT SE ftw ftd cL P' gC : Addr} {fdC : FuncData} {f : Addr} {A : Around} {outer : List Env} {s : Shared} {H0 : Hp} {E : XK}
variable (C : LawC P w K mg base BS BT SE ftw ftd cL P' gC fdC) (hr : Room 10 (A.deeper (envOfC "law" (defScope s_law) s.heap.objs.size f (.ref cL))))
include C hr in
theorem p_D4 : ∃ t, PS (LX P w K mg base f cL A outer s H0 E) (nth lap 4) t ∧ ∀ (a : At) (q : Str) (b : Nat) (σ : L2.St) (H : Hp) (D : Ends) (tz : TS) (v : V) (d : PyData), LJ a P' q b H → σ.length = 18 → σ[3]? = some (some v) → Sch K ((lawW a P').m H) v d →
    (∀ v' H', LJ a P' q b H' → EN a P' H H' → Rp K ((lawW a P').m H') v' (wordsD d) → tz D (σ.set 10 (some v')) H') → tSeq t tz D σ H := by
  have hu := hu_room hr
  obtain ⟨T, TB, FC, mC, e_BadSchema, e_BadTable, e_ShowError, m_table_words, m_table_width, hm0, kw1, kw2, exS, exT, exmS, exmT, kSS, kST, kSE, kTT, kTS, kTE, kTV, c__law_begun, c__law_schema, c__law_words, c__law_pick, c__law_kept, c__law_is_truth, c__law_is_word, c_is_word, k_is_word, c__law_odd, c__law_bent, c__law_is_schema, c_is_schema, k_is_schema, c__law_same, c_table_words, k_table_words, c_table_width, k_table_width, c_is_row_of, k_is_row_of⟩ := id C
  refine ⟨_, (ps_set (i := 10) sc_law.nd rfl (by first | exact .inl rfl | exact .inr rfl) (pe_callTy call_tuple_of (by rfl) T.tuple boot_tuple (pa_cons (pe_lc (own := [("pair", 11)]) (g := gName 11) (tt := tYes) rfl sc_law.nd (pi_tup (pe_ix ix_seq (pv 3) pe_int (fun _ _ => rfl))) (blkOk_by (N := names_law) (sc := defScope s_law) (by decide +kernel)) (fun _ _ _ _ _ => (pg_name (i := 11) sc_law.nd rfl (by first | exact .inl rfl | exact .inr rfl))) (fun _ _ _ _ _ => pts_nil) (fun _ _ _ _ _ => (pe_ix (ixK (K := K) rfl) (pv 11) pe_int (fun _ _ => rfl)))) pa_nil))), ?_⟩
  intro a q b σ H D tz v d j hl h3 sch k
  obtain ⟨ps, ns, rfl, hp, hnd, l1, l3⟩ := sch_parts sch.ok
  have S : Slots K ((lawW a P').m H) σ ((List.replicate 18 none).set 3 (some (.tuple [.str "schema", .tuple ps, .tuple ns]))) := slots_add (slots_nil hl) h3 sch.rp
  refine f_asg (W := lawW a P') (K := K) j.1 (EvD.is (dv_cb (da_cons (ds_map (W := lawW a P') S (fun p => .str (fstS p)) (ei_tup (dv_op (ds_var (i := 3) S rfl) dv_int (r2_ixT rfl))) (by show ps.length ≤ 50000; omega) fun W' d σ2 H' hm S' => ?_) da_nil) (ra_tuple (.inr rfl))) (e := wordsD (.tuple [.str "schema", .tuple ps, .tuple ns])) ?_)
    fun v' H1 i1 r1 rv => k v' H1 (j.step i1 r1) (EN.of j r1) rv
  · obtain ⟨x, n, rfl⟩ := pair_sm hp hm
    exact dv_op (ds_var (i := 11) S' rfl) dv_int (r2_ixT rfl)
  · show PyData.tuple (ps.map fun p => .str (fstS p)) = .tuple ((ps.map fstS).map .str)
    rw [List.map_map]
    rfl
include C hr in
theorem p_D5 : ∃ t, PS (LX P w K mg base f cL A outer s H0 E) (nth lap 5) t ∧ ∀ (a : At) (q : Str) (b : Nat) (σ : L2.St) (H : Hp) (D : Ends) (tz : TS) (v v10 : V) (d : PyData), LJ a P' q b H → σ.length = 18 → σ[3]? = some (some v) → Sch K ((lawW a P').m H) v d → σ[10]? = some (some v10) → Rp K ((lawW a P').m H) v10 (wordsD d) →
    (∀ H', LJ a P' q b H' → EN a P' H H' → tz D σ H') → tSeq t tz D σ H := by
  have hu := hu_room hr
  obtain ⟨T, TB, FC, mC, e_BadSchema, e_BadTable, e_ShowError, m_table_words, m_table_width, hm0, kw1, kw2, exS, exT, exmS, exmT, kSS, kST, kSE, kTT, kTS, kTE, kTV, c__law_begun, c__law_schema, c__law_words, c__law_pick, c__law_kept, c__law_is_truth, c__law_is_word, c_is_word, k_is_word, c__law_odd, c__law_bent, c__law_is_schema, c_is_schema, k_is_schema, c__law_same, c_table_words, k_table_words, c_table_width, k_table_width, c_is_row_of, k_is_row_of⟩ := id C
  refine ⟨_, (ps_if (PW.pt (pw_or (pt_not (pt_val (pe_c c__law_same hr (by decide) (by rfl) (pa_cons (pe_cx c_table_words hr (by decide) (by rfl) passL (pa_cons (pv 3) pa_nil)) (pa_cons (pv 10) pa_nil))))) (pw_or1 (pt_cmpR (op_neU hu) (pe_ck (E := C8.E0) k_table_words hr (by decide) (by rfl) passL (pk_cons (pv 3) pk_nil)) (pv 10) rfl)))) (pss_one (ps_ret pe_bl)) pss_nil), ?_⟩
  intro a q b σ H D tz v v10 d j hl h3 sch h10 rv10 k
  have S : Slots K ((lawW a P').m H) σ (((List.replicate 18 none).set 3 (some d)).set 10 (some (wordsD d))) := slots_add (slots_add (slots_nil hl) h3 sch.rp) h10 rv10
  have e1 : PyData.tuple ((pairsOf (d0 [d])).map fun p => .str (fstS p)) = wordsD d := by
    show PyData.tuple ((pairsOf d).map fun p => .str (fstS p)) = .tuple (((pairsOf d).map fstS).map .str)
    rw [List.map_map]
    rfl
  have c1 : ∀ {EE : XK}, RaD (lawW a P') K (fun vs H Q => spTW K BS vs H Q EE) [d] (wordsD d) := fun {EE} => by
    rw [← e1]
    exact ra_X ⟨d, rfl, sch.sm.1⟩ (fun _ _ => trivial) (errS_ok sch.ok)
  refine f_no (W := lawW a P') j.1 (EtD.is (dt_or (dt_not (dt_B (dv_call (da_cons (dv_call (da_cons (ds_var (i := 3) S rfl) da_nil) c1) (da_cons (ds_var (i := 10) S rfl) da_nil)) (ra_sp (same_strs (names_ok sch.ok) (by have := names_len sch.ok; omega)))))) fun _ =>
    dt_test (dv_op (dv_ck1 (da_cons (ds_var (i := 3) S rfl) da_nil) c1) (ds_var (i := 10) S rfl) (r2_neTS (names_ok sch.ok) (names_ok sch.ok)))) (by simp)) fun H1 i1 r1 => k H1 (j.step i1 r1) (EN.of j r1)
include C hr in
theorem p_F : ∃ t, PS (LX P w K mg base f cL A outer s H0 E) (nth lap 7) t ∧ ∀ (a : At) (q : Str) (b : Nat) (σ : L2.St) (H : Hp) (D : Ends) (tz : TS) (v10 : V) (d : PyData), LJ a P' q (b + 1) H → σ.length = 18 → σ[1]? = some (some (.ref a.s)) → schemaOk d = true → σ[10]? = some (some v10) → Rp K ((lawW a P').m H) v10 (wordsD d) →
    (∀ v' d' H', LJ a P' q b H' → EN a P' H H' → Rp K ((lawW a P').m H') v' d' → sm d' = true → widD d d' = none → tz D (σ.set 17 (some v')) H') → tSeq t tz D σ H := by
  have hu := hu_room hr
  obtain ⟨T, TB, FC, mC, e_BadSchema, e_BadTable, e_ShowError, m_table_words, m_table_width, hm0, kw1, kw2, exS, exT, exmS, exmT, kSS, kST, kSE, kTT, kTS, kTE, kTV, c__law_begun, c__law_schema, c__law_words, c__law_pick, c__law_kept, c__law_is_truth, c__law_is_word, c_is_word, k_is_word, c__law_odd, c__law_bent, c__law_is_schema, c_is_schema, k_is_schema, c__law_same, c_table_words, k_table_words, c_table_width, k_table_width, c_is_row_of, k_is_row_of⟩ := id C
  refine ⟨_, (ps_set (i := 17) sc_law.nd rfl (by first | exact .inl rfl | exact .inr rfl) (pe_c c__law_pick hr (by decide) (by rfl) (pa_cons (pv 1) (pa_cons (pe_lst (pa_cons pe_non (pa_cons pe_str (pa_cons pe_int (pa_cons (pv 10) (pa_cons pe_str pa_nil)))))) pa_nil)))), ?_⟩
  intro a q b σ H D tz v10 d j hl h1 hd h10 rv10 k
  have S : Slots K ((lawW a P').m H) σ ((List.replicate 18 none).set 10 (some (wordsD d))) := slots_add (slots_nil hl) h10 rv10
  refine f_asgP (W := lawW a P') (K := K) (c := 1) (q := fun d' => sm d' = true ∧ widD d d' = none) j.1 (EvP.less (c := 0 + 1) (by decide) (pv_drawA (K := K) (i := 1) (ok := okPick) (pp := fun ds d => d ∈ itemsOf (d0 ds)) (ps := fun ds => ds = [.list [.none, .str "zzzzzzzzz", .int 0, wordsD d, .str ""]]) (ab_law j.2.2) h1
    (EaD.toP (da_cons (dv_lst (da_cons dv_non (da_cons dv_str (da_cons dv_int (da_cons (ds_var (i := 10) S rfl) (da_cons dv_str da_nil))))) (by simp)) da_nil) rfl) (fun ds hds => by
      subst hds
      refine ⟨⟨_, rfl, by simp, by simp⟩, fun d' hm => ?_⟩
      have hm : d' ∈ [PyData.none, .str "zzzzzzzzz", .int 0, wordsD d, .str ""] := hm
      simp only [List.mem_cons, List.not_mem_nil, or_false] at hm
      rcases hm with rfl | rfl | rfl | rfl | rfl
      · exact ⟨by rw [sm], widD_no hd fun x e => by cases e⟩
      · exact ⟨by rw [sm]; decide, widD_no hd fun x e => by cases e; decide +kernel⟩
      · exact ⟨by rw [sm], widD_no hd fun x e => by cases e⟩
      · refine ⟨?_, widD_no hd fun x e => by cases e⟩
        exact (ok_tup (fun e he => by
          obtain ⟨x, hx, rfl⟩ := List.mem_map.mp he
          have hf := names_free hd x hx
          have hw : isWordS x = true := (Bool.and_eq_true_iff.mp hf).1
          obtain ⟨l1, l2⟩ := word_len hw
          exact ok_str (by omega) (word_ok hw)) (by rw [List.length_map]; have := names_len hd; omega)).1
      · exact ⟨by rw [sm]; decide, widD_no hd fun x e => by cases e; decide +kernel⟩))) fun v' d' H' ⟨h1, h2⟩ i' r' rv => k v' d' H' (j.step i' r') (EN.of j r') rv h1 h2
end
end Qt
set_option maxRecDepth 100000
set_option maxHeartbeats 4000000
/-! The law's body: rows of a table. -/
namespace Qt
open PySem PySem.Spec PyProof.Rows L2 Evl Qd Qe Qs Qn Qw
open LamX (ExtN TabS Tabs CodeO)
open C8 (Cal pe_c)
theorem r2c {W : Wd} {K : PySem.W.Frag} {as bs : List PyData} (h1 : as.length ≤ 3) (h2 : bs.length ≤ 3) : R2D W K (rCatA K) (.tuple as) (.tuple bs) (.tuple (as ++ bs)) := r2_catT' (by omega)
theorem okc {as bs : List PyData} (h : okS2 (.tuple as)) (h2 : okS2 (.tuple bs)) (l1 : as.length ≤ 3) (l2 : bs.length ≤ 3) : okS2 (.tuple (as ++ bs)) := ok_app h h2 (by omega)
theorem one3 {x : PyData} : [x].length ≤ 3 := by show 1 ≤ 3; decide
section
variable {P : Program} {w : World} {K : PySem.W.Frag} {mg : Str → Option Value} {base : Heap} {BS BT SE ftw ftd cL P' gC : Addr} {fdC : FuncData} {f : Addr} {A : Around} {outer : List Env} {s : Shared} {H0 : Hp} {E : XK}
variable (C : LawC P w K mg base BS BT SE ftw ftd cL P' gC fdC) (hr : Room 10 (A.deeper (envOfC "law" (defScope s_law) s.heap.objs.size f (.ref cL))))
include C hr in
/-- the values tried as rows -/
theorem p_E3 : ∃ t, PS (LX P w K mg base f cL A outer s H0 E) (nth (forB (nth lap 6)) 2) t ∧ ∀ (W : Wd) (b : Nat) (σ : L2.St) (H : Hp) (D : Ends) (tz : TS) (v v12 v14 : V) (d : PyData) (x : Str) (n : Int) (rs : List PyData), W.I b H → σ.length = 18 → σ[3]? = some (some v) → Sch K (W.m H) v d →
    σ[12]? = some (some (.str x)) → σ[13]? = some (some (.int n)) → .tuple [.str x, .int n] ∈ pairsOf d → σ[14]? = some (some v14) → Rp K (W.m H) v14 (.tuple rs) → (∀ e ∈ rs, okS2 e) → rs.length ≤ 3 → okS2 (.str x) →
    (∀ σ' H', W.I b H' → W.R H H' → Fr [5, 7] σ σ' → tz D σ' H') → tSeq t tz D σ H := by
  have hu := hu_room hr
  obtain ⟨T, TB, FC, mC, e_BadSchema, e_BadTable, e_ShowError, m_table_words, m_table_width, hm0, kw1, kw2, exS, exT, exmS, exmT, kSS, kST, kSE, kTT, kTS, kTE, kTV, c__law_begun, c__law_schema, c__law_words, c__law_pick, c__law_kept, c__law_is_truth, c__law_is_word, c_is_word, k_is_word, c__law_odd, c__law_bent, c__law_is_schema, c_is_schema, k_is_schema, c__law_same, c_table_words, k_table_words, c_table_width, k_table_width, c_is_row_of, k_is_row_of⟩ := id C
  refine ⟨_, (ps_for PassesOwn.never rfl (pi_list (pe_lst (pa_cons (pv 14) (pa_cons (pe_callTy call_list_of (by rfl) T.list boot_list (pa_cons (pv 14) pa_nil)) (pa_cons (pe_slice sl_tupA (pv 14) (po_some pe_int) po_none) (pa_cons (pe_op op_catA (pv 14) (pe_tup (pa_cons pe_str pa_nil))) (pa_cons (pe_op op_catA (pe_slice sl_tupA (pv 14) po_none (po_some (pe_un un_neg pe_int))) (pe_tup (pa_cons pe_str pa_nil))) (pa_cons (pe_op op_catA (pe_tup (pa_cons pe_str pa_nil)) (pe_slice sl_tupA (pv 14) (po_some pe_int) po_none)) (pa_cons (pe_op op_catA (pe_slice sl_tupA (pv 14) po_none (po_some (pe_un un_neg pe_int))) (pe_tup (pa_cons pe_int pa_nil))) (pa_cons pe_non (pa_cons (pe_op op_mulS pe_str (pv 13)) (pa_cons (pe_op Qr.op_repA (pe_tup (pa_cons pe_non pa_nil)) (pv 13)) pa_nil)))))))))))) (pg_name (i := 5) sc_law.nd rfl (by first | exact .inl rfl | exact .inr rfl))
    (pss_cons (ps_set (i := 7) sc_law.nd rfl (by first | exact .inl rfl | exact .inr rfl) (pe_and (pe_callB call_isi (by rfl) T.isinstance b_isinstance (pa_cons (pv 5) (pa_cons (pe_ty (by rfl) T.tuple boot_tuple) pa_nil))) (pe_and (pe_cmpR (op_eqU hu) (pe_callB call_len (by rfl) T.len boot_len (pa_cons (pv 5) pa_nil)) (pv 13) rfl) (pe_one (pe_cmpR (op_eqU hu) (pe_lc (own := [("part", 16)]) (g := gName 16) rfl sc_law.nd (pi_tup (pv 5)) (blkOk_by (N := names_law) (sc := defScope s_law) (by decide +kernel)) (fun _ _ _ _ _ => (pg_name (i := 16) sc_law.nd rfl (by first | exact .inl rfl | exact .inr rfl))) (fun _ _ _ _ _ => pts_one (pt_not (pt_val (pe_c c__law_is_word hr (by decide) (by rfl) (pa_cons (pv 16) pa_nil))))) (fun _ _ _ _ _ => pe_int)) (pe_lst pa_nil) rfl)))))
    (pss_one (ps_if (PW.pt (pw_or (pt_not (pt_val (pe_c c__law_is_truth hr (by decide) (by rfl) (pa_cons (pe_cx c_is_row_of hr (by decide) (by rfl) passL (pa_cons (pv 3) (pa_cons (pv 12) (pa_cons (pv 5) pa_nil)))) (pa_cons (pv 7) pa_nil))))) (pw_or1 (pt_cmpR (op_neU hu) (pe_ck (E := C8.E0) k_is_row_of hr (by decide) (by rfl) passL (pk_cons (pv 5) (pk_cons (pv 12) (pk_cons (pv 3) pk_nil)))) (pv 7) rfl)))) (pss_one (ps_ret pe_bl)) pss_nil)))), ?_⟩
  intro W b σ H D tz v v12 v14 d x n rs i0 hl h3 sch h12 h13 hm h14 rv14 okr lr okx k
  obtain ⟨x', n', e, hfx, n1, n3⟩ := sch_pair sch.ok hm
  cases e
  obtain ⟨hw1, hw2⟩ := widI_yes sch.ok hm
  have S : Slots K (W.m H) σ (((List.replicate 18 none).set 14 (some (.tuple rs))).set 13 (some (.int n))) := slots_add (slots_add (slots_nil hl) h14 rv14) h13 (.int n)
  have okR : okS2 (.tuple rs) := ok_tup okr (by omega)
  have okA : okS2 (.str "A") := ok_strc (by decide +kernel)
  have oka : okS2 (.str "a") := ok_strc (by decide +kernel)
  have okz : okS2 (.str "zzzzzzzzz") := ok_strc (by decide +kernel)
  have lcut : ∀ lo hi, (Qe.cutD rs lo hi).length ≤ 3 := fun lo hi => by
    unfold Qe.cutD
    rw [List.length_take, List.length_drop]
    omega
  have en : (((n.toNat : Nat)) : Int) = n := by omega
  have ne1 : ∀ {ds : List PyData} {σ H}, Qe.EvD W K (tVar 14) σ H (.tuple ds) → Qe.EvD W K (tSl (rSlA K) (tVar 14) tNoPart (tPart (tUn (rU fun i => .int (-i)) (tC (.int 1))))) σ H (.tuple (Qe.cutD ds none (some (-1)))) := fun h => dv_slT h (fun _ => en_none) (fun _ => en_part (ev_un ev_c fun _ _ Q q => ⟨1, rfl, q _ (Ex.refl _)⟩))
  refine f_for (W := W) (K := K) (vs := [5, 7]) (c := 0) (cB := 0) (N := 10) (p := AOk 10) (by decide) (by rw [hl]; decide) (eip_list (pv_lst
    (al_d (ds_var (i := 14) S rfl) okR (al_d (dv_cb (da_cons (ds_var (i := 14) S rfl) da_nil) (ra_list (.inl rfl))) (ok_list okR) (al_d (dv_slT (ds_var (i := 14) S rfl) (fun _ => en_int) (fun _ => en_none)) (ok_cut okR)
    (al_d (dv_op (ds_var (i := 14) S rfl) (dv_tup (da_cons dv_str da_nil) (by simp)) (r2c lr one3)) (okc okR (ok_t1 oka) lr one3)
    (al_d (dv_op (ne1 (ds_var (i := 14) S rfl)) (dv_tup (da_cons dv_str da_nil) (by simp)) (r2c (lcut _ _) one3)) (okc (ok_cut okR) (ok_t1 okA) (lcut _ _) one3)
    (al_d (dv_op (dv_tup (da_cons dv_str da_nil) (by simp)) (dv_slT (ds_var (i := 14) S rfl) (fun _ => en_int) (fun _ => en_none)) (r2c one3 (lcut _ _))) (okc (ok_t1 okz) (ok_cut okR) one3 (lcut _ _))
    (al_d (dv_op (ne1 (ds_var (i := 14) S rfl)) (dv_tup (da_cons dv_int da_nil) (by simp)) (r2c (lcut _ _) one3)) (okc (ok_cut okR) (ok_t1 (ok_int 5)) (lcut _ _) one3)
    (al_d dv_non ok_non
    (al_d (dv_op dv_str (EvD.is (ds_var (i := 13) S rfl) (e := .int ((n.toNat : Nat) : Int)) (by rw [en])) (r2_mulS (z := "a") (n := n.toNat) (by omega) (by decide))) (ok_str (by rw [len_rep]; have : ("a" : Str).length = 1 := rfl; rw [this]; omega) (strOk_rep (by decide +kernel)))
    (al_d (dv_op (dv_tup (da_cons dv_non da_nil) (by simp)) (ds_var (i := 13) S rfl) (r2_rep ⟨n1, n3⟩)) (ok_tup (fun e he => by rw [(List.mem_replicate.mp he).2]; exact ok_non) (by rw [List.length_replicate]; omega)) al_nil)))))))))) (fun ds h => by rw [h.2]; decide)))
    (b := b) i0 (fun es h => by rw [h.2]; decide) (fun es d' v' σ1 H1 bb NX he hd i1 r1 F1 hv rv nx => ?_) (fun σ1 H1 i1 r1 F1 => k σ1 H1 i1 r1 F1)
  have okd := he.1 d' hd
  have sch1 := sch.mono (W.up i0 r1)
  have S1 : Slots K (W.m H1) σ1 (((List.replicate 18 none).set 5 (some d')).set 13 (some (.int n))) := slots_add (slots_add (slots_nil (by rw [F1.1, hl])) hv rv) (F1.at (by decide) h13) (.int n)
  have due : EvD W K (tAndV (tCB (rIsi K) (tCons (tVar 5) (tCons (tC (.ty "tuple")) tNil))) (tAndV (tOp (rEqU K) (tCB (fun xs H Q => ∃ x n, xs = [x] ∧ LenV K x H n ∧ Q (.int n) H) (tCons (tVar 5) tNil)) (tVar 13))
      (tOp (rEqU K) (tLc (iTup K (tVar 5)) (gName 16) (tNot (tB (tCall (spBW K isWordD) [] C8.E0 (tCons (tVar 16) tNil)))) (tC (.int 1)) [16]) (tLst tNil)))) σ1 H1 (.bool (isRowD d' n)) := by
    refine EvD.is (dv_andV (k' := isRowD d' n) (dv_isa (by decide) (ds_var (i := 5) S1 rfl)) fun h => ?_) ?_
    · obtain ⟨ws, rfl⟩ := isA_tup h
      have hs := sm_tup okd.1
      refine EvD.is (dv_andV (k' := ws.all isWordD) (dv_op (dv_cb (da_cons (ds_var (i := 5) S1 rfl) da_nil) ra_lenT) (ds_var (i := 13) S1 rfl) r2_eqI) fun _ => EvD.is (dv_op (ds_lc (W := W) S1 (fun d => !isWordD d) (fun _ => .int 1) (ei_tup (ds_var (i := 5) S1 rfl)) (by omega)
        (fun W' d σ6 H6 hm S6 => dt_not (dt_B (dv_call (da_cons (ds_var (i := 16) S6 rfl) da_nil) (ra_sp ⟨d, rfl, (okd.mem hm).w⟩)))) fun W' d σ6 H6 hm _ S6 => dv_int) (dv_lst da_nil) (r2_eqNil (ones_flat _).1 (by simp [SeqAt.shaped, PyData.canLay0, PyData.depth, (ones_flat _).2.1, (ones_flat _).2.2]))) ?_) rfl
      rw [filter_map_nil]
    · show PyData.bool (isA "tuple" d' && isRowD d' n) = .bool (isRowD d' n)
      cases d' <;> simp [isA, isN, tyName, isRowD]
  refine f_asg i1 due fun v7 H2 i2 r2 rv7 => ?_
  have L1 : σ1.length = 18 := by rw [F1.1, hl]
  have F2 : Fr [5, 7] σ (σ1.set 7 (some v7)) := F1.set (by decide)
  have sch2 := sch1.mono (W.up i1 r2)
  have S2 : Slots K (W.m H2) (σ1.set 7 (some v7)) ((((List.replicate 18 none).set 5 (some d')).set 12 (some (.str x))).set 7 (some (.bool (isRowD d' n)))) :=
    slots_add (slots_add (slots_add (slots_nil (by rw [List.length_set, L1])) (by rw [List.getElem?_set_ne (by decide)]; exact hv) (rv.mono (W.up i1 r2))) (F2.at (by decide) h12) (.str x)) (at_set (by rw [L1]; decide)) rv7
  have hok3 : ok3 [d, .str x, d'] := ⟨d, .str x, d', rfl, sch.sm.1, okx.1, okd.1⟩
  have he3 : errST BS BT [d, .str x, d'] = none := errST_ok sch.ok (by rw [hw1]; rfl)
  have eg : PyData.bool (isRowD (d2 [d, .str x, d']) (widI (d0 [d, .str x, d']) (d1 [d, .str x, d']))) = .bool (isRowD d' n) := by
    show PyData.bool (isRowD d' (widI d (.str x))) = _
    rw [hw2]
  refine f_noL (W := W) i2 (EtD.is (dt_or (dt_not (dt_B (dv_call (da_cons (EvD.is (dv_callS (F2.at (by decide) h3) sch2 (da_cons (ds_var (i := 12) S2 rfl) (da_cons (ds_var (i := 5) S2 rfl) da_nil)) hok3 he3) eg) (da_cons (ds_var (i := 7) S2 rfl) da_nil)) (ra_sp ⟨_, _, rfl⟩)))) fun _ =>
    dt_test (dv_op (EvD.is (dv_kS3 (F2.at (by decide) h3) sch2 (ds_var (i := 5) S2 rfl) (ds_var (i := 12) S2 rfl) hok3 he3) eg) (ds_var (i := 7) S2 rfl) r2_neB)) (by simp [boolD, d0, d1])) fun H3 i3 r3 => nx _ H3 i3 (W.trans r2 r3) F2
end
end Qt
set_option maxRecDepth 100000
set_option maxHeartbeats 4000000
/-! The law's body: the tables. -/
namespace Qt
open PySem PySem.Spec PyProof.Rows L2 Evl Qd Qe Qs Qn Qw
open LamX (ExtN TabS Tabs CodeO)
open C8 (Cal pe_c)
section
variable {P : Program} {w : World} {K : PySem.W.Frag} {mg : Str → Option Value} {base : Heap} {BS BT SE ftw ftd cL P' gC : Addr} {fdC : FuncData} {f : Addr} {A : Around} {outer : List Env} {s : Shared} {H0 : Hp} {E : XK}
variable (C : LawC P w K mg base BS BT SE ftw ftd cL P' gC fdC) (hr : Room 10 (A.deeper (envOfC "law" (defScope s_law) s.heap.objs.size f (.ref cL))))
include C hr in
theorem p_E1 : ∃ t, PS (LX P w K mg base f cL A outer s H0 E) (nth (forB (nth lap 6)) 0) t ∧ ∀ (W : Wd) (b : Nat) (σ : L2.St) (H : Hp) (D : Ends) (tz : TS) (v : V) (d : PyData) (x : Str) (n : Int), W.I b H → σ.length = 18 → σ[3]? = some (some v) → Sch K (W.m H) v d →
    σ[12]? = some (some (.str x)) → σ[13]? = some (some (.int n)) → .tuple [.str x, .int n] ∈ pairsOf d → okS2 (.str x) →
    (∀ H', W.I b H' → W.R H H' → tz D σ H') → tSeq t tz D σ H := by
  have hu := hu_room hr
  obtain ⟨T, TB, FC, mC, e_BadSchema, e_BadTable, e_ShowError, m_table_words, m_table_width, hm0, kw1, kw2, exS, exT, exmS, exmT, kSS, kST, kSE, kTT, kTS, kTE, kTV, c__law_begun, c__law_schema, c__law_words, c__law_pick, c__law_kept, c__law_is_truth, c__law_is_word, c_is_word, k_is_word, c__law_odd, c__law_bent, c__law_is_schema, c_is_schema, k_is_schema, c__law_same, c_table_words, k_table_words, c_table_width, k_table_width, c_is_row_of, k_is_row_of⟩ := id C
  refine ⟨_, (ps_if (PW.pt (pw_or (pt_not (pt_val (pe_c c__law_same hr (by decide) (by rfl) (pa_cons (pe_cx c_table_width hr (by decide) (by rfl) passL (pa_cons (pv 3) (pa_cons (pv 12) pa_nil))) (pa_cons (pv 13) pa_nil))))) (pw_or1 (pt_cmpR (op_neU hu) (pe_ck (E := C8.E0) k_table_width hr (by decide) (by rfl) passL (pk_cons (pv 12) (pk_cons (pv 3) pk_nil))) (pv 13) rfl)))) (pss_one (ps_ret pe_bl)) pss_nil), ?_⟩
  intro W b σ H D tz v d x n i0 hl h3 sch h12 h13 hm okx k
  obtain ⟨hw1, hw2⟩ := widI_yes sch.ok hm
  have S : Slots K (W.m H) σ (((List.replicate 18 none).set 12 (some (.str x))).set 13 (some (.int n))) := slots_add (slots_add (slots_nil hl) h12 (.str x)) h13 (.int n)
  have hok2 : ok2 [d, .str x] := ⟨d, .str x, rfl, sch.sm.1, okx.1⟩
  have he2 : errST BS BT [d, .str x] = none := errST_ok sch.ok (by rw [hw1]; rfl)
  have eg : PyData.int (widI (d0 [d, .str x]) (d1 [d, .str x])) = .int n := by
    show PyData.int (widI d (.str x)) = _
    rw [hw2]
  exact f_no i0 (EtD.is (dt_or (dt_not (dt_B (dv_call (da_cons (EvD.is (dv_callS h3 sch (da_cons (ds_var (i := 12) S rfl) da_nil) hok2 he2) eg) (da_cons (ds_var (i := 13) S rfl) da_nil)) (ra_sp same_int)))) fun _ =>
    dt_test (dv_op (EvD.is (dv_kS2 h3 sch (ds_var (i := 12) S rfl) hok2 he2) eg) (ds_var (i := 13) S rfl) r2_neI)) (by simp)) fun H3 i3 r3 => k H3 i3 r3
include C hr in
theorem p_E2 : ∃ t, PS (LX P w K mg base f cL A outer s H0 E) (nth (forB (nth lap 6)) 1) t ∧ ∀ (W : Wd) (a : At) (b : Nat) (σ : L2.St) (H : Hp) (D : Ends) (tz : TS) (wd : Str) (n : Int), Ab a W → W.I (b + 3) H → σ.length = 18 → σ[1]? = some (some (.ref a.s)) → σ[4]? = some (some (.str wd)) → isWordS wd = true →
    σ[13]? = some (some (.int n)) → 1 ≤ n → n ≤ 3 →
    (∀ v' rs H', W.I b H' → W.R H H' → Rp K (W.m H') v' (.tuple rs) → (∀ e ∈ rs, okS2 e) → rs.length ≤ 3 → tz D (σ.set 14 (some v')) H') → tSeq t tz D σ H := by
  have hu := hu_room hr
  obtain ⟨T, TB, FC, mC, e_BadSchema, e_BadTable, e_ShowError, m_table_words, m_table_width, hm0, kw1, kw2, exS, exT, exmS, exmT, kSS, kST, kSE, kTT, kTS, kTE, kTV, c__law_begun, c__law_schema, c__law_words, c__law_pick, c__law_kept, c__law_is_truth, c__law_is_word, c_is_word, k_is_word, c__law_odd, c__law_bent, c__law_is_schema, c_is_schema, k_is_schema, c__law_same, c_table_words, k_table_words, c_table_width, k_table_width, c_is_row_of, k_is_row_of⟩ := id C
  refine ⟨_, (ps_set (i := 14) sc_law.nd rfl (by first | exact .inl rfl | exact .inr rfl) (pe_callTy call_tuple_of (by rfl) T.tuple boot_tuple (pa_cons (pe_lc (own := [("place", 15)]) (g := gName 15) (tt := tYes) rfl sc_law.nd (pi_range1 (by rfl) T.range (pa_cons (pv 13) pa_nil)) (blkOk_by (N := names_law) (sc := defScope s_law) (by decide +kernel)) (fun _ _ _ _ _ => (pg_name (i := 15) sc_law.nd rfl (by first | exact .inl rfl | exact .inr rfl))) (fun _ _ _ _ _ => pts_nil) (fun _ _ _ _ _ => (pe_c c__law_pick hr (by decide) (by rfl) (pa_cons (pv 1) (pa_cons (pe_lst (pa_cons pe_str (pa_cons pe_str (pa_cons (pv 4) (pa_cons pe_str pa_nil))))) pa_nil))))) pa_nil))), ?_⟩
  intro W a b σ H D tz wd n ab i0 hl h1 h4 hw h13 n1 n3 k
  obtain ⟨l1, l2⟩ := word_len hw
  have okw : okS2 (.str wd) := ok_str (by omega) (word_ok hw)
  have S : Slots K (W.m H) σ (((List.replicate 18 none).set 4 (some (.str wd))).set 13 (some (.int n))) := slots_add (slots_add (slots_nil hl) h4 (.str wd)) h13 (.int n)
  have en : (((n.toNat : Nat)) : Int) = n := by omega
  have hlc := ps_lcD (W := W) (K := K) (n := 3) (c1 := 0) (c2 := 1) (j := 15) (q := fun _ r => okS2 r) S
    (eip_range (p := fun m => m ≤ 3) (EaD.toP (da_cons (EvD.is (ds_var (i := 13) S rfl) (e := .int ((n.toNat : Nat) : Int)) (by rw [en])) da_nil) ⟨n.toNat, rfl, by omega⟩) (fun m hm => by omega)) (fun es ⟨m, e, hm⟩ => by rw [e]; show ((List.range m).map fun (i : Nat) => PyData.int (i : Int)).length ≤ 3; rw [List.length_map, List.length_range]; exact hm) (by decide)
    (fun D es d σ2 H' nA he hd S' hσ => EvP.less (c := 0 + 1) (by decide) (pv_drawA (W := W.hide D) (K := K) (E := C8.E0) (i := 1) (ok := okPick) (pp := fun ds d => d ∈ itemsOf (d0 ds)) (ps := fun ds => ds = [.list [.str "a", .str "b", .str wd, .str "is"]]) (ab.hide fun z => nA (ab.sub D z)) (by rw [hσ 1 (by decide)]; exact h1)
      (EaD.toP (da_cons (dv_lst (da_cons dv_str (da_cons dv_str (da_cons (ds_var (i := 4) S' rfl) (da_cons dv_str da_nil)))) (by simp)) da_nil) rfl) (fun ds hds => by
        subst hds
        refine ⟨⟨_, rfl, by simp, by simp⟩, fun d' hm => ?_⟩
        have hm : d' ∈ [PyData.str "a", .str "b", .str wd, .str "is"] := hm
        simp only [List.mem_cons, List.not_mem_nil, or_false] at hm
        rcases hm with rfl | rfl | rfl | rfl
        · exact ok_strc (by decide +kernel)
        · exact ok_strc (by decide +kernel)
        · exact okw
        · exact ok_strc (by decide +kernel))))
  refine f_asgP (W := W) (K := K) (c := 3) (q := fun d => ∃ rs, d = .tuple rs ∧ (∀ e ∈ rs, okS2 e) ∧ rs.length ≤ 3) i0 (EvP.less (c := 0 + 3 * 1 + 0) (by decide) (pv_cb (s := fun d => ∃ rs, d = .tuple rs ∧ (∀ e ∈ rs, okS2 e) ∧ rs.length ≤ 3) (ap_cons hlc ap_nil) (fun ds hds => by
      obtain ⟨d, t, rfl, ⟨es, rs, rfl, ⟨m, e, hm⟩, hl, hq⟩, rfl⟩ := hds
      have le : es.length = m := by
        rw [e]
        show ((List.range m).map fun (i : Nat) => PyData.int (i : Int)).length = m
        rw [List.length_map, List.length_range]
      refine ⟨_, ra_tuple (.inr rfl), rs, rfl, fun r hr => ?_, by omega⟩
      obtain ⟨i, hi, e⟩ := List.getElem_of_mem hr
      exact hq i es[i] r (List.getElem?_eq_getElem (by omega)) (by rw [List.getElem?_eq_getElem hi, e])))) fun v' d' H1 ⟨rs, e, h2, h3⟩ i1 r1 rv => ?_
  subst e
  exact k v' rs H1 i1 r1 rv h2 h3
include C hr in
theorem p_E : ∃ t, PS (LX P w K mg base f cL A outer s H0 E) (nth lap 6) t ∧ ∀ (a : At) (q : Str) (b : Nat) (σ : L2.St) (H : Hp) (D : Ends) (tz : TS) (v : V) (d : PyData) (wd : Str), LJ a P' q (b + 9) H → σ.length = 18 → σ[1]? = some (some (.ref a.s)) → σ[3]? = some (some v) → Sch K ((lawW a P').m H) v d →
    σ[4]? = some (some (.str wd)) → isWordS wd = true →
    (∀ σ' H', LJ a P' q b H' → EN a P' H H' → Fr [5, 7, 12, 13, 14] σ σ' → tz D σ' H') → tSeq t tz D σ H := by
  have hu := hu_room hr
  obtain ⟨t1, p1, q1⟩ := p_E1 C (H0 := H0) (E := E) (outer := outer) hr
  obtain ⟨t2, p2, q2⟩ := p_E2 C (H0 := H0) (E := E) (outer := outer) hr
  obtain ⟨t3, p3, q3⟩ := p_E3 C (H0 := H0) (E := E) (outer := outer) hr
  obtain ⟨T, TB, FC, mC, e_BadSchema, e_BadTable, e_ShowError, m_table_words, m_table_width, hm0, kw1, kw2, exS, exT, exmS, exmT, kSS, kST, kSE, kTT, kTS, kTE, kTV, c__law_begun, c__law_schema, c__law_words, c__law_pick, c__law_kept, c__law_is_truth, c__law_is_word, c_is_word, k_is_word, c__law_odd, c__law_bent, c__law_is_schema, c_is_schema, k_is_schema, c__law_same, c_table_words, k_table_words, c_table_width, k_table_width, c_is_row_of, k_is_row_of⟩ := id C
  refine ⟨_, ps_for PassesOwn.never rfl (pi_tup (pe_ix ix_seq (pv 3) pe_int (fun _ _ => rfl))) (pg_tup rfl (pgs_cons (pg_name (i := 12) sc_law.nd rfl (by first | exact .inl rfl | exact .inr rfl)) (pgs_cons (pg_name (i := 13) sc_law.nd rfl (by first | exact .inl rfl | exact .inr rfl)) pgs_nil))) (pss_cons p1 (pss_cons p2 (pss_one p3))), ?_⟩
  intro a q b σ H D tz v d wd j hl h1 h3 sch h4 hw k
  have ab : Ab a (lawW a P') := ab_law j.2.2
  obtain ⟨ps, ns, rfl, hp, hnd, l1, l3⟩ := sch_parts sch.ok
  have S : Slots K ((lawW a P').m H) σ ((List.replicate 18 none).set 3 (some (.tuple [.str "schema", .tuple ps, .tuple ns]))) := slots_add (slots_nil hl) h3 sch.rp
  refine f_forPr (W := lawW a P') (K := K) (vs := [5, 7, 12, 13, 14]) (c := 0) (cB := 3) (N := 3) (p := fun es => es = ps) (by decide) (by decide) (by decide) (by rw [hl]; decide) (by rw [hl]; decide) (EiD.toP (ei_tup (dv_op (ds_var (i := 3) S rfl) dv_int (r2_ixT rfl))) rfl) j.1 (fun es h => by rw [h]; exact l3)
    (fun es h d hd => by
      subst h
      obtain ⟨x, n, rfl⟩ := pair_sm hp hd
      exact ⟨_, _, rfl⟩)
    (fun es e1 e2 v1 v2 σ1 H1 bb NX he hd i1 r1 F1 hv1 hv2 rv1 rv2 nx => ?_) (fun σ1 H1 i1 r1 F1 => k σ1 H1 (j.step i1 r1) (EN.of j r1) F1)
  subst he
  obtain ⟨x, n, e, hfx, n1, n3⟩ := sch_pair sch.ok (p := .tuple [e1, e2]) hd
  cases e
  rw [rp_str rv1] at hv1
  rw [rp_int rv2] at hv2
  have sch1 := sch.mono ((lawW a P').up j.1 r1)
  have hwx : isWordS x = true := (Bool.and_eq_true_iff.mp hfx).1
  obtain ⟨lx1, lx2⟩ := word_len hwx
  have okx : okS2 (.str x) := ok_str (by omega) (word_ok hwx)
  have L1 : σ1.length = 18 := by rw [F1.1, hl]
  refine q1 (lawW a P') (bb + 3) σ1 H1 _ _ v _ x n i1 L1 (F1.at (by decide) h3) sch1 hv1 hv2 hd okx fun H2 i2 r2 => ?_
  refine q2 (lawW a P') a bb σ1 H2 _ _ wd n ab i2 L1 (F1.at (by decide) h1) (F1.at (by decide) h4) hw hv2 n1 n3 fun v14 rs H3 i3 r3 rv14 okr lr => ?_
  have r13 := (lawW a P').trans r2 r3
  have hne : ∀ i v, i ≠ 14 → σ1[i]? = some (some v) → (σ1.set 14 (some v14))[i]? = some (some v) := fun i v ne h => by rw [List.getElem?_set_ne (Ne.symm ne)]; exact h
  refine q3 (lawW a P') bb (σ1.set 14 (some v14)) H3 { D with nx := NX, ct := NX, bk := tz D } tNext v (.str x) v14 _ x n rs i3 (by rw [List.length_set, L1]) (hne 3 _ (by decide) (F1.at (by decide) h3)) (sch1.mono ((lawW a P').up i1 r13)) (hne 12 _ (by decide) hv1) (hne 13 _ (by decide) hv2) hd (at_set (by rw [L1]; decide)) rv14 okr lr okx fun σ4 H4 i4 r4 F4 => ?_
  exact nx σ4 H4 i4 ((lawW a P').trans r13 r4) ((F1.set (by decide)).trans (F4.le (by decide)))
end
end Qt
set_option maxRecDepth 100000
set_option maxHeartbeats 4000000
/-! The law's body: what raises. -/
namespace Qt
open PySem PySem.Spec PyProof.Rows L2 Evl Qd Qe Qs Qn Qw
open LamX (ExtN TabS Tabs CodeO)
open C8 (Cal pe_c)
open Ql (LamO)
open Qx (ExH rIsH call_isH)
section
variable {K : PySem.W.Frag} {a : At} {P' : Addr} {q : Str} {b : Nat} {H H' : Hp} {σ : L2.St}
theorem LJ.ex (j : LJ a P' q b H) (e : Ex H H') : LJ a P' q b H' := j.ext (ExtN.of e) (j.2.1.ext e)
theorem LJ.en (j : LJ a P' q b H) (e : ExtN H H') : EN a P' H H' := hidN e
theorem ext_no {h : Heap → Prop} : ∀ ps, HO.ext h ≠ .tbl ps := fun ps z => by cases z
theorem isH {i : Nat} {p CC : Addr} {c : V} {cv : Value} {bb : Bool} (h9 : σ[i]? = some (some (.ref p))) (hp : H p = some (ExH (.ref CC) none p)) (ex : ExcC K CC) (hc : ∀ u, RelV c u → u = cv) (hk : PySem.W.kitOne K (.ref CC) cv = some bb) :
    Ev (tCB (rIsH K) (tCons (tVar i) (tCons (tC c) tNil))) σ H (.bl bb) := ev_cb (ea_cons (ev_var h9) (ea_cons ev_c ea_nil)) fun H1 e Q q => ⟨p, CC, c, cv, bb, rfl, e _ _ hp, ex, hc, hk, q H1 (Ex.refl _)⟩
/-- a call raises, all stays -/
theorem x_runE {W : Wd} {CC : Addr} {vs : List V} {Q : VK} {E : XK} {pre : List V → Hp → List PyData → Prop} {ok : List PyData → Prop} {err : List PyData → Option Addr} {g : List PyData → PyData} {ds : List PyData} (i2 : W.I b H) (rps : Rps K (W.m H) vs ds) (hok : ok ds) (hp : pre vs (W.m H) ds) (he : err ds = some CC)
    (k : ∀ H', Ex H H' → E (.ref CC) none H') : spX K pre ok err g vs H Q E :=
  ⟨W.A, ds, fun a ha => W.alive i2 ha, rps, hok, hp, fun z => (by rw [he] at z; cases z), fun C' z H' e => by
    rw [he] at z
    cases z
    exact k H' e⟩
theorem for_split {te : TE} {g : TG} {tu tz : TS} {D : Ends} (h : te σ H fun v H1 => tSeq (tFor (iList K (tC v)) g tu) tz D σ H1) : tSeq (tFor (iList K te) g tu) tz D σ H := h
theorem q_lastN {t : TS} {D : Ends} (h : tSeq t tNext D σ H) : t D σ H := h
theorem lst3 {x : V} {t1 t2 : TE} {Q : VK} (h : t1 σ H fun x1 H1 => t2 σ H1 fun x2 H2 => tLst (tCons (tC x) (tCons (tC x1) (tCons (tC x2) tNil))) σ H2 Q) : tLst (tCons (tC x) (tCons t1 (tCons t2 tNil))) σ H Q := h
theorem lst2 {x : V} {t1 : TE} {Q : VK} (h : t1 σ H fun x1 H1 => tLst (tCons (tC x) (tCons (tC x1) tNil)) σ H1 Q) : tLst (tCons (tC x) (tCons t1 tNil)) σ H Q := h
end
theorem errS_no {CS : Addr} {d : PyData} (h : schemaOk d = false) : errS CS [d] = some CS := by
  show (if schemaOk d = true then none else some CS) = some CS
  rw [h]; rfl
theorem errST_no {CS CT : Addr} {d t : PyData} {ds : List PyData} (h : schemaOk d = false) : errST CS CT (d :: t :: ds) = some CS := by
  show (if schemaOk d = true then (if (widD d t).isSome = true then none else some CT) else some CS) = some CS
  rw [h]; rfl
theorem errST_noT {CS CT : Addr} {d t : PyData} {ds : List PyData} (h : schemaOk d = true) (hw : widD d t = none) : errST CS CT (d :: t :: ds) = some CT := by
  show (if schemaOk d = true then (if (widD d t).isSome = true then none else some CT) else some CS) = some CT
  rw [h, hw]; rfl
/-- a lambda of the text stands in the heap -/
def LamAt (lam : Expr) (H : Hp) (x : V) : Prop := ∃ f c, x = .ref f ∧ H f = some (LamO qL (lamP lam) (lamB lam) (lamS lam) f c) ∧ H c = some (CodeO c qL)
theorem LamAt.ext {lam : Expr} {H H' : Hp} {x : V} (e : ExtN H H') (h : LamAt lam H x) : LamAt lam H' x := by
  obtain ⟨f, c, h1, h2, h3⟩ := h
  exact ⟨f, c, h1, e _ _ h2 (fun ps z => by cases z), e _ _ h3 (fun ps z => by cases z)⟩
def Work1 (ftw : Addr) (H : Hp) (x : V) : Prop := x = .ref ftw ∨ LamAt lam1 H x ∨ LamAt lam2 H x
theorem Work1.ext {ftw : Addr} {H H' : Hp} {x : V} (e : ExtN H H') : Work1 ftw H x → Work1 ftw H' x
  | .inl h => .inl h
  | .inr (.inl h) => .inr (.inl (h.ext e))
  | .inr (.inr h) => .inr (.inr (h.ext e))
def Work2 (ftd : Addr) (H : Hp) (x : V) : Prop := x = .ref ftd ∨ LamAt lam3 H x
theorem Work2.ext {ftd : Addr} {H H' : Hp} {x : V} (e : ExtN H H') : Work2 ftd H x → Work2 ftd H' x
  | .inl h => .inl h
  | .inr h => .inr (h.ext e)
section
variable {P : Program} {w : World} {K : PySem.W.Frag} {mg : Str → Option Value} {base : Heap} {BS BT SE ftw ftd cL P' gC : Addr} {fdC : FuncData} {f : Addr} {A : Around} {outer : List Env} {s : Shared} {H0 : Hp} {E : XK}
variable (C : LawC P w K mg base BS BT SE ftw ftd cL P' gC fdC) (hr : Room 10 (A.deeper (envOfC "law" (defScope s_law) s.heap.objs.size f (.ref cL))))
include C hr in
theorem p_C20 : ∃ t, PS (LX P w K mg base f cL A outer s H0 E) (nth (forB (nth (forB (nth lap 3)) 2)) 0) t ∧ ∀ (a : At) (b : Nat) (σ : L2.St) (H : Hp) (D : Ends) (tz : TS) (v5 x8 : V) (d5 : PyData), LJ a P' qL b H → σ[5]? = some (some v5) → Rp K ((lawW a P').m H) v5 d5 → sm d5 = true → σ[7]? = some (some (.bl (schemaOk d5))) →
    σ[8]? = some (some x8) → Work1 ftw H x8 →
    (∀ v9 H', LJ a P' qL b H' → ExtN H H' → (schemaOk d5 = false → ∃ p, v9 = .ref p ∧ H' p = some (ExH (.ref BS) none p)) → tz D (σ.set 9 (some v9)) H') → tSeq t tz D σ H := by
  have hu := hu_room hr
  obtain ⟨T, TB, FC, mC, e_BadSchema, e_BadTable, e_ShowError, m_table_words, m_table_width, hm0, kw1, kw2, exS, exT, exmS, exmT, kSS, kST, kSE, kTT, kTS, kTE, kTV, c__law_begun, c__law_schema, c__law_words, c__law_pick, c__law_kept, c__law_is_truth, c__law_is_word, c_is_word, k_is_word, c__law_odd, c__law_bent, c__law_is_schema, c_is_schema, k_is_schema, c__law_same, c_table_words, k_table_words, c_table_width, k_table_width, c_is_row_of, k_is_row_of⟩ := id C
  obtain ⟨ocC, odC, kVC, docC, pmC, anC, cdC, ctC, oslC, eC, lkC, hcC⟩ := FC.ex
  have hbC := Fun.binds FC (ps := ["action"]) fun _ _ _ _ _ _ us hl => match us, hl with | [_], _ => rfl
  have kC := FC.kp
  subst eC
  have huT : ∀ p ∈ [(P', qL)], p.1 = P' → p.2 = qL := fun p hp _ => by rw [List.mem_singleton.mp hp]
  refine ⟨_, (ps_set (i := 9) sc_law.nd rfl (by first | exact .inl rfl | exact .inr rfl) (pe_ifExp (pt_val (pv 7)) pe_non (LamX.pe_lamcall (t := fun E => Ql.tCallAlt K 8 (alt1 ftw (spTW K BS) (spTWd K BS BT) (spRO K BS BT) E) (tCons (tVar 5) tNil)) (T := [(P', qL)]) (c := cL) (P := P') (by rfl) mC kC lkC hcC hbC sc__law_caught rfl (.inl rfl) (Ql.caught_gives (CS := SE) rfl e_ShowError (by decide) (by decide) rfl rfl rfl (by decide) (by decide) (by decide) (by decide)) TB rfl (List.mem_singleton.mpr rfl) huT (k := 8) hr (LamX.lamS_by (sc := defScope s_law) (by decide +kernel)) rfl (fun _ _ _ _ _ => rfl) (fun A outer s H E f c' hr' => Ql.pe_callAlt (halt1 hr' (passes_call (takes_of rfl rfl rfl rfl) fun _ _ _ _ h => h) m_table_words c_table_words c_table_width c_is_row_of) rfl (.inr (.inr rfl)) (pa_cons (pv 5) pa_nil))))), ?_⟩
  intro a b σ H D tz v5 x8 d5 j h5 rv5 hs5 h7 h8 hw k
  refine ⟨.bl (schemaOk d5), h7, schemaOk d5, rfl, ?_⟩
  cases hd : schemaOk d5 with
  | true => exact k .non H j (ExtN.refl H) fun z => absurd z (by rw [hd]; decide)
  | false =>
    refine j_caught (C := BS) (CS := SE) j exmS (fun H1 j1 e1 EE Q' hE => ?_) fun p H2 j2 e2 hp => k (.ref p) H2 j2 e2 fun _ => ⟨p, rfl, hp⟩
    have rv1 : Rp K ((lawW a P').m H1) v5 d5 := rpN (hidN e1) rv5
    have fin : ∀ H', Ex H1 H' → EE (.ref BS) none H' := fun H' e => hE H' (j1.ex e) (ExtN.of e)
    rcases hw.ext e1 with rfl | ⟨f8, c8, rfl, hf, hc⟩ | ⟨f8, c8, rfl, hf, hc⟩
    · refine ⟨ftw, h8, .inl ⟨kw1, v5, h5, .inl ⟨rfl, ?_⟩⟩⟩
      exact x_runE (W := lawW a P') j1.1 (.cons rv1 .nil) ⟨d5, rfl, hs5⟩ trivial (errS_no hd) fin
    · refine ⟨f8, h8, .inr ⟨qL, lamP lam1, lamB lam1, lamS lam1, c8, hf, v5, h5, hf, .inr (.inl ⟨c8, hf, hc, rfl, v5, rfl, ?_⟩)⟩⟩
      exact x_runE (W := lawW a P') (vs := [v5, .non]) j1.1 (.cons rv1 (.cons .non .nil)) ⟨d5, .none, rfl, hs5, by rw [sm]⟩ (fun z => by rw [show d0 [d5, PyData.none] = d5 from rfl, hd] at z; cases z) (errST_no hd) fin
    · refine ⟨f8, h8, .inr ⟨qL, lamP lam2, lamB lam2, lamS lam2, c8, hf, v5, h5, hf, .inr (.inr ⟨c8, hf, hc, rfl, v5, rfl, ?_⟩)⟩⟩
      exact x_runE (W := lawW a P') (vs := [v5, .non, .non]) j1.1 (.cons rv1 (.cons .non (.cons .non .nil))) ⟨d5, .none, .none, rfl, hs5, by rw [sm], by rw [sm]⟩ (fun z => by rw [show d0 [d5, PyData.none, .none] = d5 from rfl, hd] at z; cases z) (errST_no hd) fin
include C hr in
theorem p_C21 : ∃ t, PS (LX P w K mg base f cL A outer s H0 E) (nth (forB (nth (forB (nth lap 3)) 2)) 1) t ∧ ∀ (σ : L2.St) (H : Hp) (D : Ends) (tz : TS) (v9 : V) (dd : Bool), σ[7]? = some (some (.bl dd)) → σ[9]? = some (some v9) → (dd = false → ∃ p, v9 = .ref p ∧ H p = some (ExH (.ref BS) none p)) →
    (∀ H', Ex H H' → tz D σ H') → tSeq t tz D σ H := by
  have hu := hu_room hr
  obtain ⟨T, TB, FC, mC, e_BadSchema, e_BadTable, e_ShowError, m_table_words, m_table_width, hm0, kw1, kw2, exS, exT, exmS, exmT, kSS, kST, kSE, kTT, kTS, kTE, kTV, c__law_begun, c__law_schema, c__law_words, c__law_pick, c__law_kept, c__law_is_truth, c__law_is_word, c_is_word, k_is_word, c__law_odd, c__law_bent, c__law_is_schema, c_is_schema, k_is_schema, c__law_same, c_table_words, k_table_words, c_table_width, k_table_width, c_is_row_of, k_is_row_of⟩ := id C
  refine ⟨_, (ps_if (PW.pt (pw_and (pt_not (pt_val (pv 7))) (pw_and1 (PW.pt (pw_or (pt_not (pt_val (pe_callB call_isH (by rfl) T.isinstance b_isinstance (pa_cons (pv 9) (pa_cons (pe_gref (by rfl) e_BadSchema) pa_nil))))) (pw_or (pt_val (pe_callB call_isH (by rfl) T.isinstance b_isinstance (pa_cons (pv 9) (pa_cons (pe_gref (by rfl) e_BadTable) pa_nil)))) (pw_or1 (pt_not (pt_val (pe_callB call_isH (by rfl) T.isinstance b_isinstance (pa_cons (pv 9) (pa_cons (pe_gref (by rfl) e_ShowError) pa_nil)))))))))))) (pss_one (ps_ret pe_bl)) pss_nil), ?_⟩
  intro σ H D tz v9 dd h7 h9 hp k
  refine q_when (b := false) (et_is (et_and (b := false) (et_not (et_B (ev_var h7))) fun hb => ?_) (by simp)) (fun z => by cases z) fun _ H1 e1 => k H1 e1
  rw [Bool.not_eq_true'] at hb
  obtain ⟨p, rfl, hp2⟩ := hp hb
  exact et_is (et_or (et_not (et_B (isH h9 hp2 exS (fun _ h => h) kSS))) fun _ => et_or (et_B (isH h9 hp2 exS (fun _ h => h) kST)) fun _ => et_not (et_B (isH h9 hp2 exS (fun _ h => h) kSE))) rfl
include C hr in
theorem p_C2 : ∃ t, PS (LX P w K mg base f cL A outer s H0 E) (nth (forB (nth lap 3)) 2) t ∧ ∀ (a : At) (b : Nat) (σ : L2.St) (H : Hp) (D : Ends) (tz : TS) (v5 : V) (d5 : PyData), LJ a P' qL b H → σ.length = 18 → σ[5]? = some (some v5) → Rp K ((lawW a P').m H) v5 d5 → sm d5 = true → σ[7]? = some (some (.bl (schemaOk d5))) →
    (∀ σ' H', LJ a P' qL b H' → ExtN H H' → Fr [8, 9] σ σ' → tz D σ' H') → tSeq t tz D σ H := by
  have hu := hu_room hr
  obtain ⟨t1, p1, q1⟩ := p_C20 C (H0 := H0) (E := E) (outer := outer) hr
  obtain ⟨t2, p2, q2⟩ := p_C21 C (H0 := H0) (E := E) (outer := outer) hr
  obtain ⟨T, TB, FC, mC, e_BadSchema, e_BadTable, e_ShowError, m_table_words, m_table_width, hm0, kw1, kw2, exS, exT, exmS, exmT, kSS, kST, kSE, kTT, kTS, kTE, kTV, c__law_begun, c__law_schema, c__law_words, c__law_pick, c__law_kept, c__law_is_truth, c__law_is_word, c_is_word, k_is_word, c__law_odd, c__law_bent, c__law_is_schema, c_is_schema, k_is_schema, c__law_same, c_table_words, k_table_words, c_table_width, k_table_width, c_is_row_of, k_is_row_of⟩ := id C
  obtain ⟨ocC, odC, kVC, docC, pmC, anC, cdC, ctC, oslC, eC, lkC, hcC⟩ := FC.ex
  have hbC := Fun.binds FC (ps := ["action"]) fun _ _ _ _ _ _ us hl => match us, hl with | [_], _ => rfl
  have kC := FC.kp
  subst eC
  have huT : ∀ p ∈ [(P', qL)], p.1 = P' → p.2 = qL := fun p hp _ => by rw [List.mem_singleton.mp hp]
  refine ⟨_, ps_for PassesOwn.never rfl (pi_list (pe_lst (pa_cons (pe_gref (by rfl) m_table_words) (pa_cons (Ql.pe_lam (T := [(P', qL)]) (c := cL) (P := P') TB rfl (List.mem_singleton.mpr rfl) huT rfl rfl rfl (hfree_of (by decide +kernel))) (pa_cons (Ql.pe_lam (T := [(P', qL)]) (c := cL) (P := P') TB rfl (List.mem_singleton.mpr rfl) huT rfl rfl rfl (hfree_of (by decide +kernel))) pa_nil))))) (pg_name (i := 8) sc_law.nd rfl (by first | exact .inl rfl | exact .inr rfl)) (pss_cons p1 (pss_one p2)), ?_⟩
  intro a b σ H D tz v5 d5 j hl h5 rv5 hs5 h7 k
  refine for_split (lst3 ?_)
  refine j_lam j fun f1 c1 H1 j1 e1 n1 hf1 hc1 => ?_
  refine j_lam j1 fun f2 c2 H2 j2 e2 n2 hf2 hc2 => ⟨sz_of (by simp), fun p hp => ?_⟩
  have e3 : Ex H2 (upd H2 p (.lst [.ref ftw, .ref f1, .ref f2])) := Ex.new hp
  have La1 : LamAt lam1 H1 (.ref f1) := ⟨f1, c1, rfl, hf1, hc1⟩
  have La2 : LamAt lam2 H2 (.ref f2) := ⟨f2, c2, rfl, hf2, hc2⟩
  have e03 : ExtN H (upd H2 p (.lst [.ref ftw, .ref f1, .ref f2])) := e1.trans (e2.trans (ExtN.of e3))
  have works : ∀ (i : Nat) (x : V), ([V.ref ftw, .ref f1, .ref f2] : List V)[i]? = some x → Work1 ftw (upd H2 p (.lst [.ref ftw, .ref f1, .ref f2])) x := fun i x hx => by
    rcases i with _ | _ | _ | i
    · cases hx; exact .inl rfl
    · cases hx; exact .inr (.inl ((La1.ext e2).ext (ExtN.of e3)))
    · cases hx; exact .inr (.inr (La2.ext (ExtN.of e3)))
    · simp at hx
  refine Evl.q_forL (K := K) (a := p) (xs := [.ref ftw, .ref f1, .ref f2]) ev_c (sq_of upd_same) (fun _ σ' H' => LJ a P' qL b H' ∧ ExtN (upd H2 p (.lst [.ref ftw, .ref f1, .ref f2])) H' ∧ Fr [8, 9] σ σ') (fun H4 e4 => ⟨(j2.ex e3).ex e4, ExtN.of e4, Fr.refl⟩)
    (fun i σ' H' _ h => sq_of (h.2.1 _ _ upd_same fun ps z => by cases z)) (fun i x σ' H' hx ⟨j4, e4, F4⟩ => ?_) fun σ' H' ⟨j4, e4, F4⟩ => k σ' H' j4 (e03.trans e4) F4
  have F5 : Fr [8, 9] σ (σ'.set 8 (some x)) := F4.set (by decide)
  have L' : σ'.length = 18 := by rw [F4.1, hl]
  have e04 := e03.trans e4
  refine q1 a b (σ'.set 8 (some x)) H' _ _ v5 x d5 j4 (F5.at (by decide) h5) (rpN (hidN e04) rv5) hs5 (F5.at (by decide) h7) (at_set (by rw [L']; decide)) ((works i x hx).ext e4) fun v9 H5 j5 e5 hv9 => ?_
  have F6 : Fr [8, 9] σ ((σ'.set 8 (some x)).set 9 (some v9)) := F5.set (by decide)
  refine q_lastN (q2 ((σ'.set 8 (some x)).set 9 (some v9)) H5 _ tNext v9 (schemaOk d5) (F6.at (by decide) h7) (at_set (by rw [List.length_set, L']; decide)) hv9 fun H6 e6 => ?_)
  exact ⟨j5.ex e6, e4.trans (e5.trans (ExtN.of e6)), F6⟩
end
end Qt
set_option maxRecDepth 100000
set_option maxHeartbeats 4000000
/-! The law's body: the schemas tried. -/
namespace Qt
open PySem PySem.Spec PyProof.Rows L2 Evl Qd Qe Qs Qn Qw
open LamX (ExtN TabS Tabs CodeO)
open C8 (Cal pe_c)
open Ql (LamO)
open Qx (ExH rIsH call_isH)
theorem ps_lcE {W : Wd} {K : PySem.W.Frag} {σ : L2.St} {H : Hp} {c1 c2 : Nat} {te : TE} {wi : TI} {l : List (Option PyData)} {j : Nat} {p : List PyData → Prop} {q : PyData → PyData → Prop} {n : Nat} (S : Slots K (W.m H) σ l) (hi : EiP W K c1 wi σ H p) (hn : ∀ es, p es → es.length ≤ n) (hn2 : n ≤ 50000)
    (he : ∀ D es d σ2 H', ¬ W.A D → p es → d ∈ es → Ex (W.m H) ((W.hide D).m H') → (∀ i, i ≠ j → σ2[i]? = σ[i]?) → EvP (W.hide D) K c2 te σ2 H' (q d)) :
    EvP W K (c1 + n * c2) (tLc wi (gName j) tYes te [j]) σ H (fun r => ∃ es rs, r = .list rs ∧ p es ∧ rs.length = es.length ∧ ∀ (i : Nat) d r, es[i]? = some d → rs[i]? = some r → q d r) :=
  pv_lcA (S := fun d => SN K (wipe σ [j]) j d) hi hn hn2 (fun _ _ _ _ => tg_name) (fun d σ2 Hv ⟨x, h, _⟩ => by rw [h]; exact set_wipe) (fun D es d σ2 H' _ _ _ _ => fun b H1 i _ Q g => g H1 i ((W.hide D).refl H1))
    (fun D es d σ2 H' nA hp hd up s => he D es d σ2 H' nA hp hd up fun i hij => by
      obtain ⟨x, h, _⟩ := s
      rw [h]
      show ((σ.set j none).set j (some x))[i]? = σ[i]?
      rw [List.getElem?_set_ne (Ne.symm hij), List.getElem?_set_ne (Ne.symm hij)])
section
variable {P : Program} {w : World} {K : PySem.W.Frag} {mg : Str → Option Value} {base : Heap} {BS BT SE ftw ftd cL P' gC : Addr} {fdC : FuncData} {f : Addr} {A : Around} {outer : List Env} {s : Shared} {H0 : Hp} {E : XK}
variable (C : LawC P w K mg base BS BT SE ftw ftd cL P' gC fdC) (hr : Room 10 (A.deeper (envOfC "law" (defScope s_law) s.heap.objs.size f (.ref cL))))
include C hr in
theorem p_C0 : ∃ t, PS (LX P w K mg base f cL A outer s H0 E) (nth (forB (nth lap 3)) 0) t ∧ ∀ (W : Wd) (b : Nat) (σ : L2.St) (H : Hp) (D : Ends) (tz : TS) (v5 : V) (d5 : PyData), W.I b H → σ.length = 18 → σ[5]? = some (some v5) → Rp K (W.m H) v5 d5 → okS2 d5 →
    (∀ H', W.I b H' → W.R H H' → tz D (σ.set 7 (some (.bl (schemaOk d5)))) H') → tSeq t tz D σ H := by
  have hu := hu_room hr
  obtain ⟨T, TB, FC, mC, e_BadSchema, e_BadTable, e_ShowError, m_table_words, m_table_width, hm0, kw1, kw2, exS, exT, exmS, exmT, kSS, kST, kSE, kTT, kTS, kTE, kTV, c__law_begun, c__law_schema, c__law_words, c__law_pick, c__law_kept, c__law_is_truth, c__law_is_word, c_is_word, k_is_word, c__law_odd, c__law_bent, c__law_is_schema, c_is_schema, k_is_schema, c__law_same, c_table_words, k_table_words, c_table_width, k_table_width, c_is_row_of, k_is_row_of⟩ := id C
  refine ⟨_, (ps_set (i := 7) sc_law.nd rfl (by first | exact .inl rfl | exact .inr rfl) (pe_c c__law_is_schema hr (by decide) (by rfl) (pa_cons (pv 5) pa_nil))), ?_⟩
  intro W b σ H D tz v5 d5 i0 hl h5 rv5 ok5 k
  have S : Slots K (W.m H) σ ((List.replicate 18 none).set 5 (some d5)) := slots_add (slots_nil hl) h5 rv5
  refine f_asg i0 (dv_call (da_cons (ds_var (i := 5) S rfl) da_nil) (ra_sp ⟨d5, rfl, ok5⟩)) fun v H1 i1 r1 rv => ?_
  rw [rp_bool rv]
  exact k H1 i1 r1
include C hr in
theorem p_C1 : ∃ t, PS (LX P w K mg base f cL A outer s H0 E) (nth (forB (nth lap 3)) 1) t ∧ ∀ (W : Wd) (b : Nat) (σ : L2.St) (H : Hp) (D : Ends) (tz : TS) (v5 : V) (d5 : PyData), W.I b H → σ.length = 18 → σ[5]? = some (some v5) → Rp K (W.m H) v5 d5 → okS2 d5 → σ[7]? = some (some (.bl (schemaOk d5))) →
    (∀ H', W.I b H' → W.R H H' → tz D σ H') → tSeq t tz D σ H := by
  have hu := hu_room hr
  obtain ⟨T, TB, FC, mC, e_BadSchema, e_BadTable, e_ShowError, m_table_words, m_table_width, hm0, kw1, kw2, exS, exT, exmS, exmT, kSS, kST, kSE, kTT, kTS, kTE, kTV, c__law_begun, c__law_schema, c__law_words, c__law_pick, c__law_kept, c__law_is_truth, c__law_is_word, c_is_word, k_is_word, c__law_odd, c__law_bent, c__law_is_schema, c_is_schema, k_is_schema, c__law_same, c_table_words, k_table_words, c_table_width, k_table_width, c_is_row_of, k_is_row_of⟩ := id C
  refine ⟨_, (ps_if (PW.pt (pw_or (pt_not (pt_val (pe_c c__law_is_truth hr (by decide) (by rfl) (pa_cons (pe_c c_is_schema hr (by decide) (by rfl) (pa_cons (pv 5) pa_nil)) (pa_cons (pv 7) pa_nil))))) (pw_or1 (pt_cmpR (op_neU hu) (pe_ck (E := C8.E0) k_is_schema hr (by decide) (by rfl) C8.pass0 (pk_cons (pv 5) pk_nil)) (pv 7) rfl)))) (pss_one (ps_ret pe_bl)) pss_nil), ?_⟩
  intro W b σ H D tz v5 d5 i0 hl h5 rv5 ok5 h7 k
  have S : Slots K (W.m H) σ (((List.replicate 18 none).set 5 (some d5)).set 7 (some (.bool (schemaOk d5)))) := slots_add (slots_add (slots_nil hl) h5 rv5) h7 (.bl _)
  exact f_no i0 (EtD.is (dt_or (dt_not (dt_B (dv_call (da_cons (dv_call (da_cons (ds_var (i := 5) S rfl) da_nil) (rb ok5.1)) (da_cons (ds_var (i := 7) S rfl) da_nil)) (ra_sp ⟨_, _, rfl⟩)))) fun _ =>
    dt_test (dv_op (dv_ck1 (da_cons (ds_var (i := 5) S rfl) da_nil) (rb ok5.1)) (ds_var (i := 7) S rfl) r2_neB)) (by simp [boolD, d0, d1])) fun H1 i1 r1 => k H1 i1 r1
include C hr in
theorem p_C : ∃ t, PS (LX P w K mg base f cL A outer s H0 E) (nth lap 3) t ∧ ∀ (a : At) (b : Nat) (σ : L2.St) (H : Hp) (D : Ends) (tz : TS) (v : V) (d : PyData), LJ a P' qL (b + 401) H → σ.length = 18 → σ[1]? = some (some (.ref a.s)) → σ[3]? = some (some v) → Sch K ((lawW a P').m H) v d →
    (∀ σ' H', LJ a P' qL b H' → EN a P' H H' → Fr [5, 7, 8, 9] σ σ' → tz D σ' H') → tSeq t tz D σ H := by
  have hu := hu_room hr
  obtain ⟨t0, p0, q0⟩ := p_C0 C (H0 := H0) (E := E) (outer := outer) hr
  obtain ⟨t1, p1, q1⟩ := p_C1 C (H0 := H0) (E := E) (outer := outer) hr
  obtain ⟨t2, p2, q2⟩ := p_C2 C (H0 := H0) (E := E) (outer := outer) hr
  obtain ⟨T, TB, FC, mC, e_BadSchema, e_BadTable, e_ShowError, m_table_words, m_table_width, hm0, kw1, kw2, exS, exT, exmS, exmT, kSS, kST, kSE, kTT, kTS, kTE, kTV, c__law_begun, c__law_schema, c__law_words, c__law_pick, c__law_kept, c__law_is_truth, c__law_is_word, c_is_word, k_is_word, c__law_odd, c__law_bent, c__law_is_schema, c_is_schema, k_is_schema, c__law_same, c_table_words, k_table_words, c_table_width, k_table_width, c_is_row_of, k_is_row_of⟩ := id C
  refine ⟨_, ps_for PassesOwn.never rfl (pi_list (pe_op op_cat (pe_lst (pa_cons (pv 3) (pa_cons (pe_c c__law_odd hr (by decide) (by rfl) (pa_cons (pv 1) pa_nil)) pa_nil))) (pe_lc (own := [("lap", 6)]) (g := gName 6) (tt := tYes) rfl sc_law.nd (pi_range1 (by rfl) T.range (pa_cons pe_int pa_nil)) (blkOk_by (N := names_law) (sc := defScope s_law) (by decide +kernel)) (fun _ _ _ _ _ => (pg_name (i := 6) sc_law.nd rfl (by first | exact .inl rfl | exact .inr rfl))) (fun _ _ _ _ _ => pts_nil) (fun _ _ _ _ _ => (pe_c c__law_bent hr (by decide) (by rfl) (pa_cons (pv 1) (pa_cons (pv 3) pa_nil))))))) (pg_name (i := 5) sc_law.nd rfl (by first | exact .inl rfl | exact .inr rfl)) (pss_cons p0 (pss_cons p1 (pss_one p2))), ?_⟩
  intro a b σ H D tz v d j hl h1 h3 sch k
  have ab : Ab a (lawW a P') := ab_law j.2.2
  have S : Slots K ((lawW a P').m H) σ ((List.replicate 18 none).set 3 (some d)) := slots_add (slots_nil hl) h3 sch.rp
  refine for_split ?_
  have hl1 : EvP (lawW a P') K 1 (tLst (tCons (tVar 3) (tCons (tCall (exA fun a => spOd K a) [] C8.E0 (tCons (tVar 1) tNil)) tNil))) σ H (fun d => ∃ ds, d = .list ds ∧ AOk 2 ds) :=
    EvP.less (c := 0 + 1 + 0) (by decide) (pv_lst (al_d (ds_var (i := 3) S rfl) sch.sm (al_cons (c1 := 0 + 1) (c2 := 0) (pv_drawA (K := K) (i := 1) (ok := fun ds => ds = []) (pp := fun _ d => okS2 d) (ps := fun ds => ds = []) ab h1 ap_nil (fun ds e => ⟨e, fun _ h => h⟩)) al_nil)) (fun ds h => by rw [h.2]; decide))
  have hl2 := ps_lcE (W := lawW a P') (K := K) (n := 10) (c1 := 0) (c2 := 40) (j := 6) (q := fun _ r => okS2 r) (te := tCall (exA fun a => spBe K a) [] C8.E0 (tCons (tVar 1) (tCons (tVar 3) tNil))) S
    (eip_range (p := fun m => m = 10) (EaD.toP (da_cons (dv_int (i := 10)) da_nil) ⟨10, rfl, rfl⟩) (fun m hm => by omega)) (fun es ⟨m, e, hm⟩ => by rw [e, hm]; decide) (by decide)
    (fun D es d2 σ2 H' nA he hd up hσ => pv_bent (W := (lawW a P').hide D) (ab.hide fun z => nA (ab.sub D z)) (by rw [hσ 1 (by decide)]; exact h1) (by rw [hσ 3 (by decide)]; exact h3) (sch.mono up))
  have hl3 : EvP (lawW a P') K 401 (tOp rCat (tLst (tCons (tVar 3) (tCons (tCall (exA fun a => spOd K a) [] C8.E0 (tCons (tVar 1) tNil)) tNil))) (tLc (iRng1 (tCons (tC (.int 10)) tNil)) (gName 6) tYes (tCall (exA fun a => spBe K a) [] C8.E0 (tCons (tVar 1) (tCons (tVar 3) tNil))) [6])) σ H (fun d => ∃ ds, d = .list ds ∧ ∀ e ∈ ds, okS2 e) :=
    EvP.less (c := 1 + (0 + 10 * 40)) (by decide) (pv_op hl1 hl2 (fun e1 e2 ⟨as, e3, h3⟩ ⟨es, rs, e4, ⟨m, e5, hm⟩, l5, h5⟩ => by
      subst e3 e4
      have le : es.length = 10 := by
        rw [e5, hm]
        rfl
      refine ⟨.list (as ++ rs), r2_catL (by rw [h3.2]; omega), as ++ rs, rfl, fun e he => ?_⟩
      rcases List.mem_append.mp he with m1 | m1
      · exact h3.1 e m1
      · obtain ⟨i, hi, e⟩ := List.getElem_of_mem m1
        exact h5 i es[i] _ (List.getElem?_eq_getElem (by omega)) (by rw [List.getElem?_eq_getElem hi, e])))
  refine hl3 b H j.1 (Ex.refl _) _ fun vl H1 dl i1 r1 rvl ⟨es, e, hes⟩ => ?_
  subst e
  have j1 := j.step i1 r1
  have e01 : EN a P' H H1 := EN.of j r1
  obtain ⟨al, xs, rfl, ha, rs⟩ := rp_lst rvl
  refine Evl.q_forL (K := K) (a := al) (xs := xs) ev_c (sq_of (hid_vis ha).2) (fun _ σ' H' => LJ a P' qL b H' ∧ EN a P' H1 H' ∧ Fr [5, 7, 8, 9] σ σ') (fun H4 e4 => ⟨j1.ex e4, hidN (ExtN.of e4), Fr.refl⟩)
    (fun i σ' H' _ h => sq_of (hid_vis (h.2.1 _ _ ha fun ps z => by cases z)).2) (fun i x σ' H' hx ⟨j4, e4, F4⟩ => ?_) fun σ' H' ⟨j4, e4, F4⟩ => k σ' H' j4 (e01.trans e4) F4
  obtain ⟨d5, hd5, rv5⟩ := Rps.at rs hx
  have ok5 : okS2 d5 := hes d5 (List.mem_of_getElem? hd5)
  have L' : σ'.length = 18 := by rw [F4.1, hl]
  have L5 : (σ'.set 5 (some x)).length = 18 := by rw [List.length_set, L']
  have F5 : Fr [5, 7, 8, 9] σ (σ'.set 5 (some x)) := F4.set (by decide)
  have g5 : (σ'.set 5 (some x))[5]? = some (some x) := at_set (by rw [L']; decide)
  have rv4 := rpN e4 rv5
  refine q0 (lawW a P') b (σ'.set 5 (some x)) H' _ _ x d5 j4.1 L5 g5 rv4 ok5 fun H5 i5 r5 => ?_
  have F7 : Fr [5, 7, 8, 9] σ ((σ'.set 5 (some x)).set 7 (some (.bl (schemaOk d5)))) := F5.set (by decide)
  have L7 : ((σ'.set 5 (some x)).set 7 (some (.bl (schemaOk d5)))).length = 18 := by rw [List.length_set, L5]
  have g7 : ((σ'.set 5 (some x)).set 7 (some (.bl (schemaOk d5))))[7]? = some (some (.bl (schemaOk d5))) := at_set (by rw [L5]; decide)
  have g75 : ((σ'.set 5 (some x)).set 7 (some (.bl (schemaOk d5))))[5]? = some (some x) := by rw [List.getElem?_set_ne (by decide)]; exact g5
  have j5 := j4.step i5 r5
  have rv5' := rv4.mono ((lawW a P').up j4.1 r5)
  refine q1 (lawW a P') b _ H5 _ _ x d5 i5 L7 g75 rv5' ok5 g7 fun H6 i6 r6 => ?_
  have j6 := j5.step i6 r6
  refine q_lastN (q2 a b _ H6 _ tNext x d5 j6 L7 g75 (rv5'.mono ((lawW a P').up i5 r6)) ok5.1 g7 fun σ8 H8 j8 e8 F8 => ?_)
  exact ⟨j8, e4.trans ((EN.of j4 r5).trans ((EN.of j5 r6).trans (hidN e8))), F7.trans (F8.le (by decide))⟩
end
end Qt
set_option maxRecDepth 100000
set_option maxHeartbeats 4000000
/-! The law's body: the second loop of work. -/
namespace Qt
open PySem PySem.Spec PyProof.Rows L2 Evl Qd Qe Qs Qn Qw
open LamX (ExtN TabS Tabs CodeO)
open C8 (Cal pe_c)
open Ql (LamO)
open Qx (ExH rIsH call_isH)
theorem relTy {T : String} : ∀ u, RelV (.ty T) u → u = .type T := fun _ h => h
section
variable {P : Program} {w : World} {K : PySem.W.Frag} {mg : Str → Option Value} {base : Heap} {BS BT SE ftw ftd cL P' gC : Addr} {fdC : FuncData} {f : Addr} {A : Around} {outer : List Env} {s : Shared} {H0 : Hp} {E : XK}
variable (C : LawC P w K mg base BS BT SE ftw ftd cL P' gC fdC) (hr : Room 10 (A.deeper (envOfC "law" (defScope s_law) s.heap.objs.size f (.ref cL))))
include C hr in
theorem p_G0 : ∃ t, PS (LX P w K mg base f cL A outer s H0 E) (nth (forB (nth lap 8)) 0) t ∧ ∀ (a : At) (b : Nat) (σ : L2.St) (H : Hp) (D : Ends) (tz : TS) (v v17 x8 : V) (d d17 : PyData), LJ a P' qL b H → σ[3]? = some (some v) → Sch K ((lawW a P').m H) v d → σ[17]? = some (some v17) → Rp K ((lawW a P').m H) v17 d17 → sm d17 = true → widD d d17 = none →
    σ[8]? = some (some x8) → Work2 ftd H x8 →
    (∀ p H', LJ a P' qL b H' → ExtN H H' → H' p = some (ExH (.ref BT) none p) → tz D (σ.set 9 (some (.ref p))) H') → tSeq t tz D σ H := by
  have hu := hu_room hr
  obtain ⟨T, TB, FC, mC, e_BadSchema, e_BadTable, e_ShowError, m_table_words, m_table_width, hm0, kw1, kw2, exS, exT, exmS, exmT, kSS, kST, kSE, kTT, kTS, kTE, kTV, c__law_begun, c__law_schema, c__law_words, c__law_pick, c__law_kept, c__law_is_truth, c__law_is_word, c_is_word, k_is_word, c__law_odd, c__law_bent, c__law_is_schema, c_is_schema, k_is_schema, c__law_same, c_table_words, k_table_words, c_table_width, k_table_width, c_is_row_of, k_is_row_of⟩ := id C
  obtain ⟨ocC, odC, kVC, docC, pmC, anC, cdC, ctC, oslC, eC, lkC, hcC⟩ := FC.ex
  have hbC := Fun.binds FC (ps := ["action"]) fun _ _ _ _ _ _ us hl => match us, hl with | [_], _ => rfl
  have kC := FC.kp
  subst eC
  have huT : ∀ p ∈ [(P', qL)], p.1 = P' → p.2 = qL := fun p hp _ => by rw [List.mem_singleton.mp hp]
  refine ⟨_, (ps_set (i := 9) sc_law.nd rfl (by first | exact .inl rfl | exact .inr rfl) (LamX.pe_lamcall (t := fun E => Ql.tCallAlt K 8 (alt2 ftd (spTWd K BS BT) (spRO K BS BT) E) (tCons (tVar 3) (tCons (tVar 17) tNil))) (T := [(P', qL)]) (c := cL) (P := P') (by rfl) mC kC lkC hcC hbC sc__law_caught rfl (.inl rfl) (Ql.caught_gives (CS := SE) rfl e_ShowError (by decide) (by decide) rfl rfl rfl (by decide) (by decide) (by decide) (by decide)) TB rfl (List.mem_singleton.mpr rfl) huT (k := 8) hr (LamX.lamS_by (sc := defScope s_law) (by decide +kernel)) rfl (fun _ _ _ _ _ => rfl) (fun A outer s H E f c' hr' => Ql.pe_callAlt (halt2 hr' (passes_call (takes_of rfl rfl rfl rfl) fun _ _ _ _ h => h) m_table_width c_table_width c_is_row_of) rfl (.inr (.inr rfl)) (pa_cons (pv 3) (pa_cons (pv 17) pa_nil))))), ?_⟩
  intro a b σ H D tz v v17 x8 d d17 j h3 sch h17 rv17 hs17 hwd h8 hw k
  refine j_caught (C := BT) (CS := SE) j exmT (fun H1 j1 e1 EE Q' hE => ?_) fun p H2 j2 e2 hp => k p H2 j2 e2 hp
  have rv1 : Rp K ((lawW a P').m H1) v17 d17 := rpN (hidN e1) rv17
  have sch1 : Sch K ((lawW a P').m H1) v d := schN (hidN e1) sch
  have fin : ∀ H', Ex H1 H' → EE (.ref BT) none H' := fun H' e => hE H' (j1.ex e) (ExtN.of e)
  rcases hw.ext e1 with rfl | ⟨f8, c8, rfl, hf, hc⟩
  · refine ⟨ftd, h8, .inl ⟨kw2, v, h3, v17, h17, .inl ⟨rfl, ?_⟩⟩⟩
    exact x_runE (W := lawW a P') (vs := [v, v17]) j1.1 (.cons sch1.rp (.cons rv1 .nil)) ⟨d, d17, rfl, sch.sm.1, hs17⟩ (fun _ => ⟨v, [v17], rfl, sch1.fz⟩) (errST_noT sch.ok hwd) fin
  · refine ⟨f8, h8, .inr ⟨qL, lamP lam3, lamB lam3, lamS lam3, c8, hf, v, h3, v17, h17, hf, .inr ⟨c8, hf, hc, rfl, v, rfl, v17, rfl, ?_⟩⟩⟩
    exact x_runE (W := lawW a P') (vs := [v, v17, .non]) j1.1 (.cons sch1.rp (.cons rv1 (.cons .non .nil))) ⟨d, d17, .none, rfl, sch.sm.1, hs17, by rw [sm]⟩ (fun _ => ⟨v, [v17, .non], rfl, sch1.fz⟩) (errST_noT sch.ok hwd) fin
include C hr in
theorem p_G1 : ∃ t, PS (LX P w K mg base f cL A outer s H0 E) (nth (forB (nth lap 8)) 1) t ∧ ∀ (σ : L2.St) (H : Hp) (D : Ends) (tz : TS) (p : Addr), σ[9]? = some (some (.ref p)) → H p = some (ExH (.ref BT) none p) →
    (∀ H', Ex H H' → tz D σ H') → tSeq t tz D σ H := by
  have hu := hu_room hr
  obtain ⟨T, TB, FC, mC, e_BadSchema, e_BadTable, e_ShowError, m_table_words, m_table_width, hm0, kw1, kw2, exS, exT, exmS, exmT, kSS, kST, kSE, kTT, kTS, kTE, kTV, c__law_begun, c__law_schema, c__law_words, c__law_pick, c__law_kept, c__law_is_truth, c__law_is_word, c_is_word, k_is_word, c__law_odd, c__law_bent, c__law_is_schema, c_is_schema, k_is_schema, c__law_same, c_table_words, k_table_words, c_table_width, k_table_width, c_is_row_of, k_is_row_of⟩ := id C
  refine ⟨_, (ps_if (PW.pt (pw_or (pt_not (pt_val (pe_callB call_isH (by rfl) T.isinstance b_isinstance (pa_cons (pv 9) (pa_cons (pe_gref (by rfl) e_BadTable) pa_nil))))) (pw_or (pt_val (pe_callB call_isH (by rfl) T.isinstance b_isinstance (pa_cons (pv 9) (pa_cons (pe_gref (by rfl) e_BadSchema) pa_nil)))) (pw_or (pt_not (pt_val (pe_callB call_isH (by rfl) T.isinstance b_isinstance (pa_cons (pv 9) (pa_cons (pe_gref (by rfl) e_ShowError) pa_nil))))) (pw_or1 (pt_not (pt_val (pe_callB call_isH (by rfl) T.isinstance b_isinstance (pa_cons (pv 9) (pa_cons (pe_ty (by rfl) hm0 b_ve) pa_nil)))))))))) (pss_one (ps_ret pe_bl)) pss_nil), ?_⟩
  intro σ H D tz p h9 hp k
  exact q_when (b := false) (et_is (et_or (et_not (et_B (isH h9 hp exT (fun _ h => h) kTT))) fun _ => et_or (et_B (isH h9 hp exT (fun _ h => h) kTS)) fun _ => et_or (et_not (et_B (isH h9 hp exT (fun _ h => h) kTE))) fun _ => et_not (et_B (isH h9 hp exT relTy kTV))) rfl) (fun z => by cases z) fun _ H1 e1 => k H1 e1
include C hr in
theorem p_G : ∃ t, PS (LX P w K mg base f cL A outer s H0 E) (nth lap 8) t ∧ ∀ (a : At) (b : Nat) (σ : L2.St) (H : Hp) (D : Ends) (tz : TS) (v v17 : V) (d d17 : PyData), LJ a P' qL b H → σ.length = 18 → σ[3]? = some (some v) → Sch K ((lawW a P').m H) v d → σ[17]? = some (some v17) → Rp K ((lawW a P').m H) v17 d17 → sm d17 = true → widD d d17 = none →
    (∀ σ' H', LJ a P' qL b H' → EN a P' H H' → Fr [8, 9] σ σ' → tz D σ' H') → tSeq t tz D σ H := by
  have hu := hu_room hr
  obtain ⟨t1, p1, q1⟩ := p_G0 C (H0 := H0) (E := E) (outer := outer) hr
  obtain ⟨t2, p2, q2⟩ := p_G1 C (H0 := H0) (E := E) (outer := outer) hr
  obtain ⟨T, TB, FC, mC, e_BadSchema, e_BadTable, e_ShowError, m_table_words, m_table_width, hm0, kw1, kw2, exS, exT, exmS, exmT, kSS, kST, kSE, kTT, kTS, kTE, kTV, c__law_begun, c__law_schema, c__law_words, c__law_pick, c__law_kept, c__law_is_truth, c__law_is_word, c_is_word, k_is_word, c__law_odd, c__law_bent, c__law_is_schema, c_is_schema, k_is_schema, c__law_same, c_table_words, k_table_words, c_table_width, k_table_width, c_is_row_of, k_is_row_of⟩ := id C
  obtain ⟨ocC, odC, kVC, docC, pmC, anC, cdC, ctC, oslC, eC, lkC, hcC⟩ := FC.ex
  have hbC := Fun.binds FC (ps := ["action"]) fun _ _ _ _ _ _ us hl => match us, hl with | [_], _ => rfl
  have kC := FC.kp
  subst eC
  have huT : ∀ p ∈ [(P', qL)], p.1 = P' → p.2 = qL := fun p hp _ => by rw [List.mem_singleton.mp hp]
  refine ⟨_, ps_for PassesOwn.never rfl (pi_list (pe_lst (pa_cons (pe_gref (by rfl) m_table_width) (pa_cons (Ql.pe_lam (T := [(P', qL)]) (c := cL) (P := P') TB rfl (List.mem_singleton.mpr rfl) huT rfl rfl rfl (hfree_of (by decide +kernel))) pa_nil)))) (pg_name (i := 8) sc_law.nd rfl (by first | exact .inl rfl | exact .inr rfl)) (pss_cons p1 (pss_one p2)), ?_⟩
  intro a b σ H D tz v v17 d d17 j hl h3 sch h17 rv17 hs17 hwd k
  refine for_split (lst2 ?_)
  refine j_lam j fun f1 c1 H1 j1 e1 n1 hf1 hc1 => ⟨sz_of (by simp), fun p hp => ?_⟩
  have e3 : Ex H1 (upd H1 p (.lst [.ref ftd, .ref f1])) := Ex.new hp
  have La1 : LamAt lam3 H1 (.ref f1) := ⟨f1, c1, rfl, hf1, hc1⟩
  have e03 : ExtN H (upd H1 p (.lst [.ref ftd, .ref f1])) := e1.trans (ExtN.of e3)
  have works : ∀ (i : Nat) (x : V), ([V.ref ftd, .ref f1] : List V)[i]? = some x → Work2 ftd (upd H1 p (.lst [.ref ftd, .ref f1])) x := fun i x hx => by
    rcases i with _ | _ | i
    · cases hx; exact .inl rfl
    · cases hx; exact .inr (La1.ext (ExtN.of e3))
    · simp at hx
  refine Evl.q_forL (K := K) (a := p) (xs := [.ref ftd, .ref f1]) ev_c (sq_of upd_same) (fun _ σ' H' => LJ a P' qL b H' ∧ ExtN (upd H1 p (.lst [.ref ftd, .ref f1])) H' ∧ Fr [8, 9] σ σ') (fun H4 e4 => ⟨(j1.ex e3).ex e4, ExtN.of e4, Fr.refl⟩)
    (fun i σ' H' _ h => sq_of (h.2.1 _ _ upd_same fun ps z => by cases z)) (fun i x σ' H' hx ⟨j4, e4, F4⟩ => ?_) fun σ' H' ⟨j4, e4, F4⟩ => k σ' H' j4 (hidN (e03.trans e4)) F4
  have F5 : Fr [8, 9] σ (σ'.set 8 (some x)) := F4.set (by decide)
  have L' : σ'.length = 18 := by rw [F4.1, hl]
  have e04 := e03.trans e4
  refine q1 a b (σ'.set 8 (some x)) H' _ _ v v17 x d d17 j4 (F5.at (by decide) h3) (schN (hidN e04) sch) (F5.at (by decide) h17) (rpN (hidN e04) rv17) hs17 hwd (at_set (by rw [L']; decide)) ((works i x hx).ext e4) fun p9 H5 j5 e5 hp9 => ?_
  have F6 : Fr [8, 9] σ ((σ'.set 8 (some x)).set 9 (some (.ref p9))) := F5.set (by decide)
  refine q_lastN (q2 ((σ'.set 8 (some x)).set 9 (some (.ref p9))) H5 _ tNext p9 (at_set (by rw [List.length_set, L']; decide)) hp9 fun H6 e6 => ?_)
  exact ⟨j5.ex e6, e4.trans (e5.trans (ExtN.of e6)), F6⟩
end
end Qt
set_option maxRecDepth 100000
set_option maxHeartbeats 4000000
/-! The law's body, whole. -/
namespace Qt
open PySem PySem.Spec PyProof.Rows L2 Evl Qd Qe Qs Qn Qw
open LamX (ExtN TabS Tabs CodeO)
open C8 (Cal pe_c)
abbrev lapV : List Nat := [2, 3, 4, 5, 6, 7, 8, 9, 10, 11, 12, 13, 14, 15, 16, 17]
section
variable {P : Program} {w : World} {K : PySem.W.Frag} {mg : Str → Option Value} {base : Heap} {BS BT SE ftw ftd cL P' gC : Addr} {fdC : FuncData} {f : Addr} {A : Around} {outer : List Env} {s : Shared} {H0 : Hp} {E : XK}
variable (C : LawC P w K mg base BS BT SE ftw ftd cL P' gC fdC) (hr : Room 10 (A.deeper (envOfC "law" (defScope s_law) s.heap.objs.size f (.ref cL))))
include C hr in
theorem p_lap : ∃ t, PSs (LX P w K mg base f cL A outer s H0 E) [nth lap 0, nth lap 1, nth lap 2, nth lap 3, nth lap 4, nth lap 5, nth lap 6, nth lap 7, nth lap 8] t ∧ ∀ (a : At) (b : Nat) (σ : L2.St) (H : Hp) (D : Ends), LJ a P' qL (b + 453) H → σ.length = 18 → σ[1]? = some (some (.ref a.s)) →
    (∀ σ' H', LJ a P' qL b H' → Fr lapV σ σ' → D.nx σ' H') → t D σ H := by
  obtain ⟨t0, p0, q0⟩ := p_A0 C (H0 := H0) (E := E) (outer := outer) hr
  obtain ⟨t1, p1, q1⟩ := p_A1 C (H0 := H0) (E := E) (outer := outer) hr
  obtain ⟨t2, p2, q2⟩ := p_B C (H0 := H0) (E := E) (outer := outer) hr
  obtain ⟨t3, p3, q3⟩ := p_C C (H0 := H0) (E := E) (outer := outer) hr
  obtain ⟨t4, p4, q4⟩ := p_D4 C (H0 := H0) (E := E) (outer := outer) hr
  obtain ⟨t5, p5, q5⟩ := p_D5 C (H0 := H0) (E := E) (outer := outer) hr
  obtain ⟨t6, p6, q6⟩ := p_E C (H0 := H0) (E := E) (outer := outer) hr
  obtain ⟨t7, p7, q7⟩ := p_F C (H0 := H0) (E := E) (outer := outer) hr
  obtain ⟨t8, p8, q8⟩ := p_G C (H0 := H0) (E := E) (outer := outer) hr
  refine ⟨_, pss_cons p0 (pss_cons p1 (pss_cons p2 (pss_cons p3 (pss_cons p4 (pss_cons p5 (pss_cons p6 (pss_cons p7 (pss_one p8)))))))), ?_⟩
  intro a b σ H D j hl h1 k
  refine q0 a qL (b + 413) σ H _ _ j h1 fun v d H1 j1 e1 sch1 => ?_
  have F1 : Fr lapV σ (σ.set 3 (some v)) := Fr.refl.set (by decide)
  have g3 : (σ.set 3 (some v))[3]? = some (some v) := at_set (by rw [hl]; decide)
  refine q1 a qL (b + 412) _ H1 _ _ j1 (F1.at (by decide) h1) fun wd H2 j2 e2 hw => ?_
  have F2 : Fr lapV σ ((σ.set 3 (some v)).set 4 (some (.str wd))) := F1.set (by decide)
  have L2' : ((σ.set 3 (some v)).set 4 (some (.str wd))).length = 18 := by rw [F2.1, hl]
  have g4 : ((σ.set 3 (some v)).set 4 (some (.str wd)))[4]? = some (some (.str wd)) := at_set (by rw [List.length_set, hl]; decide)
  have g34 : ((σ.set 3 (some v)).set 4 (some (.str wd)))[3]? = some (some v) := by rw [List.getElem?_set_ne (by decide)]; exact g3
  have sch2 := schN e2 sch1
  revert F2 L2' g4 g34
  generalize (σ.set 3 (some v)).set 4 (some (.str wd)) = σ2
  intro F2 L2' g4 g34
  refine q2 a qL (b + 411) σ2 H2 _ _ wd j2 L2' (F2.at (by decide) h1) g4 hw fun σ3 H3 j3 e3 F3 => ?_
  have F03 : Fr lapV σ σ3 := F2.trans (F3.le (by decide))
  have sch3 := schN e3 sch2
  refine q3 a (b + 10) σ3 H3 _ _ v d j3 (by rw [F03.1, hl]) (F03.at (by decide) h1) (F3.at (by decide) g34) sch3 fun σ4 H4 j4 e4 F4 => ?_
  have F04 : Fr lapV σ σ4 := F03.trans (F4.le (by decide))
  have F24 : Fr [5, 7, 8, 9] σ2 σ4 := (F3.le (by decide)).trans F4
  have sch4 := schN e4 sch3
  have L4 : σ4.length = 18 := by rw [F04.1, hl]
  refine q4 a qL (b + 10) σ4 H4 _ _ v d j4 L4 (F24.at (by decide) g34) sch4 fun v10 H5 j5 e5 rv10 => ?_
  have F45 : Fr [10] σ4 (σ4.set 10 (some v10)) := Fr.refl.set (by decide)
  have g10 : (σ4.set 10 (some v10))[10]? = some (some v10) := at_set (by rw [L4]; decide)
  revert F45 g10
  generalize σ4.set 10 (some v10) = σ5
  intro F45 g10
  have F25 : Fr [5, 7, 8, 9, 10] σ2 σ5 := (F24.le (by decide)).trans (F45.le (by decide))
  have F05 : Fr lapV σ σ5 := F04.trans (F45.le (by decide))
  have L5 : σ5.length = 18 := by rw [F05.1, hl]
  have sch5 := schN e5 sch4
  refine q5 a qL (b + 10) σ5 H5 _ _ v v10 d j5 L5 (F25.at (by decide) g34) sch5 g10 rv10 fun H6 j6 e6 => ?_
  have sch6 := schN e6 sch5
  refine q6 a qL (b + 1) σ5 H6 _ _ v d wd j6 L5 (F05.at (by decide) h1) (F25.at (by decide) g34) sch6 (F25.at (by decide) g4) hw fun σ7 H7 j7 e7 F7 => ?_
  have sch7 := schN e7 sch6
  have F07 : Fr lapV σ σ7 := F05.trans (F7.le (by decide))
  have L7 : σ7.length = 18 := by rw [F07.1, hl]
  refine q7 a qL b σ7 H7 _ _ v10 d j7 L7 (F07.at (by decide) h1) sch7.ok (F7.at (by decide) g10) (rpN e7 (rpN e6 rv10)) fun v17 d17 H8 j8 e8 rv17 hs17 hw17 => ?_
  have F78 : Fr [17] σ7 (σ7.set 17 (some v17)) := Fr.refl.set (by decide)
  have g17 : (σ7.set 17 (some v17))[17]? = some (some v17) := at_set (by rw [L7]; decide)
  have F08 : Fr lapV σ (σ7.set 17 (some v17)) := F07.trans (F78.le (by decide))
  exact q_lastN (q8 a b (σ7.set 17 (some v17)) H8 D tNext v v17 d d17 j8 (by rw [F08.1, hl]) (F78.at (by decide) (F7.at (by decide) (F25.at (by decide) g34))) (schN e8 sch7) g17 rv17 hs17 hw17 fun σ9 H9 j9 e9 F9 => k σ9 H9 j9 (F08.trans (F9.le (by decide))))
end
section
variable {P : Program} {w : World} {K : PySem.W.Frag} {mg : Str → Option Value} {base : Heap} {BS BT SE ftw ftd cL P' gC : Addr} {fdC : FuncData} {f : Addr} {A : Around} {outer : List Env} {s : Shared} {H0 : Hp} {E : XK}
theorem p_law (C : LawC P w K mg base BS BT SE ftw ftd cL P' gC fdC) (hr : Room 10 (A.deeper (envOfC "law" (defScope s_law) s.heap.objs.size f (.ref cL)))) : ∃ t, PSs (LX P w K mg base f cL A outer s H0 E) (defBody s_law) t ∧
    ∀ (l : Addr) (zs : List Int) (H : Hp) (D : Ends), SqL K H l (zs.map V.int) → zs.length < 64 → TabS H P' qL → (∀ H', D.rt (.bl true) H') → t D (L2.start names_law [.ref l]) H := by
  have hu := hu_room hr
  obtain ⟨tl, pl, ql⟩ := p_lap C (H0 := H0) (E := E) (outer := outer) hr
  obtain ⟨T, TB, FC, mC, e_BadSchema, e_BadTable, e_ShowError, m_table_words, m_table_width, hm0, kw1, kw2, exS, exT, exmS, exmT, kSS, kST, kSE, kTT, kTS, kTE, kTV, c__law_begun, c__law_schema, c__law_words, c__law_pick, c__law_kept, c__law_is_truth, c__law_is_word, c_is_word, k_is_word, c__law_odd, c__law_bent, c__law_is_schema, c_is_schema, k_is_schema, c__law_same, c_table_words, k_table_words, c_table_width, k_table_width, c_is_row_of, k_is_row_of⟩ := id C
  refine ⟨_, pss_cons (ps_set (i := 1) sc_law.nd rfl (by first | exact .inl rfl | exact .inr rfl) (pe_c c__law_begun hr (by decide) (by rfl) (pa_cons (pv 0) pa_nil))) (pss_cons (ps_for PassesOwn.never rfl (pi_range1 (by rfl) T.range (pa_cons (pe_op op_add pe_int (pe_callB (call_min2 rfl) (by rfl) T.min b_min (pa_cons (pe_callB call_len (by rfl) T.len boot_len (pa_cons (pv 0) pa_nil)) (pa_cons pe_int pa_nil)))) pa_nil)) (pg_name (i := 2) sc_law.nd rfl (by first | exact .inl rfl | exact .inr rfl)) pl) (pss_one (ps_ret pe_bl))), ?_⟩
  intro l zs H D hl hn tb k
  refine ⟨.ref l, rfl, l, zs, rfl, hl, hn, fun a S H1 ht e1 hf DA => ?_⟩
  have tb1 : TabS H1 P' qL := tb.ext e1
  have hP : H P' ≠ none := by
    obtain ⟨ps, h, _⟩ := tb
    rw [h]; simp
  have nh : ¬ hides a P' := fun z => hP (hf P' z)
  have j0 : LJ a P' qL (9 * 453) H1 := by
    refine ⟨⟨⟨⟨S, DA, ?_⟩, fun p hp => ?_⟩, ?_⟩, tb1, nh⟩
    · rw [ht]
      decide +kernel
    · obtain ⟨⟨kvs, h1, _⟩, h3, h4, _⟩ := DA
      rcases hp with rfl | rfl | rfl
      · rw [h1]; simp
      · rw [h3]; simp
      · rw [h4]; simp
    · obtain ⟨ps, h, _⟩ := tb1
      rw [h]; simp
  have hl1 : SqL K H1 l (zs.map V.int) := ex_l e1 hl
  have hσ1 : ((L2.start names_law [V.ref l]).set 1 (some (.ref a.s)))[1]? = some (some (.ref a.s)) := rfl
  have hev : EvA (tCons (tOp (rI0 fun i j => .int (i + j)) (tC (.int 3)) (tCB (fun xs H Q => ∃ i j, xs = [.int i, .int j] ∧ Q (.int (if j < i then j else i)) H) (tCons (tCB (fun xs H Q => ∃ x n, xs = [x] ∧ LenV K x H n ∧ Q (.int n) H) (tCons (tVar 0) tNil)) (tCons (tC (.int 6)) tNil)))) tNil)
      ((L2.start names_law [V.ref l]).set 1 (some (.ref a.s))) H1 [.int (3 + (if (6 : Int) < ((zs.map V.int).length : Int) then 6 else ((zs.map V.int).length : Int)))] :=
    ea_cons (ev_op ev_c (ev_cb (ea_cons (ev_cb (vs := [.ref l]) (z := .int ((zs.map V.int).length : Int)) (ea_cons (ev_var rfl) ea_nil) (fun H2 e2 Q q => ⟨.ref l, _, rfl, .inl ⟨_, ex_l e2 hl1, rfl⟩, q H2 (Ex.refl _)⟩)) (ea_cons ev_c ea_nil)) (fun H2 e2 Q q => ⟨_, 6, rfl, q H2 (Ex.refl _)⟩)) rv_I0) ea_nil
  refine Evl.q_forR1 hev ⟨by split <;> omega, by split <;> omega⟩ (fun i σ' H' => LJ a P' qL ((9 - i) * 453) H' ∧ Fr lapV ((L2.start names_law [V.ref l]).set 1 (some (.ref a.s))) σ') (fun H2 e2 => ⟨j0.ex e2, Fr.refl⟩) (fun i σ' H' hi ⟨j, F⟩ => ?_) fun σ' H' _ => k H'
  have hi9 : i < 9 := by split at hi <;> omega
  have F' : Fr lapV ((L2.start names_law [V.ref l]).set 1 (some (.ref a.s))) (σ'.set 2 (some (.int (i : Int)))) := F.set (by decide)
  have ej : (9 - i) * 453 = (9 - (i + 1)) * 453 + 453 := by omega
  rw [ej] at j
  exact ql a ((9 - (i + 1)) * 453) (σ'.set 2 (some (.int (i : Int)))) H' _ j (by rw [F'.1]; rfl) (F'.at (by decide) hσ1) fun σ2 H2 j2 F2 => ⟨j2, F'.trans F2⟩
end
end Qt
set_option maxRecDepth 100000
set_option maxHeartbeats 4000000
/-! The end: all that the top has left. -/
namespace Qt
open PySem PySem.Spec PyProof.Rows L2 Evl Qd Qe Qs Qn Qw
open LamX (ExtN TabS Tabs CodeO)
open C8 (Cal pe_c)
section
variable {P : Program} {w : World} {K : PySem.W.Frag} {mg : Str → Option Value} {base : Heap}
theorem fn_pickD {CX : CXT} {k : Nat} {f : Addr} {fd : FuncData} {ps : List Str} {a : At} (F : FnOk P w K mg base CX k f fd ps (spPk K a)) : FnOk P w K mg base CX k f fd ps (spPkD K a) :=
  F.imp fun vs H Q E h => spD_of_S h (fun S ds ok hk => by
    obtain ⟨xs, rfl, x0, x1⟩ := hk
    obtain ⟨_, _, i0, i1⟩ := drawn_ok (cells := a.cells) (room := xs.length) (by omega) ok
    show xs.getD (drawn a.cells xs.length S).1.toNat .none ∈ xs
    rw [List.getD_eq_getElem?_getD, List.getElem?_eq_getElem (by omega)]
    exact List.getElem_mem _) fun S ds ok hk => by
    obtain ⟨xs, rfl, x0, x1⟩ := hk
    exact (drawn_ok (cells := a.cells) (room := xs.length) (by omega) ok).2.1
theorem kit_self {D : Addr} : PySem.W.kitOne K (.ref D) (.ref D) = some true := if_pos (beq_self_eq_true _)
theorem kit_ref {D C : Addr} {b : Bool} (ne : D ≠ C) (hd : PySem.W.hasDictIn K C = true) (ht : PySem.W.typeIn K (.ref C) = some (.type "type")) (h : PySem.W.subIn K (.ref D) (.ref C) = some b) : PySem.W.kitOne K (.ref D) (.ref C) = some b := by
  obtain ⟨cd, hc, _⟩ := PySem.W.any_some hd
  have e2 : ((PySem.W.clsIn K C).isSome && PySem.W.typeIn K (.ref C) == some (.type "type")) = true := by rw [hc, ht] <;> rfl
  have n1 : ¬ ((Value.ref D == Value.ref C) = true) := fun z => ne (Value.ref.inj (beq_iff_eq.mp z))
  show (if (Value.ref D == Value.ref C) = true then some true else if ((PySem.W.clsIn K C).isSome && PySem.W.typeIn K (.ref C) == some (.type "type")) = true then PySem.W.subIn K (.ref D) (.ref C) else none) = some b
  rw [if_neg n1, if_pos e2]
  exact h
theorem kit_type {D : Addr} {T : String} {b : Bool} (hm : PySem.W.kitMeta T = true) (h : PySem.W.subIn K (.ref D) (.type T) = some b) : PySem.W.kitOne K (.ref D) (.type T) = some b := by
  have n1 : ¬ ((Value.ref D == Value.type T) = true) := fun z => nomatch beq_iff_eq.mp z
  show (if (Value.ref D == Value.type T) = true then some true else if PySem.W.kitMeta T = true then PySem.W.subIn K (.ref D) (.type T) else none) = some b
  rw [if_neg n1, if_pos hm]
  exact h
theorem lawC_mk {BS BT SE cL P' f_is_word f_is_whole f_is_free_word f_is_table_pair f_are_tables f_are_names f_is_schema f_need_schema f_widths_of f_need_table f_table_words f_table_width f_is_row f_is_row_of f__law_begun f__law_blended f__law_draw f__law_pick f__law_shuffled f__law_caught f__law_is_truth f__law_same f__law_words f__law_is_word f__law_kept f__law_free_words f__law_schema f__law_odd f__law_is_free f__law_is_schema f__law_bent : Addr} {fd_is_word fd_is_whole fd_is_free_word fd_is_table_pair fd_are_tables fd_are_names fd_is_schema fd_need_schema fd_widths_of fd_need_table fd_table_words fd_table_width fd_is_row fd_is_row_of fd__law_begun fd__law_blended fd__law_draw fd__law_pick fd__law_shuffled fd__law_caught fd__law_is_truth fd__law_same fd__law_words fd__law_is_word fd__law_kept fd__law_free_words fd__law_schema fd__law_odd fd__law_is_free fd__law_is_schema fd__law_bent : FuncData} (T : Top K mg) (TB : LamX.TabB base mg cL P') (eS : ErrC K mg "BadSchema" BS) (eT : ErrC K mg "BadTable" BT)
    (e_ShowError : mg "ShowError" = some (.ref SE)) (hm0 : mg "ValueError" = none) (exS : ExcC K BS) (exT : ExcC K BT) (exmS : PySem.W.exmOne K (.ref BS) (.ref SE) = some true) (exmT : PySem.W.exmOne K (.ref BT) (.ref SE) = some true)
    (kST : PySem.W.kitOne K (.ref BS) (.ref BT) = some false) (kSE : PySem.W.kitOne K (.ref BS) (.ref SE) = some true) (kTS : PySem.W.kitOne K (.ref BT) (.ref BS) = some false) (kTE : PySem.W.kitOne K (.ref BT) (.ref SE) = some true) (kTV : PySem.W.kitOne K (.ref BT) (.type "ValueError") = some true)
    (F_is_word : Fun K "is_word" "is_word" s_is_word f_is_word fd_is_word) (m_is_word : mg "is_word" = some (.ref f_is_word))
    (F_is_whole : Fun K "is_whole" "is_whole" s_is_whole f_is_whole fd_is_whole) (m_is_whole : mg "is_whole" = some (.ref f_is_whole))
    (F_is_free_word : Fun K "is_free_word" "is_free_word" s_is_free_word f_is_free_word fd_is_free_word) (m_is_free_word : mg "is_free_word" = some (.ref f_is_free_word))
    (F_is_table_pair : Fun K "is_table_pair" "is_table_pair" s_is_table_pair f_is_table_pair fd_is_table_pair) (m_is_table_pair : mg "is_table_pair" = some (.ref f_is_table_pair))
    (F_are_tables : Fun K "are_tables" "are_tables" s_are_tables f_are_tables fd_are_tables) (m_are_tables : mg "are_tables" = some (.ref f_are_tables))
    (F_are_names : Fun K "are_names" "are_names" s_are_names f_are_names fd_are_names) (m_are_names : mg "are_names" = some (.ref f_are_names))
    (F_is_schema : Fun K "is_schema" "is_schema" s_is_schema f_is_schema fd_is_schema) (m_is_schema : mg "is_schema" = some (.ref f_is_schema))
    (F_need_schema : Fun K "need_schema" "need_schema" s_need_schema f_need_schema fd_need_schema) (m_need_schema : mg "need_schema" = some (.ref f_need_schema))
    (F_widths_of : Fun K "widths_of" "widths_of" s_widths_of f_widths_of fd_widths_of) (m_widths_of : mg "widths_of" = some (.ref f_widths_of))
    (F_need_table : Fun K "need_table" "need_table" s_need_table f_need_table fd_need_table) (m_need_table : mg "need_table" = some (.ref f_need_table))
    (F_table_words : Fun K "table_words" "table_words" s_table_words f_table_words fd_table_words) (m_table_words : mg "table_words" = some (.ref f_table_words))
    (F_table_width : Fun K "table_width" "table_width" s_table_width f_table_width fd_table_width) (m_table_width : mg "table_width" = some (.ref f_table_width))
    (F_is_row : Fun K "is_row" "is_row" s_is_row f_is_row fd_is_row) (m_is_row : mg "is_row" = some (.ref f_is_row))
    (F_is_row_of : Fun K "is_row_of" "is_row_of" s_is_row_of f_is_row_of fd_is_row_of) (m_is_row_of : mg "is_row_of" = some (.ref f_is_row_of))
    (F__law_begun : Fun K "_law_begun" "_law_begun" s__law_begun f__law_begun fd__law_begun) (m__law_begun : mg "_law_begun" = some (.ref f__law_begun))
    (F__law_blended : Fun K "_law_blended" "_law_blended" s__law_blended f__law_blended fd__law_blended) (m__law_blended : mg "_law_blended" = some (.ref f__law_blended))
    (F__law_draw : Fun K "_law_draw" "_law_draw" s__law_draw f__law_draw fd__law_draw) (m__law_draw : mg "_law_draw" = some (.ref f__law_draw))
    (F__law_pick : Fun K "_law_pick" "_law_pick" s__law_pick f__law_pick fd__law_pick) (m__law_pick : mg "_law_pick" = some (.ref f__law_pick))
    (F__law_shuffled : Fun K "_law_shuffled" "_law_shuffled" s__law_shuffled f__law_shuffled fd__law_shuffled) (m__law_shuffled : mg "_law_shuffled" = some (.ref f__law_shuffled))
    (F__law_caught : Fun K "_law_caught" "_law_caught" s__law_caught f__law_caught fd__law_caught) (m__law_caught : mg "_law_caught" = some (.ref f__law_caught))
    (F__law_is_truth : Fun K "_law_is_truth" "_law_is_truth" s__law_is_truth f__law_is_truth fd__law_is_truth) (m__law_is_truth : mg "_law_is_truth" = some (.ref f__law_is_truth))
    (F__law_same : Fun K "_law_same" "_law_same" s__law_same f__law_same fd__law_same) (m__law_same : mg "_law_same" = some (.ref f__law_same))
    (F__law_words : Fun K "_law_words" "_law_words" s__law_words f__law_words fd__law_words) (m__law_words : mg "_law_words" = some (.ref f__law_words))
    (F__law_is_word : Fun K "_law_is_word" "_law_is_word" s__law_is_word f__law_is_word fd__law_is_word) (m__law_is_word : mg "_law_is_word" = some (.ref f__law_is_word))
    (F__law_kept : Fun K "_law_kept" "_law_kept" s__law_kept f__law_kept fd__law_kept) (m__law_kept : mg "_law_kept" = some (.ref f__law_kept))
    (F__law_free_words : Fun K "_law_free_words" "_law_free_words" s__law_free_words f__law_free_words fd__law_free_words) (m__law_free_words : mg "_law_free_words" = some (.ref f__law_free_words))
    (F__law_schema : Fun K "_law_schema" "_law_schema" s__law_schema f__law_schema fd__law_schema) (m__law_schema : mg "_law_schema" = some (.ref f__law_schema))
    (F__law_odd : Fun K "_law_odd" "_law_odd" s__law_odd f__law_odd fd__law_odd) (m__law_odd : mg "_law_odd" = some (.ref f__law_odd))
    (F__law_is_free : Fun K "_law_is_free" "_law_is_free" s__law_is_free f__law_is_free fd__law_is_free) (m__law_is_free : mg "_law_is_free" = some (.ref f__law_is_free))
    (F__law_is_schema : Fun K "_law_is_schema" "_law_is_schema" s__law_is_schema f__law_is_schema fd__law_is_schema) (m__law_is_schema : mg "_law_is_schema" = some (.ref f__law_is_schema))
    (F__law_bent : Fun K "_law_bent" "_law_bent" s__law_bent f__law_bent fd__law_bent) (m__law_bent : mg "_law_bent" = some (.ref f__law_bent)) : LawC P w K mg base BS BT SE f_table_words f_table_width cL P' f__law_caught fd__law_caught := by
  have b_is_word : Binds K fd_is_word ["value"] [] := Fun.binds F_is_word fun _ _ _ _ _ _ us hl => match us, hl with | [_], _ => rfl
  have n_is_word : FnOk P w K mg base CX0 1 f_is_word fd_is_word ["value"] (spB K isWordD) := ok_is_word F_is_word T
  have c_is_word : Cal P w K mg base 1 "is_word" (spB K isWordD) [] := ⟨f_is_word, fd_is_word, ["value"], [], n_is_word, m_is_word, F_is_word.kp, b_is_word, .nil⟩
  have b_is_whole : Binds K fd_is_whole ["value"] [] := Fun.binds F_is_whole fun _ _ _ _ _ _ us hl => match us, hl with | [_], _ => rfl
  have n_is_whole : FnOk P w K mg base CX0 1 f_is_whole fd_is_whole ["value"] (spB K isWholeD) := ok_is_whole F_is_whole T
  have c_is_whole : Cal P w K mg base 1 "is_whole" (spB K isWholeD) [] := ⟨f_is_whole, fd_is_whole, ["value"], [], n_is_whole, m_is_whole, F_is_whole.kp, b_is_whole, .nil⟩
  have b_is_free_word : Binds K fd_is_free_word ["value"] [] := Fun.binds F_is_free_word fun _ _ _ _ _ _ us hl => match us, hl with | [_], _ => rfl
  have n_is_free_word : FnOk P w K mg base CX0 2 f_is_free_word fd_is_free_word ["value"] (spB K isFreeD) := ok_is_free_word F_is_free_word T c_is_word
  have c_is_free_word : Cal P w K mg base 2 "is_free_word" (spB K isFreeD) [] := ⟨f_is_free_word, fd_is_free_word, ["value"], [], n_is_free_word, m_is_free_word, F_is_free_word.kp, b_is_free_word, .nil⟩
  have b_is_table_pair : Binds K fd_is_table_pair ["value"] [] := Fun.binds F_is_table_pair fun _ _ _ _ _ _ us hl => match us, hl with | [_], _ => rfl
  have n_is_table_pair : FnOk P w K mg base CX0 3 f_is_table_pair fd_is_table_pair ["value"] (spB K pairOk) := ok_is_table_pair F_is_table_pair T c_is_free_word c_is_whole
  have c_is_table_pair : Cal P w K mg base 3 "is_table_pair" (spB K pairOk) [] := ⟨f_is_table_pair, fd_is_table_pair, ["value"], [], n_is_table_pair, m_is_table_pair, F_is_table_pair.kp, b_is_table_pair, .nil⟩
  have b_are_tables : Binds K fd_are_tables ["value"] [] := Fun.binds F_are_tables fun _ _ _ _ _ _ us hl => match us, hl with | [_], _ => rfl
  have n_are_tables : FnOk P w K mg base CX0 4 f_are_tables fd_are_tables ["value"] (spB K tablesOk) := ok_are_tables F_are_tables T c_is_table_pair
  have c_are_tables : Cal P w K mg base 4 "are_tables" (spB K tablesOk) [] := ⟨f_are_tables, fd_are_tables, ["value"], [], n_are_tables, m_are_tables, F_are_tables.kp, b_are_tables, .nil⟩
  have b_are_names : Binds K fd_are_names ["value"] [] := Fun.binds F_are_names fun _ _ _ _ _ _ us hl => match us, hl with | [_], _ => rfl
  have n_are_names : FnOk P w K mg base CX0 3 f_are_names fd_are_names ["value"] (spB K namesOk) := ok_are_names F_are_names T c_is_free_word
  have c_are_names : Cal P w K mg base 3 "are_names" (spB K namesOk) [] := ⟨f_are_names, fd_are_names, ["value"], [], n_are_names, m_are_names, F_are_names.kp, b_are_names, .nil⟩
  have b_is_schema : Binds K fd_is_schema ["value"] [] := Fun.binds F_is_schema fun _ _ _ _ _ _ us hl => match us, hl with | [_], _ => rfl
  have n_is_schema : FnOk P w K mg base CX0 5 f_is_schema fd_is_schema ["value"] (spB K schemaOk) := ok_is_schema F_is_schema T c_are_tables c_are_names
  have c_is_schema : Cal P w K mg base 5 "is_schema" (spB K schemaOk) [] := ⟨f_is_schema, fd_is_schema, ["value"], [], n_is_schema, m_is_schema, F_is_schema.kp, b_is_schema, .nil⟩
  have b_need_schema : Binds K fd_need_schema ["schema"] [] := Fun.binds F_need_schema fun _ _ _ _ _ _ us hl => match us, hl with | [_], _ => rfl
  have n_need_schema : FnOk P w K mg base (L2.CX P w) 6 f_need_schema fd_need_schema ["schema"] (spNS K BS) := ok_need_schema F_need_schema c_is_schema eS
  have c_need_schema : CalX P w K mg base 6 "need_schema" (spNS K BS) := ⟨f_need_schema, fd_need_schema, ["schema"], n_need_schema, m_need_schema, F_need_schema.kp, b_need_schema⟩
  have b_widths_of : Binds K fd_widths_of ["schema"] [] := Fun.binds F_widths_of fun _ _ _ _ _ _ us hl => match us, hl with | [_], _ => rfl
  have n_widths_of : FnOk P w K mg base CX0 1 f_widths_of fd_widths_of ["schema"] (spW K) := ok_widths_of F_widths_of T
  have c_widths_of : Cal P w K mg base 1 "widths_of" (spW K) [] := ⟨f_widths_of, fd_widths_of, ["schema"], [], n_widths_of, m_widths_of, F_widths_of.kp, b_widths_of, .nil⟩
  have b_need_table : Binds K fd_need_table ["schema", "table"] [] := Fun.binds F_need_table fun _ _ _ _ _ _ us hl => match us, hl with | [_, _], _ => rfl
  have n_need_table : FnOk P w K mg base (L2.CX P w) 2 f_need_table fd_need_table ["schema", "table"] (spNT K BT) := ok_need_table F_need_table T c_widths_of eT
  have c_need_table : CalX P w K mg base 2 "need_table" (spNT K BT) := ⟨f_need_table, fd_need_table, ["schema", "table"], n_need_table, m_need_table, F_need_table.kp, b_need_table⟩
  have b_table_words : Binds K fd_table_words ["schema"] [] := Fun.binds F_table_words fun _ _ _ _ _ _ us hl => match us, hl with | [_], _ => rfl
  have n_table_words : FnOk P w K mg base (L2.CX P w) 7 f_table_words fd_table_words ["schema"] (spTW K BS) := ok_table_words F_table_words T c_need_schema
  have c_table_words : CalX P w K mg base 7 "table_words" (spTW K BS) := ⟨f_table_words, fd_table_words, ["schema"], n_table_words, m_table_words, F_table_words.kp, b_table_words⟩
  have b_table_width : Binds K fd_table_width ["schema", "table"] [] := Fun.binds F_table_width fun _ _ _ _ _ _ us hl => match us, hl with | [_, _], _ => rfl
  have n_table_width : FnOk P w K mg base (L2.CX P w) 7 f_table_width fd_table_width ["schema", "table"] (spTWd K BS BT) := ok_table_width F_table_width c_need_schema c_need_table c_widths_of
  have c_table_width : CalX P w K mg base 7 "table_width" (spTWd K BS BT) := ⟨f_table_width, fd_table_width, ["schema", "table"], n_table_width, m_table_width, F_table_width.kp, b_table_width⟩
  have b_is_row : Binds K fd_is_row ["value", "width"] [] := Fun.binds F_is_row fun _ _ _ _ _ _ us hl => match us, hl with | [_, _], _ => rfl
  have n_is_row : FnOk P w K mg base CX0 2 f_is_row fd_is_row ["value", "width"] (spR K) := ok_is_row F_is_row T c_is_word
  have c_is_row : Cal P w K mg base 2 "is_row" (spR K) [] := ⟨f_is_row, fd_is_row, ["value", "width"], [], n_is_row, m_is_row, F_is_row.kp, b_is_row, .nil⟩
  have b_is_row_of : Binds K fd_is_row_of ["schema", "table", "value"] [] := Fun.binds F_is_row_of fun _ _ _ _ _ _ us hl => match us, hl with | [_, _, _], _ => rfl
  have n_is_row_of : FnOk P w K mg base (L2.CX P w) 7 f_is_row_of fd_is_row_of ["schema", "table", "value"] (spRO K BS BT) := ok_is_row_of F_is_row_of c_need_schema c_need_table c_widths_of c_is_row
  have c_is_row_of : CalX P w K mg base 7 "is_row_of" (spRO K BS BT) := ⟨f_is_row_of, fd_is_row_of, ["schema", "table", "value"], n_is_row_of, m_is_row_of, F_is_row_of.kp, b_is_row_of⟩
  have b__law_begun : Binds K fd__law_begun ["script"] [] := Fun.binds F__law_begun fun _ _ _ _ _ _ us hl => match us, hl with | [_], _ => rfl
  have n__law_begun : FnOk P w K mg base CX0 1 f__law_begun fd__law_begun ["script"] (spBg K) := ok__law_begun F__law_begun T
  have c__law_begun : Cal P w K mg base 1 "_law_begun" (spBg K) [] := ⟨f__law_begun, fd__law_begun, ["script"], [], n__law_begun, m__law_begun, F__law_begun.kp, b__law_begun, .nil⟩
  have b__law_blended : Binds K fd__law_blended ["state"] [] := Fun.binds F__law_blended fun _ _ _ _ _ _ us hl => match us, hl with | [_], _ => rfl
  have n__law_blended : ∀ a, FnOk P w K mg base CX0 1 f__law_blended fd__law_blended ["state"] (spBl a) := fun a => ok__law_blended F__law_blended T
  have c__law_blended : ∀ a, Cal P w K mg base 1 "_law_blended" (spBl a) [] := fun a => ⟨f__law_blended, fd__law_blended, ["state"], [], n__law_blended a, m__law_blended, F__law_blended.kp, b__law_blended, .nil⟩
  have b__law_draw : Binds K fd__law_draw ["state", "room"] [] := Fun.binds F__law_draw fun _ _ _ _ _ _ us hl => match us, hl with | [_, _], _ => rfl
  have n__law_draw : ∀ a, FnOk P w K mg base CX0 2 f__law_draw fd__law_draw ["state", "room"] (spDr K a) := fun a => ok__law_draw F__law_draw T (c__law_blended a)
  have c__law_draw : ∀ a, Cal P w K mg base 2 "_law_draw" (spDr K a) [] := fun a => ⟨f__law_draw, fd__law_draw, ["state", "room"], [], n__law_draw a, m__law_draw, F__law_draw.kp, b__law_draw, .nil⟩
  have b__law_pick : Binds K fd__law_pick ["state", "some"] [] := Fun.binds F__law_pick fun _ _ _ _ _ _ us hl => match us, hl with | [_, _], _ => rfl
  have n__law_pick : ∀ a, FnOk P w K mg base CX0 3 f__law_pick fd__law_pick ["state", "some"] (spPk K a) := fun a => ok__law_pick F__law_pick T (c__law_draw a)
  have c__law_pick : ∀ a, Cal P w K mg base 3 "_law_pick" (spPk K a) [] := fun a => ⟨f__law_pick, fd__law_pick, ["state", "some"], [], n__law_pick a, m__law_pick, F__law_pick.kp, b__law_pick, .nil⟩
  have b__law_shuffled : Binds K fd__law_shuffled ["state", "some"] [] := Fun.binds F__law_shuffled fun _ _ _ _ _ _ us hl => match us, hl with | [_, _], _ => rfl
  have n__law_shuffled : ∀ a, FnOk P w K mg base CX0 3 f__law_shuffled fd__law_shuffled ["state", "some"] (spSh K a) := fun a => ok__law_shuffled F__law_shuffled T (cal_drawD (c__law_draw a))
  have c__law_shuffled : ∀ a, Cal P w K mg base 3 "_law_shuffled" (spSh K a) [] := fun a => ⟨f__law_shuffled, fd__law_shuffled, ["state", "some"], [], n__law_shuffled a, m__law_shuffled, F__law_shuffled.kp, b__law_shuffled, .nil⟩
  have b__law_is_truth : Binds K fd__law_is_truth ["found", "due"] [] := Fun.binds F__law_is_truth fun _ _ _ _ _ _ us hl => match us, hl with | [_, _], _ => rfl
  have n__law_is_truth : FnOk P w K mg base CX0 1 f__law_is_truth fd__law_is_truth ["found", "due"] (spTr K) := ok__law_is_truth F__law_is_truth
  have c__law_is_truth : Cal P w K mg base 1 "_law_is_truth" (spTr K) [] := ⟨f__law_is_truth, fd__law_is_truth, ["found", "due"], [], n__law_is_truth, m__law_is_truth, F__law_is_truth.kp, b__law_is_truth, .nil⟩
  have b__law_same : Binds K fd__law_same ["found", "due"] [] := Fun.binds F__law_same fun _ _ _ _ _ _ us hl => match us, hl with | [_, _], _ => rfl
  have n__law_same : FnOk P w K mg base CX0 2 f__law_same fd__law_same ["found", "due"] (spSame K) := ok__law_same F__law_same T c__law_is_truth
  have c__law_same : Cal P w K mg base 2 "_law_same" (spSame K) [] := ⟨f__law_same, fd__law_same, ["found", "due"], [], n__law_same, m__law_same, F__law_same.kp, b__law_same, .nil⟩
  have b__law_words : Binds K fd__law_words ["draws", "many"] [] := Fun.binds F__law_words fun _ _ _ _ _ _ us hl => match us, hl with | [_, _], _ => rfl
  have n__law_words : ∀ a, FnOk P w K mg base CX0 4 f__law_words fd__law_words ["draws", "many"] (spWo K a) := fun a => ok__law_words F__law_words T (c__law_draw a) (c__law_pick a)
  have c__law_words : ∀ a, Cal P w K mg base 4 "_law_words" (spWo K a) [] := fun a => ⟨f__law_words, fd__law_words, ["draws", "many"], [], n__law_words a, m__law_words, F__law_words.kp, b__law_words, .nil⟩
  have b__law_is_word : Binds K fd__law_is_word ["value"] [] := Fun.binds F__law_is_word fun _ _ _ _ _ _ us hl => match us, hl with | [_], _ => rfl
  have n__law_is_word : FnOk P w K mg base CX0 1 f__law_is_word fd__law_is_word ["value"] (spBW K isWordD) := ok__law_is_word F__law_is_word T
  have c__law_is_word : Cal P w K mg base 1 "_law_is_word" (spBW K isWordD) [] := ⟨f__law_is_word, fd__law_is_word, ["value"], [], n__law_is_word, m__law_is_word, F__law_is_word.kp, b__law_is_word, .nil⟩
  have b__law_kept : Binds K fd__law_kept [] [] := Fun.binds F__law_kept fun _ _ _ _ _ _ us hl => match us, hl with | [], _ => rfl
  have n__law_kept : FnOk P w K mg base CX0 1 f__law_kept fd__law_kept [] (spK K) := ok__law_kept F__law_kept
  have c__law_kept : Cal P w K mg base 1 "_law_kept" (spK K) [] := ⟨f__law_kept, fd__law_kept, [], [], n__law_kept, m__law_kept, F__law_kept.kp, b__law_kept, .nil⟩
  have b__law_free_words : Binds K fd__law_free_words ["draws", "many"] [] := Fun.binds F__law_free_words fun _ _ _ _ _ _ us hl => match us, hl with | [_, _], _ => rfl
  have n__law_free_words : ∀ a, FnOk P w K mg base CX0 5 f__law_free_words fd__law_free_words ["draws", "many"] (spFw K a) := fun a => ok__law_free_words F__law_free_words T (c__law_words a) c__law_kept
  have c__law_free_words : ∀ a, Cal P w K mg base 5 "_law_free_words" (spFw K a) [] := fun a => ⟨f__law_free_words, fd__law_free_words, ["draws", "many"], [], n__law_free_words a, m__law_free_words, F__law_free_words.kp, b__law_free_words, .nil⟩
  have b__law_schema : Binds K fd__law_schema ["draws"] [] := Fun.binds F__law_schema fun _ _ _ _ _ _ us hl => match us, hl with | [_], _ => rfl
  have n__law_schema : ∀ a, FnOk P w K mg base CX0 6 f__law_schema fd__law_schema ["draws"] (spSc K a) := fun a => ok__law_schema F__law_schema T (c__law_shuffled a) (c__law_free_words a) (cal_pickD (c__law_pick a)) (cal_drawD (c__law_draw a))
  have c__law_schema : ∀ a, Cal P w K mg base 6 "_law_schema" (spSc K a) [] := fun a => ⟨f__law_schema, fd__law_schema, ["draws"], [], n__law_schema a, m__law_schema, F__law_schema.kp, b__law_schema, .nil⟩
  have b__law_odd : Binds K fd__law_odd ["draws"] [] := Fun.binds F__law_odd fun _ _ _ _ _ _ us hl => match us, hl with | [_], _ => rfl
  have n__law_odd : ∀ a, FnOk P w K mg base CX0 4 f__law_odd fd__law_odd ["draws"] (spOd K a) := fun a => ok__law_odd F__law_odd T (cal_pickD (c__law_pick a))
  have c__law_odd : ∀ a, Cal P w K mg base 4 "_law_odd" (spOd K a) [] := fun a => ⟨f__law_odd, fd__law_odd, ["draws"], [], n__law_odd a, m__law_odd, F__law_odd.kp, b__law_odd, .nil⟩
  have b__law_is_free : Binds K fd__law_is_free ["value"] [] := Fun.binds F__law_is_free fun _ _ _ _ _ _ us hl => match us, hl with | [_], _ => rfl
  have n__law_is_free : FnOk P w K mg base CX0 2 f__law_is_free fd__law_is_free ["value"] (spBW K isFreeD) := ok__law_is_free F__law_is_free T c__law_is_word c__law_kept
  have c__law_is_free : Cal P w K mg base 2 "_law_is_free" (spBW K isFreeD) [] := ⟨f__law_is_free, fd__law_is_free, ["value"], [], n__law_is_free, m__law_is_free, F__law_is_free.kp, b__law_is_free, .nil⟩
  have b__law_is_schema : Binds K fd__law_is_schema ["value"] [] := Fun.binds F__law_is_schema fun _ _ _ _ _ _ us hl => match us, hl with | [_], _ => rfl
  have n__law_is_schema : FnOk P w K mg base CX0 3 f__law_is_schema fd__law_is_schema ["value"] (spBS K schemaOk) := ok__law_is_schema F__law_is_schema T c__law_is_free
  have c__law_is_schema : Cal P w K mg base 3 "_law_is_schema" (spBS K schemaOk) [] := ⟨f__law_is_schema, fd__law_is_schema, ["value"], [], n__law_is_schema, m__law_is_schema, F__law_is_schema.kp, b__law_is_schema, .nil⟩
  have b__law_bent : Binds K fd__law_bent ["draws", "schema"] [] := Fun.binds F__law_bent fun _ _ _ _ _ _ us hl => match us, hl with | [_, _], _ => rfl
  have n__law_bent : ∀ a, FnOk P w K mg base CX0 4 f__law_bent fd__law_bent ["draws", "schema"] (spBe K a) := fun a => ok__law_bent F__law_bent T (cal_pickD (c__law_pick a)) (cal_drawD (c__law_draw a)) c__law_kept
  have c__law_bent : ∀ a, Cal P w K mg base 4 "_law_bent" (spBe K a) [] := fun a => ⟨f__law_bent, fd__law_bent, ["draws", "schema"], [], n__law_bent a, m__law_bent, F__law_bent.kp, b__law_bent, .nil⟩
  exact { T := T, TB := TB, FC := F__law_caught, mC := m__law_caught, e_BadSchema := eS.mgC, e_BadTable := eT.mgC, e_ShowError := e_ShowError, m_table_words := m_table_words, m_table_width := m_table_width, hm0 := hm0, kw1 := F_table_words.kp, kw2 := F_table_width.kp, exS := exS, exT := exT, exmS := exmS, exmT := exmT, kSS := kit_self, kST := kST, kSE := kSE, kTT := kit_self, kTS := kTS, kTE := kTE, kTV := kTV, c__law_begun := c__law_begun, c__law_schema := ⟨f__law_schema, fd__law_schema, ["draws"], [], FnOk.exA fun a => n__law_schema a, m__law_schema, F__law_schema.kp, b__law_schema, .nil⟩, c__law_words := ⟨f__law_words, fd__law_words, ["draws", "many"], [], FnOk.exA fun a => n__law_words a, m__law_words, F__law_words.kp, b__law_words, .nil⟩, c__law_pick := ⟨f__law_pick, fd__law_pick, ["state", "some"], [], FnOk.exA fun a => fn_pickD (n__law_pick a), m__law_pick, F__law_pick.kp, b__law_pick, .nil⟩, c__law_kept := c__law_kept, c__law_is_truth := c__law_is_truth, c__law_is_word := c__law_is_word, c_is_word := c_is_word, k_is_word := ⟨f_is_word, fd_is_word, ["value"], n_is_word, m_is_word, F_is_word.kp, fun_kb1 F_is_word fun _ _ _ _ _ _ _ => rfl⟩, c__law_odd := ⟨f__law_odd, fd__law_odd, ["draws"], [], FnOk.exA fun a => n__law_odd a, m__law_odd, F__law_odd.kp, b__law_odd, .nil⟩, c__law_bent := ⟨f__law_bent, fd__law_bent, ["draws", "schema"], [], FnOk.exA fun a => n__law_bent a, m__law_bent, F__law_bent.kp, b__law_bent, .nil⟩, c__law_is_schema := c__law_is_schema, c_is_schema := c_is_schema, k_is_schema := ⟨f_is_schema, fd_is_schema, ["value"], n_is_schema, m_is_schema, F_is_schema.kp, fun_kb1 F_is_schema fun _ _ _ _ _ _ _ => rfl⟩, c__law_same := c__law_same, c_table_words := c_table_words, k_table_words := ⟨f_table_words, fd_table_words, ["schema"], n_table_words, m_table_words, F_table_words.kp, fun_kb1 F_table_words fun _ _ _ _ _ _ _ => rfl⟩, c_table_width := c_table_width, k_table_width := ⟨f_table_width, fd_table_width, ["schema", "table"], n_table_width, m_table_width, F_table_width.kp, fun_kb2 F_table_width fun _ _ _ _ _ _ _ _ => rfl⟩, c_is_row_of := c_is_row_of, k_is_row_of := ⟨f_is_row_of, fd_is_row_of, ["schema", "table", "value"], n_is_row_of, m_is_row_of, F_is_row_of.kp, fun_kb3 F_is_row_of fun _ _ _ _ _ _ _ _ _ => rfl⟩ }
/-- the law's promise -/
def spLaw (K : PySem.W.Frag) (P' : Addr) : Sp := fun vs H Q _ => ∃ (l : Addr) (zs : List Int), vs = [.ref l] ∧ SqL K H l (zs.map V.int) ∧ zs.length < 64 ∧ TabS H P' qL ∧ ∀ H', Q (.bl true) H'
theorem ok_law {BS BT SE ftw ftd cL P' gC f : Addr} {fdC : FuncData} (C : LawC P w K mg base BS BT SE ftw ftd cL P' gC fdC) {oc kV doc pm ct : Value} {od an : Option Addr} {osl : Array (Option Value)}
    (lk : K.lookup f = some ⟨oc, od, .func (PySem.W.fnOf "law" "law" (defArgs s_law) (defBody s_law) (defScope s_law) .none kV doc pm an (.ref cL) ct), osl⟩) (hcd : PySem.W.codeIn K (.ref cL) "law" = true) :
    FnOk P w K mg base CX0 11 f (PySem.W.fnOf "law" "law" (defArgs s_law) (defBody s_law) (defScope s_law) .none kV doc pm an (.ref cL) ct) ["script"] (spLaw K P') :=
  fn_of lk hcd sc_law (fun vs H Q E h => by obtain ⟨l, zs, rfl, _⟩ := h; rfl) fun A outer s H vs Q E hr h => by
    obtain ⟨t, ht, hq⟩ := p_law C (H0 := H) (E := E) (outer := outer) hr
    obtain ⟨l, zs, rfl, hl, hn, tb, k⟩ := h
    exact ⟨t, ht.nox, hq l zs H _ hl hn tb k⟩
end
theorem end_mk {l : PySem.W.OpenLaw} {w : World} {K : PySem.W.Frag} {h : Heap} {mg : Str → Option Value} {fa cL P' BS BT SE kA : Addr} (X : K.In h) (G : h.Ns mainGlobals mg) (hfa : mg "law" = some (.ref fa)) (own : LamX.OwnTab K fa h)
    {zL : Str} {tL t_MOST_WIDTH t_MOST_TABLES t_MOST_NAMES : Tok} {dK dC : Option Addr} {itK vC : Array Value} {nK : Nat} {slK sC : Array (Option Value)} {fileC : Str} {tfC tgC ttC : Tok} {flC txC : Int} {inC : Bool}
    {f_is_word : Addr} {oc_is_word kV_is_word dc_is_word pm_is_word cd_is_word ct_is_word : Value} {od_is_word an_is_word : Option Addr} {sl_is_word : Array (Option Value)}
    {f_is_whole : Addr} {oc_is_whole kV_is_whole dc_is_whole pm_is_whole cd_is_whole ct_is_whole : Value} {od_is_whole an_is_whole : Option Addr} {sl_is_whole : Array (Option Value)}
    {f_is_free_word : Addr} {oc_is_free_word kV_is_free_word dc_is_free_word pm_is_free_word cd_is_free_word ct_is_free_word : Value} {od_is_free_word an_is_free_word : Option Addr} {sl_is_free_word : Array (Option Value)}
    {f_is_table_pair : Addr} {oc_is_table_pair kV_is_table_pair dc_is_table_pair pm_is_table_pair cd_is_table_pair ct_is_table_pair : Value} {od_is_table_pair an_is_table_pair : Option Addr} {sl_is_table_pair : Array (Option Value)}
    {f_are_tables : Addr} {oc_are_tables kV_are_tables dc_are_tables pm_are_tables cd_are_tables ct_are_tables : Value} {od_are_tables an_are_tables : Option Addr} {sl_are_tables : Array (Option Value)}
    {f_are_names : Addr} {oc_are_names kV_are_names dc_are_names pm_are_names cd_are_names ct_are_names : Value} {od_are_names an_are_names : Option Addr} {sl_are_names : Array (Option Value)}
    {f_is_schema : Addr} {oc_is_schema kV_is_schema dc_is_schema pm_is_schema cd_is_schema ct_is_schema : Value} {od_is_schema an_is_schema : Option Addr} {sl_is_schema : Array (Option Value)}
    {f_need_schema : Addr} {oc_need_schema kV_need_schema dc_need_schema pm_need_schema cd_need_schema ct_need_schema : Value} {od_need_schema an_need_schema : Option Addr} {sl_need_schema : Array (Option Value)}
    {f_widths_of : Addr} {oc_widths_of kV_widths_of dc_widths_of pm_widths_of cd_widths_of ct_widths_of : Value} {od_widths_of an_widths_of : Option Addr} {sl_widths_of : Array (Option Value)}
    {f_need_table : Addr} {oc_need_table kV_need_table dc_need_table pm_need_table cd_need_table ct_need_table : Value} {od_need_table an_need_table : Option Addr} {sl_need_table : Array (Option Value)}
    {f_table_words : Addr} {oc_table_words kV_table_words dc_table_words pm_table_words cd_table_words ct_table_words : Value} {od_table_words an_table_words : Option Addr} {sl_table_words : Array (Option Value)}
    {f_table_width : Addr} {oc_table_width kV_table_width dc_table_width pm_table_width cd_table_width ct_table_width : Value} {od_table_width an_table_width : Option Addr} {sl_table_width : Array (Option Value)}
    {f_is_row : Addr} {oc_is_row kV_is_row dc_is_row pm_is_row cd_is_row ct_is_row : Value} {od_is_row an_is_row : Option Addr} {sl_is_row : Array (Option Value)}
    {f_is_row_of : Addr} {oc_is_row_of kV_is_row_of dc_is_row_of pm_is_row_of cd_is_row_of ct_is_row_of : Value} {od_is_row_of an_is_row_of : Option Addr} {sl_is_row_of : Array (Option Value)}
    {f__law_begun : Addr} {oc__law_begun kV__law_begun dc__law_begun pm__law_begun cd__law_begun ct__law_begun : Value} {od__law_begun an__law_begun : Option Addr} {sl__law_begun : Array (Option Value)}
    {f__law_blended : Addr} {oc__law_blended kV__law_blended dc__law_blended pm__law_blended cd__law_blended ct__law_blended : Value} {od__law_blended an__law_blended : Option Addr} {sl__law_blended : Array (Option Value)}
    {f__law_draw : Addr} {oc__law_draw kV__law_draw dc__law_draw pm__law_draw cd__law_draw ct__law_draw : Value} {od__law_draw an__law_draw : Option Addr} {sl__law_draw : Array (Option Value)}
    {f__law_pick : Addr} {oc__law_pick kV__law_pick dc__law_pick pm__law_pick cd__law_pick ct__law_pick : Value} {od__law_pick an__law_pick : Option Addr} {sl__law_pick : Array (Option Value)}
    {f__law_shuffled : Addr} {oc__law_shuffled kV__law_shuffled dc__law_shuffled pm__law_shuffled cd__law_shuffled ct__law_shuffled : Value} {od__law_shuffled an__law_shuffled : Option Addr} {sl__law_shuffled : Array (Option Value)}
    {f__law_caught : Addr} {oc__law_caught kV__law_caught dc__law_caught pm__law_caught cd__law_caught ct__law_caught : Value} {od__law_caught an__law_caught : Option Addr} {sl__law_caught : Array (Option Value)}
    {f__law_is_truth : Addr} {oc__law_is_truth kV__law_is_truth dc__law_is_truth pm__law_is_truth cd__law_is_truth ct__law_is_truth : Value} {od__law_is_truth an__law_is_truth : Option Addr} {sl__law_is_truth : Array (Option Value)}
    {f__law_same : Addr} {oc__law_same kV__law_same dc__law_same pm__law_same cd__law_same ct__law_same : Value} {od__law_same an__law_same : Option Addr} {sl__law_same : Array (Option Value)}
    {f__law_words : Addr} {oc__law_words kV__law_words dc__law_words pm__law_words cd__law_words ct__law_words : Value} {od__law_words an__law_words : Option Addr} {sl__law_words : Array (Option Value)}
    {f__law_is_word : Addr} {oc__law_is_word kV__law_is_word dc__law_is_word pm__law_is_word cd__law_is_word ct__law_is_word : Value} {od__law_is_word an__law_is_word : Option Addr} {sl__law_is_word : Array (Option Value)}
    {f__law_kept : Addr} {oc__law_kept kV__law_kept dc__law_kept pm__law_kept cd__law_kept ct__law_kept : Value} {od__law_kept an__law_kept : Option Addr} {sl__law_kept : Array (Option Value)}
    {f__law_free_words : Addr} {oc__law_free_words kV__law_free_words dc__law_free_words pm__law_free_words cd__law_free_words ct__law_free_words : Value} {od__law_free_words an__law_free_words : Option Addr} {sl__law_free_words : Array (Option Value)}
    {f__law_schema : Addr} {oc__law_schema kV__law_schema dc__law_schema pm__law_schema cd__law_schema ct__law_schema : Value} {od__law_schema an__law_schema : Option Addr} {sl__law_schema : Array (Option Value)}
    {f__law_odd : Addr} {oc__law_odd kV__law_odd dc__law_odd pm__law_odd cd__law_odd ct__law_odd : Value} {od__law_odd an__law_odd : Option Addr} {sl__law_odd : Array (Option Value)}
    {f__law_is_free : Addr} {oc__law_is_free kV__law_is_free dc__law_is_free pm__law_is_free cd__law_is_free ct__law_is_free : Value} {od__law_is_free an__law_is_free : Option Addr} {sl__law_is_free : Array (Option Value)}
    {f__law_is_schema : Addr} {oc__law_is_schema kV__law_is_schema dc__law_is_schema pm__law_is_schema cd__law_is_schema ct__law_is_schema : Value} {od__law_is_schema an__law_is_schema : Option Addr} {sl__law_is_schema : Array (Option Value)}
    {f__law_bent : Addr} {oc__law_bent kV__law_bent dc__law_bent pm__law_bent cd__law_bent ct__law_bent : Value} {od__law_bent an__law_bent : Option Addr} {sl__law_bent : Array (Option Value)}
    {f_law : Addr} {oc_law kV_law dc_law pm_law ct_law : Value} {od_law an_law : Option Addr} {sl_law : Array (Option Value)}
    (a_is_word : PySem.W.nsIn K mainGlobals "is_word" = some (some (.ref f_is_word)))
    (l_is_word : K.lookup f_is_word = some ⟨oc_is_word, od_is_word, .func (PySem.W.fnOf "is_word" "is_word" (defArgs s_is_word) (defBody s_is_word) (defScope s_is_word) .none kV_is_word dc_is_word pm_is_word an_is_word cd_is_word ct_is_word), sl_is_word⟩)
    (o_is_word : PySem.W.codeIn K cd_is_word "is_word" = true)
    (k_is_word : PySem.W.keepIn K (.ref f_is_word) = true)
    (a_is_whole : PySem.W.nsIn K mainGlobals "is_whole" = some (some (.ref f_is_whole)))
    (l_is_whole : K.lookup f_is_whole = some ⟨oc_is_whole, od_is_whole, .func (PySem.W.fnOf "is_whole" "is_whole" (defArgs s_is_whole) (defBody s_is_whole) (defScope s_is_whole) .none kV_is_whole dc_is_whole pm_is_whole an_is_whole cd_is_whole ct_is_whole), sl_is_whole⟩)
    (o_is_whole : PySem.W.codeIn K cd_is_whole "is_whole" = true)
    (k_is_whole : PySem.W.keepIn K (.ref f_is_whole) = true)
    (a_is_free_word : PySem.W.nsIn K mainGlobals "is_free_word" = some (some (.ref f_is_free_word)))
    (l_is_free_word : K.lookup f_is_free_word = some ⟨oc_is_free_word, od_is_free_word, .func (PySem.W.fnOf "is_free_word" "is_free_word" (defArgs s_is_free_word) (defBody s_is_free_word) (defScope s_is_free_word) .none kV_is_free_word dc_is_free_word pm_is_free_word an_is_free_word cd_is_free_word ct_is_free_word), sl_is_free_word⟩)
    (o_is_free_word : PySem.W.codeIn K cd_is_free_word "is_free_word" = true)
    (k_is_free_word : PySem.W.keepIn K (.ref f_is_free_word) = true)
    (a_is_table_pair : PySem.W.nsIn K mainGlobals "is_table_pair" = some (some (.ref f_is_table_pair)))
    (l_is_table_pair : K.lookup f_is_table_pair = some ⟨oc_is_table_pair, od_is_table_pair, .func (PySem.W.fnOf "is_table_pair" "is_table_pair" (defArgs s_is_table_pair) (defBody s_is_table_pair) (defScope s_is_table_pair) .none kV_is_table_pair dc_is_table_pair pm_is_table_pair an_is_table_pair cd_is_table_pair ct_is_table_pair), sl_is_table_pair⟩)
    (o_is_table_pair : PySem.W.codeIn K cd_is_table_pair "is_table_pair" = true)
    (k_is_table_pair : PySem.W.keepIn K (.ref f_is_table_pair) = true)
    (a_are_tables : PySem.W.nsIn K mainGlobals "are_tables" = some (some (.ref f_are_tables)))
    (l_are_tables : K.lookup f_are_tables = some ⟨oc_are_tables, od_are_tables, .func (PySem.W.fnOf "are_tables" "are_tables" (defArgs s_are_tables) (defBody s_are_tables) (defScope s_are_tables) .none kV_are_tables dc_are_tables pm_are_tables an_are_tables cd_are_tables ct_are_tables), sl_are_tables⟩)
    (o_are_tables : PySem.W.codeIn K cd_are_tables "are_tables" = true)
    (k_are_tables : PySem.W.keepIn K (.ref f_are_tables) = true)
    (a_are_names : PySem.W.nsIn K mainGlobals "are_names" = some (some (.ref f_are_names)))
    (l_are_names : K.lookup f_are_names = some ⟨oc_are_names, od_are_names, .func (PySem.W.fnOf "are_names" "are_names" (defArgs s_are_names) (defBody s_are_names) (defScope s_are_names) .none kV_are_names dc_are_names pm_are_names an_are_names cd_are_names ct_are_names), sl_are_names⟩)
    (o_are_names : PySem.W.codeIn K cd_are_names "are_names" = true)
    (k_are_names : PySem.W.keepIn K (.ref f_are_names) = true)
    (a_is_schema : PySem.W.nsIn K mainGlobals "is_schema" = some (some (.ref f_is_schema)))
    (l_is_schema : K.lookup f_is_schema = some ⟨oc_is_schema, od_is_schema, .func (PySem.W.fnOf "is_schema" "is_schema" (defArgs s_is_schema) (defBody s_is_schema) (defScope s_is_schema) .none kV_is_schema dc_is_schema pm_is_schema an_is_schema cd_is_schema ct_is_schema), sl_is_schema⟩)
    (o_is_schema : PySem.W.codeIn K cd_is_schema "is_schema" = true)
    (k_is_schema : PySem.W.keepIn K (.ref f_is_schema) = true)
    (a_need_schema : PySem.W.nsIn K mainGlobals "need_schema" = some (some (.ref f_need_schema)))
    (l_need_schema : K.lookup f_need_schema = some ⟨oc_need_schema, od_need_schema, .func (PySem.W.fnOf "need_schema" "need_schema" (defArgs s_need_schema) (defBody s_need_schema) (defScope s_need_schema) .none kV_need_schema dc_need_schema pm_need_schema an_need_schema cd_need_schema ct_need_schema), sl_need_schema⟩)
    (o_need_schema : PySem.W.codeIn K cd_need_schema "need_schema" = true)
    (k_need_schema : PySem.W.keepIn K (.ref f_need_schema) = true)
    (a_widths_of : PySem.W.nsIn K mainGlobals "widths_of" = some (some (.ref f_widths_of)))
    (l_widths_of : K.lookup f_widths_of = some ⟨oc_widths_of, od_widths_of, .func (PySem.W.fnOf "widths_of" "widths_of" (defArgs s_widths_of) (defBody s_widths_of) (defScope s_widths_of) .none kV_widths_of dc_widths_of pm_widths_of an_widths_of cd_widths_of ct_widths_of), sl_widths_of⟩)
    (o_widths_of : PySem.W.codeIn K cd_widths_of "widths_of" = true)
    (k_widths_of : PySem.W.keepIn K (.ref f_widths_of) = true)
    (a_need_table : PySem.W.nsIn K mainGlobals "need_table" = some (some (.ref f_need_table)))
    (l_need_table : K.lookup f_need_table = some ⟨oc_need_table, od_need_table, .func (PySem.W.fnOf "need_table" "need_table" (defArgs s_need_table) (defBody s_need_table) (defScope s_need_table) .none kV_need_table dc_need_table pm_need_table an_need_table cd_need_table ct_need_table), sl_need_table⟩)
    (o_need_table : PySem.W.codeIn K cd_need_table "need_table" = true)
    (k_need_table : PySem.W.keepIn K (.ref f_need_table) = true)
    (a_table_words : PySem.W.nsIn K mainGlobals "table_words" = some (some (.ref f_table_words)))
    (l_table_words : K.lookup f_table_words = some ⟨oc_table_words, od_table_words, .func (PySem.W.fnOf "table_words" "table_words" (defArgs s_table_words) (defBody s_table_words) (defScope s_table_words) .none kV_table_words dc_table_words pm_table_words an_table_words cd_table_words ct_table_words), sl_table_words⟩)
    (o_table_words : PySem.W.codeIn K cd_table_words "table_words" = true)
    (k_table_words : PySem.W.keepIn K (.ref f_table_words) = true)
    (a_table_width : PySem.W.nsIn K mainGlobals "table_width" = some (some (.ref f_table_width)))
    (l_table_width : K.lookup f_table_width = some ⟨oc_table_width, od_table_width, .func (PySem.W.fnOf "table_width" "table_width" (defArgs s_table_width) (defBody s_table_width) (defScope s_table_width) .none kV_table_width dc_table_width pm_table_width an_table_width cd_table_width ct_table_width), sl_table_width⟩)
    (o_table_width : PySem.W.codeIn K cd_table_width "table_width" = true)
    (k_table_width : PySem.W.keepIn K (.ref f_table_width) = true)
    (a_is_row : PySem.W.nsIn K mainGlobals "is_row" = some (some (.ref f_is_row)))
    (l_is_row : K.lookup f_is_row = some ⟨oc_is_row, od_is_row, .func (PySem.W.fnOf "is_row" "is_row" (defArgs s_is_row) (defBody s_is_row) (defScope s_is_row) .none kV_is_row dc_is_row pm_is_row an_is_row cd_is_row ct_is_row), sl_is_row⟩)
    (o_is_row : PySem.W.codeIn K cd_is_row "is_row" = true)
    (k_is_row : PySem.W.keepIn K (.ref f_is_row) = true)
    (a_is_row_of : PySem.W.nsIn K mainGlobals "is_row_of" = some (some (.ref f_is_row_of)))
    (l_is_row_of : K.lookup f_is_row_of = some ⟨oc_is_row_of, od_is_row_of, .func (PySem.W.fnOf "is_row_of" "is_row_of" (defArgs s_is_row_of) (defBody s_is_row_of) (defScope s_is_row_of) .none kV_is_row_of dc_is_row_of pm_is_row_of an_is_row_of cd_is_row_of ct_is_row_of), sl_is_row_of⟩)
    (o_is_row_of : PySem.W.codeIn K cd_is_row_of "is_row_of" = true)
    (k_is_row_of : PySem.W.keepIn K (.ref f_is_row_of) = true)
    (a__law_begun : PySem.W.nsIn K mainGlobals "_law_begun" = some (some (.ref f__law_begun)))
    (l__law_begun : K.lookup f__law_begun = some ⟨oc__law_begun, od__law_begun, .func (PySem.W.fnOf "_law_begun" "_law_begun" (defArgs s__law_begun) (defBody s__law_begun) (defScope s__law_begun) .none kV__law_begun dc__law_begun pm__law_begun an__law_begun cd__law_begun ct__law_begun), sl__law_begun⟩)
    (o__law_begun : PySem.W.codeIn K cd__law_begun "_law_begun" = true)
    (k__law_begun : PySem.W.keepIn K (.ref f__law_begun) = true)
    (a__law_blended : PySem.W.nsIn K mainGlobals "_law_blended" = some (some (.ref f__law_blended)))
    (l__law_blended : K.lookup f__law_blended = some ⟨oc__law_blended, od__law_blended, .func (PySem.W.fnOf "_law_blended" "_law_blended" (defArgs s__law_blended) (defBody s__law_blended) (defScope s__law_blended) .none kV__law_blended dc__law_blended pm__law_blended an__law_blended cd__law_blended ct__law_blended), sl__law_blended⟩)
    (o__law_blended : PySem.W.codeIn K cd__law_blended "_law_blended" = true)
    (k__law_blended : PySem.W.keepIn K (.ref f__law_blended) = true)
    (a__law_draw : PySem.W.nsIn K mainGlobals "_law_draw" = some (some (.ref f__law_draw)))
    (l__law_draw : K.lookup f__law_draw = some ⟨oc__law_draw, od__law_draw, .func (PySem.W.fnOf "_law_draw" "_law_draw" (defArgs s__law_draw) (defBody s__law_draw) (defScope s__law_draw) .none kV__law_draw dc__law_draw pm__law_draw an__law_draw cd__law_draw ct__law_draw), sl__law_draw⟩)
    (o__law_draw : PySem.W.codeIn K cd__law_draw "_law_draw" = true)
    (k__law_draw : PySem.W.keepIn K (.ref f__law_draw) = true)
    (a__law_pick : PySem.W.nsIn K mainGlobals "_law_pick" = some (some (.ref f__law_pick)))
    (l__law_pick : K.lookup f__law_pick = some ⟨oc__law_pick, od__law_pick, .func (PySem.W.fnOf "_law_pick" "_law_pick" (defArgs s__law_pick) (defBody s__law_pick) (defScope s__law_pick) .none kV__law_pick dc__law_pick pm__law_pick an__law_pick cd__law_pick ct__law_pick), sl__law_pick⟩)
    (o__law_pick : PySem.W.codeIn K cd__law_pick "_law_pick" = true)
    (k__law_pick : PySem.W.keepIn K (.ref f__law_pick) = true)
    (a__law_shuffled : PySem.W.nsIn K mainGlobals "_law_shuffled" = some (some (.ref f__law_shuffled)))
    (l__law_shuffled : K.lookup f__law_shuffled = some ⟨oc__law_shuffled, od__law_shuffled, .func (PySem.W.fnOf "_law_shuffled" "_law_shuffled" (defArgs s__law_shuffled) (defBody s__law_shuffled) (defScope s__law_shuffled) .none kV__law_shuffled dc__law_shuffled pm__law_shuffled an__law_shuffled cd__law_shuffled ct__law_shuffled), sl__law_shuffled⟩)
    (o__law_shuffled : PySem.W.codeIn K cd__law_shuffled "_law_shuffled" = true)
    (k__law_shuffled : PySem.W.keepIn K (.ref f__law_shuffled) = true)
    (a__law_caught : PySem.W.nsIn K mainGlobals "_law_caught" = some (some (.ref f__law_caught)))
    (l__law_caught : K.lookup f__law_caught = some ⟨oc__law_caught, od__law_caught, .func (PySem.W.fnOf "_law_caught" "_law_caught" (defArgs s__law_caught) (defBody s__law_caught) (defScope s__law_caught) .none kV__law_caught dc__law_caught pm__law_caught an__law_caught cd__law_caught ct__law_caught), sl__law_caught⟩)
    (o__law_caught : PySem.W.codeIn K cd__law_caught "_law_caught" = true)
    (k__law_caught : PySem.W.keepIn K (.ref f__law_caught) = true)
    (a__law_is_truth : PySem.W.nsIn K mainGlobals "_law_is_truth" = some (some (.ref f__law_is_truth)))
    (l__law_is_truth : K.lookup f__law_is_truth = some ⟨oc__law_is_truth, od__law_is_truth, .func (PySem.W.fnOf "_law_is_truth" "_law_is_truth" (defArgs s__law_is_truth) (defBody s__law_is_truth) (defScope s__law_is_truth) .none kV__law_is_truth dc__law_is_truth pm__law_is_truth an__law_is_truth cd__law_is_truth ct__law_is_truth), sl__law_is_truth⟩)
    (o__law_is_truth : PySem.W.codeIn K cd__law_is_truth "_law_is_truth" = true)
    (k__law_is_truth : PySem.W.keepIn K (.ref f__law_is_truth) = true)
    (a__law_same : PySem.W.nsIn K mainGlobals "_law_same" = some (some (.ref f__law_same)))
    (l__law_same : K.lookup f__law_same = some ⟨oc__law_same, od__law_same, .func (PySem.W.fnOf "_law_same" "_law_same" (defArgs s__law_same) (defBody s__law_same) (defScope s__law_same) .none kV__law_same dc__law_same pm__law_same an__law_same cd__law_same ct__law_same), sl__law_same⟩)
    (o__law_same : PySem.W.codeIn K cd__law_same "_law_same" = true)
    (k__law_same : PySem.W.keepIn K (.ref f__law_same) = true)
    (a__law_words : PySem.W.nsIn K mainGlobals "_law_words" = some (some (.ref f__law_words)))
    (l__law_words : K.lookup f__law_words = some ⟨oc__law_words, od__law_words, .func (PySem.W.fnOf "_law_words" "_law_words" (defArgs s__law_words) (defBody s__law_words) (defScope s__law_words) .none kV__law_words dc__law_words pm__law_words an__law_words cd__law_words ct__law_words), sl__law_words⟩)
    (o__law_words : PySem.W.codeIn K cd__law_words "_law_words" = true)
    (k__law_words : PySem.W.keepIn K (.ref f__law_words) = true)
    (a__law_is_word : PySem.W.nsIn K mainGlobals "_law_is_word" = some (some (.ref f__law_is_word)))
    (l__law_is_word : K.lookup f__law_is_word = some ⟨oc__law_is_word, od__law_is_word, .func (PySem.W.fnOf "_law_is_word" "_law_is_word" (defArgs s__law_is_word) (defBody s__law_is_word) (defScope s__law_is_word) .none kV__law_is_word dc__law_is_word pm__law_is_word an__law_is_word cd__law_is_word ct__law_is_word), sl__law_is_word⟩)
    (o__law_is_word : PySem.W.codeIn K cd__law_is_word "_law_is_word" = true)
    (k__law_is_word : PySem.W.keepIn K (.ref f__law_is_word) = true)
    (a__law_kept : PySem.W.nsIn K mainGlobals "_law_kept" = some (some (.ref f__law_kept)))
    (l__law_kept : K.lookup f__law_kept = some ⟨oc__law_kept, od__law_kept, .func (PySem.W.fnOf "_law_kept" "_law_kept" (defArgs s__law_kept) (defBody s__law_kept) (defScope s__law_kept) .none kV__law_kept dc__law_kept pm__law_kept an__law_kept cd__law_kept ct__law_kept), sl__law_kept⟩)
    (o__law_kept : PySem.W.codeIn K cd__law_kept "_law_kept" = true)
    (k__law_kept : PySem.W.keepIn K (.ref f__law_kept) = true)
    (a__law_free_words : PySem.W.nsIn K mainGlobals "_law_free_words" = some (some (.ref f__law_free_words)))
    (l__law_free_words : K.lookup f__law_free_words = some ⟨oc__law_free_words, od__law_free_words, .func (PySem.W.fnOf "_law_free_words" "_law_free_words" (defArgs s__law_free_words) (defBody s__law_free_words) (defScope s__law_free_words) .none kV__law_free_words dc__law_free_words pm__law_free_words an__law_free_words cd__law_free_words ct__law_free_words), sl__law_free_words⟩)
    (o__law_free_words : PySem.W.codeIn K cd__law_free_words "_law_free_words" = true)
    (k__law_free_words : PySem.W.keepIn K (.ref f__law_free_words) = true)
    (a__law_schema : PySem.W.nsIn K mainGlobals "_law_schema" = some (some (.ref f__law_schema)))
    (l__law_schema : K.lookup f__law_schema = some ⟨oc__law_schema, od__law_schema, .func (PySem.W.fnOf "_law_schema" "_law_schema" (defArgs s__law_schema) (defBody s__law_schema) (defScope s__law_schema) .none kV__law_schema dc__law_schema pm__law_schema an__law_schema cd__law_schema ct__law_schema), sl__law_schema⟩)
    (o__law_schema : PySem.W.codeIn K cd__law_schema "_law_schema" = true)
    (k__law_schema : PySem.W.keepIn K (.ref f__law_schema) = true)
    (a__law_odd : PySem.W.nsIn K mainGlobals "_law_odd" = some (some (.ref f__law_odd)))
    (l__law_odd : K.lookup f__law_odd = some ⟨oc__law_odd, od__law_odd, .func (PySem.W.fnOf "_law_odd" "_law_odd" (defArgs s__law_odd) (defBody s__law_odd) (defScope s__law_odd) .none kV__law_odd dc__law_odd pm__law_odd an__law_odd cd__law_odd ct__law_odd), sl__law_odd⟩)
    (o__law_odd : PySem.W.codeIn K cd__law_odd "_law_odd" = true)
    (k__law_odd : PySem.W.keepIn K (.ref f__law_odd) = true)
    (a__law_is_free : PySem.W.nsIn K mainGlobals "_law_is_free" = some (some (.ref f__law_is_free)))
    (l__law_is_free : K.lookup f__law_is_free = some ⟨oc__law_is_free, od__law_is_free, .func (PySem.W.fnOf "_law_is_free" "_law_is_free" (defArgs s__law_is_free) (defBody s__law_is_free) (defScope s__law_is_free) .none kV__law_is_free dc__law_is_free pm__law_is_free an__law_is_free cd__law_is_free ct__law_is_free), sl__law_is_free⟩)
    (o__law_is_free : PySem.W.codeIn K cd__law_is_free "_law_is_free" = true)
    (k__law_is_free : PySem.W.keepIn K (.ref f__law_is_free) = true)
    (a__law_is_schema : PySem.W.nsIn K mainGlobals "_law_is_schema" = some (some (.ref f__law_is_schema)))
    (l__law_is_schema : K.lookup f__law_is_schema = some ⟨oc__law_is_schema, od__law_is_schema, .func (PySem.W.fnOf "_law_is_schema" "_law_is_schema" (defArgs s__law_is_schema) (defBody s__law_is_schema) (defScope s__law_is_schema) .none kV__law_is_schema dc__law_is_schema pm__law_is_schema an__law_is_schema cd__law_is_schema ct__law_is_schema), sl__law_is_schema⟩)
    (o__law_is_schema : PySem.W.codeIn K cd__law_is_schema "_law_is_schema" = true)
    (k__law_is_schema : PySem.W.keepIn K (.ref f__law_is_schema) = true)
    (a__law_bent : PySem.W.nsIn K mainGlobals "_law_bent" = some (some (.ref f__law_bent)))
    (l__law_bent : K.lookup f__law_bent = some ⟨oc__law_bent, od__law_bent, .func (PySem.W.fnOf "_law_bent" "_law_bent" (defArgs s__law_bent) (defBody s__law_bent) (defScope s__law_bent) .none kV__law_bent dc__law_bent pm__law_bent an__law_bent cd__law_bent ct__law_bent), sl__law_bent⟩)
    (o__law_bent : PySem.W.codeIn K cd__law_bent "_law_bent" = true)
    (k__law_bent : PySem.W.keepIn K (.ref f__law_bent) = true)
    (a_law : PySem.W.nsIn K mainGlobals "law" = some (some (.ref f_law)))
    (l_law : K.lookup f_law = some ⟨oc_law, od_law, .func (PySem.W.fnOf "law" "law" (defArgs s_law) (defBody s_law) (defScope s_law) .none kV_law dc_law pm_law an_law (.ref cL) ct_law), sl_law⟩)
    (o_law : PySem.W.codeIn K (.ref cL) "law" = true)
    (z_isinstance : PySem.W.nsIn K mainGlobals "isinstance" = some none)
    (z_len : PySem.W.nsIn K mainGlobals "len" = some none)
    (z_all : PySem.W.nsIn K mainGlobals "all" = some none)
    (z_str : PySem.W.nsIn K mainGlobals "str" = some none)
    (z_int : PySem.W.nsIn K mainGlobals "int" = some none)
    (z_bool : PySem.W.nsIn K mainGlobals "bool" = some none)
    (z_tuple : PySem.W.nsIn K mainGlobals "tuple" = some none)
    (z_list : PySem.W.nsIn K mainGlobals "list" = some none)
    (z_dict : PySem.W.nsIn K mainGlobals "dict" = some none)
    (z_set : PySem.W.nsIn K mainGlobals "set" = some none)
    (z_zip : PySem.W.nsIn K mainGlobals "zip" = some none)
    (z_abs : PySem.W.nsIn K mainGlobals "abs" = some none)
    (z_min : PySem.W.nsIn K mainGlobals "min" = some none)
    (z_range : PySem.W.nsIn K mainGlobals "range" = some none)
    (z_sorted : PySem.W.nsIn K mainGlobals "sorted" = some none)
    (z_ValueError : PySem.W.nsIn K mainGlobals "ValueError" = some none)
    (a_LETTERS : PySem.W.nsIn K mainGlobals "LETTERS" = some (some (.str zL tL)))
    (e_LETTERS : zL = abc)
    (a_MOST_WIDTH : PySem.W.nsIn K mainGlobals "MOST_WIDTH" = some (some (.int 3 t_MOST_WIDTH)))
    (a_MOST_TABLES : PySem.W.nsIn K mainGlobals "MOST_TABLES" = some (some (.int 3 t_MOST_TABLES)))
    (a_MOST_NAMES : PySem.W.nsIn K mainGlobals "MOST_NAMES" = some (some (.int 2 t_MOST_NAMES)))
    (a_KEPT : PySem.W.nsIn K mainGlobals "KEPT" = some (some (.ref kA)))
    (l_KEPT : K.lookup kA = some ⟨.type "tuple", dK, .seq itK nK, slK⟩)
    (s_KEPT : itK.size ≤ sizeLine)
    (v_KEPT : Vals (keptS.map V.str) itK.toList)
    (a_BS : PySem.W.nsIn K mainGlobals "BadSchema" = some (some (.ref BS)))
    (b_BS : PySem.W.subIn K (.ref BS) (.type "BaseException") = some true)
    (t_BS : PySem.W.typeIn K (.ref BS) = some (.type "type"))
    (d_BS : PySem.W.hasDictIn K BS = true)
    (x_BS : PySem.W.excIn K BS [.type "ValueError", .type "Exception", .type "BaseException", .type "object"] "ValueError.__new__" = true)
    (k_BS : PySem.W.keepIn K (.ref BS) = true)
    (g_BS : PySem.W.findIn K (.ref BS) "__getattribute__" = some (some (.builtin "BaseException.__getattribute__")))
    (h_BS : PySem.W.findIn K (.ref BS) "__getattr__" = some none)
    (i_BS : PySem.W.findIn K (.ref BS) "__class__" = some (some (.builtin "object.__class__")))
    (m_BS : PySem.W.mroIn K BS (.type "object") = some true)
    (a_BT : PySem.W.nsIn K mainGlobals "BadTable" = some (some (.ref BT)))
    (b_BT : PySem.W.subIn K (.ref BT) (.type "BaseException") = some true)
    (t_BT : PySem.W.typeIn K (.ref BT) = some (.type "type"))
    (d_BT : PySem.W.hasDictIn K BT = true)
    (x_BT : PySem.W.excIn K BT [.type "ValueError", .type "Exception", .type "BaseException", .type "object"] "ValueError.__new__" = true)
    (k_BT : PySem.W.keepIn K (.ref BT) = true)
    (g_BT : PySem.W.findIn K (.ref BT) "__getattribute__" = some (some (.builtin "BaseException.__getattribute__")))
    (h_BT : PySem.W.findIn K (.ref BT) "__getattr__" = some none)
    (i_BT : PySem.W.findIn K (.ref BT) "__class__" = some (some (.builtin "object.__class__")))
    (m_BT : PySem.W.mroIn K BT (.type "object") = some true)
    (a_SE : PySem.W.nsIn K mainGlobals "ShowError" = some (some (.ref SE)))
    (b_SE : PySem.W.subIn K (.ref SE) (.type "BaseException") = some true)
    (t_SE : PySem.W.typeIn K (.ref SE) = some (.type "type"))
    (d_SE : PySem.W.hasDictIn K SE = true)
    (n_get : PySem.W.specialIn K (.builtin "object.__class__") "__get__" = some (some (.builtin "getset_descriptor.__get__")))
    (n_tk : PySem.W.takesIn K (.builtin "object.__class__") = some true)
    (s_BS_BT : PySem.W.subIn K (.ref BS) (.ref BT) = some false)
    (n_BS_BT : BS ≠ BT)
    (s_BS_SE : PySem.W.subIn K (.ref BS) (.ref SE) = some true)
    (n_BS_SE : BS ≠ SE)
    (s_BT_BS : PySem.W.subIn K (.ref BT) (.ref BS) = some false)
    (n_BT_BS : BT ≠ BS)
    (s_BT_SE : PySem.W.subIn K (.ref BT) (.ref SE) = some true)
    (n_BT_SE : BT ≠ SE)
    (s_BT_VE : PySem.W.subIn K (.ref BT) (.type "ValueError") = some true)
    (l_C : K.lookup cL = some ⟨.type "code", dC, .fields vC, sC⟩)
    (v_11 : vC[11]? = some (.ref P'))
    (w_11 : vC.getD 11 .none = .ref P')
    (w_18 : vC.getD 18 .none = .str fileC tfC)
    (w_7 : vC.getD 7 .none = .int flC tgC)
    (w_9 : vC.getD 9 .none = .bool inC)
    (w_10 : vC.getD 10 .none = .int txC ttC)
    (n_P : cL ≠ P')
    (l_P : K.lookup P' = none) :
    LamX.LawAtS l w K CX0 11 63 "script" mg fa h := by
  have e := hfa.symm.trans (PySem.W.mg_of X G a_law)
  cases e
  have T : Top K mg := ⟨PySem.W.mg_none_of X G z_isinstance, PySem.W.mg_none_of X G z_len, PySem.W.mg_none_of X G z_all, PySem.W.mg_none_of X G z_str, PySem.W.mg_none_of X G z_int, PySem.W.mg_none_of X G z_bool, PySem.W.mg_none_of X G z_tuple, PySem.W.mg_none_of X G z_list, PySem.W.mg_none_of X G z_dict, PySem.W.mg_none_of X G z_set, PySem.W.mg_none_of X G z_zip, PySem.W.mg_none_of X G z_abs, PySem.W.mg_none_of X G z_min, PySem.W.mg_none_of X G z_range, PySem.W.mg_none_of X G z_sorted, ⟨tL, by rw [PySem.W.mg_of X G a_LETTERS, e_LETTERS]⟩, ⟨_, PySem.W.mg_of X G a_MOST_WIDTH⟩, ⟨_, PySem.W.mg_of X G a_MOST_TABLES⟩, ⟨_, PySem.W.mg_of X G a_MOST_NAMES⟩, ⟨kA, PySem.W.mg_of X G a_KEPT, fun H => .inr ⟨_, itK, nK, l_KEPT, rfl, rfl, s_KEPT, v_KEPT⟩⟩⟩
  have eS : ErrC K mg "BadSchema" BS := ⟨PySem.W.mg_of X G a_BS, x_BS, k_BS, b_BS, t_BS⟩
  have eT : ErrC K mg "BadTable" BT := ⟨PySem.W.mg_of X G a_BT, x_BT, k_BT, b_BT, t_BT⟩
  have exS : ExcC K BS := ⟨g_BS, h_BS, b_BS, d_BS, i_BS, n_get, n_tk, m_BS⟩
  have exT : ExcC K BT := ⟨g_BT, h_BT, b_BT, d_BT, i_BT, n_get, n_tk, m_BT⟩
  have F_is_word := fun_mk (st := s_is_word) l_is_word o_is_word k_is_word
  have F_is_whole := fun_mk (st := s_is_whole) l_is_whole o_is_whole k_is_whole
  have F_is_free_word := fun_mk (st := s_is_free_word) l_is_free_word o_is_free_word k_is_free_word
  have F_is_table_pair := fun_mk (st := s_is_table_pair) l_is_table_pair o_is_table_pair k_is_table_pair
  have F_are_tables := fun_mk (st := s_are_tables) l_are_tables o_are_tables k_are_tables
  have F_are_names := fun_mk (st := s_are_names) l_are_names o_are_names k_are_names
  have F_is_schema := fun_mk (st := s_is_schema) l_is_schema o_is_schema k_is_schema
  have F_need_schema := fun_mk (st := s_need_schema) l_need_schema o_need_schema k_need_schema
  have F_widths_of := fun_mk (st := s_widths_of) l_widths_of o_widths_of k_widths_of
  have F_need_table := fun_mk (st := s_need_table) l_need_table o_need_table k_need_table
  have F_table_words := fun_mk (st := s_table_words) l_table_words o_table_words k_table_words
  have F_table_width := fun_mk (st := s_table_width) l_table_width o_table_width k_table_width
  have F_is_row := fun_mk (st := s_is_row) l_is_row o_is_row k_is_row
  have F_is_row_of := fun_mk (st := s_is_row_of) l_is_row_of o_is_row_of k_is_row_of
  have F__law_begun := fun_mk (st := s__law_begun) l__law_begun o__law_begun k__law_begun
  have F__law_blended := fun_mk (st := s__law_blended) l__law_blended o__law_blended k__law_blended
  have F__law_draw := fun_mk (st := s__law_draw) l__law_draw o__law_draw k__law_draw
  have F__law_pick := fun_mk (st := s__law_pick) l__law_pick o__law_pick k__law_pick
  have F__law_shuffled := fun_mk (st := s__law_shuffled) l__law_shuffled o__law_shuffled k__law_shuffled
  have F__law_caught := fun_mk (st := s__law_caught) l__law_caught o__law_caught k__law_caught
  have F__law_is_truth := fun_mk (st := s__law_is_truth) l__law_is_truth o__law_is_truth k__law_is_truth
  have F__law_same := fun_mk (st := s__law_same) l__law_same o__law_same k__law_same
  have F__law_words := fun_mk (st := s__law_words) l__law_words o__law_words k__law_words
  have F__law_is_word := fun_mk (st := s__law_is_word) l__law_is_word o__law_is_word k__law_is_word
  have F__law_kept := fun_mk (st := s__law_kept) l__law_kept o__law_kept k__law_kept
  have F__law_free_words := fun_mk (st := s__law_free_words) l__law_free_words o__law_free_words k__law_free_words
  have F__law_schema := fun_mk (st := s__law_schema) l__law_schema o__law_schema k__law_schema
  have F__law_odd := fun_mk (st := s__law_odd) l__law_odd o__law_odd k__law_odd
  have F__law_is_free := fun_mk (st := s__law_is_free) l__law_is_free o__law_is_free k__law_is_free
  have F__law_is_schema := fun_mk (st := s__law_is_schema) l__law_is_schema o__law_is_schema k__law_is_schema
  have F__law_bent := fun_mk (st := s__law_bent) l__law_bent o__law_bent k__law_bent
  refine ⟨PySem.W.fnOf "law" "law" (defArgs s_law) (defBody s_law) (defScope s_law) .none kV_law dc_law pm_law an_law (.ref cL) ct_law, [(cL, P')], spLaw K P', fun p hp => ?_, fun p hp => ?_, fun p hp => ?_, fun s u => .of_eq rfl, fun H a ns hl _ hT hS => ?_, fun base _ _ hTB => ?_⟩
  · rw [List.mem_singleton.mp hp]
    exact own cL P' _ _ _ _ _ _ l_law rfl rfl l_C v_11
  · rw [List.mem_singleton.mp hp]
    exact l_P
  · rw [List.mem_singleton.mp hp]
    exact ⟨_, vC, fileC, tfC, flC, tgC, inC, txC, ttC, X _ _ l_C, rfl, rfl, v_11, w_11, w_18, w_7, w_9, w_10, n_P⟩
  · exact ⟨a, ns, rfl, hS, by omega, LamX.TabS.nil (hT (cL, P') (.head _)), fun _ => rfl⟩
  · exact ok_law (lawC_mk T (hTB (cL, P') (.head _)) eS eT (PySem.W.mg_of X G a_SE) (PySem.W.mg_none_of X G z_ValueError) exS exT (PySem.W.exm_ref b_SE d_SE t_SE s_BS_SE) (PySem.W.exm_ref b_SE d_SE t_SE s_BT_SE) (kit_ref n_BS_BT d_BT t_BT s_BS_BT) (kit_ref n_BS_SE d_SE t_SE s_BS_SE) (kit_ref n_BT_BS d_BS t_BS s_BT_BS) (kit_ref n_BT_SE d_SE t_SE s_BT_SE) (kit_type (by decide +kernel) s_BT_VE)
      F_is_word (PySem.W.mg_of X G a_is_word) F_is_whole (PySem.W.mg_of X G a_is_whole) F_is_free_word (PySem.W.mg_of X G a_is_free_word) F_is_table_pair (PySem.W.mg_of X G a_is_table_pair) F_are_tables (PySem.W.mg_of X G a_are_tables) F_are_names (PySem.W.mg_of X G a_are_names) F_is_schema (PySem.W.mg_of X G a_is_schema) F_need_schema (PySem.W.mg_of X G a_need_schema) F_widths_of (PySem.W.mg_of X G a_widths_of) F_need_table (PySem.W.mg_of X G a_need_table) F_table_words (PySem.W.mg_of X G a_table_words) F_table_width (PySem.W.mg_of X G a_table_width) F_is_row (PySem.W.mg_of X G a_is_row) F_is_row_of (PySem.W.mg_of X G a_is_row_of) F__law_begun (PySem.W.mg_of X G a__law_begun) F__law_blended (PySem.W.mg_of X G a__law_blended) F__law_draw (PySem.W.mg_of X G a__law_draw) F__law_pick (PySem.W.mg_of X G a__law_pick) F__law_shuffled (PySem.W.mg_of X G a__law_shuffled) F__law_caught (PySem.W.mg_of X G a__law_caught) F__law_is_truth (PySem.W.mg_of X G a__law_is_truth) F__law_same (PySem.W.mg_of X G a__law_same) F__law_words (PySem.W.mg_of X G a__law_words) F__law_is_word (PySem.W.mg_of X G a__law_is_word) F__law_kept (PySem.W.mg_of X G a__law_kept) F__law_free_words (PySem.W.mg_of X G a__law_free_words) F__law_schema (PySem.W.mg_of X G a__law_schema) F__law_odd (PySem.W.mg_of X G a__law_odd) F__law_is_free (PySem.W.mg_of X G a__law_is_free) F__law_is_schema (PySem.W.mg_of X G a__law_is_schema) F__law_bent (PySem.W.mg_of X G a__law_bent)) l_law o_law
end Qt
open PySem PySem.W PyProof.Rows
set_option maxRecDepth 100000 in
set_option maxHeartbeats 0 in
theorem PySem.Challenge.cw_queryshown_k00_schemas_and_words_holds : PySem.Challenge.rw_queryshown_k00_schemas_and_words.Holds := by
  w_on; o_law; k_head; (case hw => w_witness2)
  k_fill
  refine LamX.walk_ofOwn (l := PySem.Challenge.rw_queryshown_k00_schemas_and_words) (n := 63) (k := 11) (x := "script") (CX := fun _ => L2.CX0) rfl (by decide) rfl ⟨rfl, by decide, by decide⟩ ?hrec (fun w h Y => PySem.W.km_in_of Y) ?F (fun _ _ _ _ _ z => z)
  case hrec => first | rfl | decide +kernel
  case F =>
    intro w mg fa h Y KX G hmg own
    refine' Qt.end_mk KX G hmg own ?a_is_word ?l_is_word ?o_is_word ?k_is_word ?a_is_whole ?l_is_whole ?o_is_whole ?k_is_whole ?a_is_free_word ?l_is_free_word ?o_is_free_word ?k_is_free_word ?a_is_table_pair ?l_is_table_pair ?o_is_table_pair ?k_is_table_pair ?a_are_tables ?l_are_tables ?o_are_tables ?k_are_tables ?a_are_names ?l_are_names ?o_are_names ?k_are_names ?a_is_schema ?l_is_schema ?o_is_schema ?k_is_schema ?a_need_schema ?l_need_schema ?o_need_schema ?k_need_schema ?a_widths_of ?l_widths_of ?o_widths_of ?k_widths_of ?a_need_table ?l_need_table ?o_need_table ?k_need_table ?a_table_words ?l_table_words ?o_table_words ?k_table_words ?a_table_width ?l_table_width ?o_table_width ?k_table_width ?a_is_row ?l_is_row ?o_is_row ?k_is_row ?a_is_row_of ?l_is_row_of ?o_is_row_of ?k_is_row_of ?a__law_begun ?l__law_begun ?o__law_begun ?k__law_begun ?a__law_blended ?l__law_blended ?o__law_blended ?k__law_blended ?a__law_draw ?l__law_draw ?o__law_draw ?k__law_draw ?a__law_pick ?l__law_pick ?o__law_pick ?k__law_pick ?a__law_shuffled ?l__law_shuffled ?o__law_shuffled ?k__law_shuffled ?a__law_caught ?l__law_caught ?o__law_caught ?k__law_caught ?a__law_is_truth ?l__law_is_truth ?o__law_is_truth ?k__law_is_truth ?a__law_same ?l__law_same ?o__law_same ?k__law_same ?a__law_words ?l__law_words ?o__law_words ?k__law_words ?a__law_is_word ?l__law_is_word ?o__law_is_word ?k__law_is_word ?a__law_kept ?l__law_kept ?o__law_kept ?k__law_kept ?a__law_free_words ?l__law_free_words ?o__law_free_words ?k__law_free_words ?a__law_schema ?l__law_schema ?o__law_schema ?k__law_schema ?a__law_odd ?l__law_odd ?o__law_odd ?k__law_odd ?a__law_is_free ?l__law_is_free ?o__law_is_free ?k__law_is_free ?a__law_is_schema ?l__law_is_schema ?o__law_is_schema ?k__law_is_schema ?a__law_bent ?l__law_bent ?o__law_bent ?k__law_bent ?a_law ?l_law ?o_law ?z_isinstance ?z_len ?z_all ?z_str ?z_int ?z_bool ?z_tuple ?z_list ?z_dict ?z_set ?z_zip ?z_abs ?z_min ?z_range ?z_sorted ?z_ValueError ?a_LETTERS ?e_LETTERS ?a_MOST_WIDTH ?a_MOST_TABLES ?a_MOST_NAMES ?a_KEPT ?l_KEPT ?s_KEPT ?v_KEPT ?a_BS ?b_BS ?t_BS ?d_BS ?x_BS ?k_BS ?g_BS ?h_BS ?i_BS ?m_BS ?a_BT ?b_BT ?t_BT ?d_BT ?x_BT ?k_BT ?g_BT ?h_BT ?i_BT ?m_BT ?a_SE ?b_SE ?t_SE ?d_SE ?n_get ?n_tk ?s_BS_BT ?n_BS_BT ?s_BS_SE ?n_BS_SE ?s_BT_BS ?n_BT_BS ?s_BT_SE ?n_BT_SE ?s_BT_VE ?l_C ?v_11 ?w_11 ?w_18 ?w_7 ?w_9 ?w_10 ?n_P ?l_P
    (case a_is_word => k_is)
    (case l_is_word => k_is)
    (case o_is_word => k_is)
    (case k_is_word => k_is)
    (case a_is_whole => k_is)
    (case l_is_whole => k_is)
    (case o_is_whole => k_is)
    (case k_is_whole => k_is)
    (case a_is_free_word => k_is)
    (case l_is_free_word => k_is)
    (case o_is_free_word => k_is)
    (case k_is_free_word => k_is)
    (case a_is_table_pair => k_is)
    (case l_is_table_pair => k_is)
    (case o_is_table_pair => k_is)
    (case k_is_table_pair => k_is)
    (case a_are_tables => k_is)
    (case l_are_tables => k_is)
    (case o_are_tables => k_is)
    (case k_are_tables => k_is)
    (case a_are_names => k_is)
    (case l_are_names => k_is)
    (case o_are_names => k_is)
    (case k_are_names => k_is)
    (case a_is_schema => k_is)
    (case l_is_schema => k_is)
    (case o_is_schema => k_is)
    (case k_is_schema => k_is)
    (case a_need_schema => k_is)
    (case l_need_schema => k_is)
    (case o_need_schema => k_is)
    (case k_need_schema => k_is)
    (case a_widths_of => k_is)
    (case l_widths_of => k_is)
    (case o_widths_of => k_is)
    (case k_widths_of => k_is)
    (case a_need_table => k_is)
    (case l_need_table => k_is)
    (case o_need_table => k_is)
    (case k_need_table => k_is)
    (case a_table_words => k_is)
    (case l_table_words => k_is)
    (case o_table_words => k_is)
    (case k_table_words => k_is)
    (case a_table_width => k_is)
    (case l_table_width => k_is)
    (case o_table_width => k_is)
    (case k_table_width => k_is)
    (case a_is_row => k_is)
    (case l_is_row => k_is)
    (case o_is_row => k_is)
    (case k_is_row => k_is)
    (case a_is_row_of => k_is)
    (case l_is_row_of => k_is)
    (case o_is_row_of => k_is)
    (case k_is_row_of => k_is)
    (case a__law_begun => k_is)
    (case l__law_begun => k_is)
    (case o__law_begun => k_is)
    (case k__law_begun => k_is)
    (case a__law_blended => k_is)
    (case l__law_blended => k_is)
    (case o__law_blended => k_is)
    (case k__law_blended => k_is)
    (case a__law_draw => k_is)
    (case l__law_draw => k_is)
    (case o__law_draw => k_is)
    (case k__law_draw => k_is)
    (case a__law_pick => k_is)
    (case l__law_pick => k_is)
    (case o__law_pick => k_is)
    (case k__law_pick => k_is)
    (case a__law_shuffled => k_is)
    (case l__law_shuffled => k_is)
    (case o__law_shuffled => k_is)
    (case k__law_shuffled => k_is)
    (case a__law_caught => k_is)
    (case l__law_caught => k_is)
    (case o__law_caught => k_is)
    (case k__law_caught => k_is)
    (case a__law_is_truth => k_is)
    (case l__law_is_truth => k_is)
    (case o__law_is_truth => k_is)
    (case k__law_is_truth => k_is)
    (case a__law_same => k_is)
    (case l__law_same => k_is)
    (case o__law_same => k_is)
    (case k__law_same => k_is)
    (case a__law_words => k_is)
    (case l__law_words => k_is)
    (case o__law_words => k_is)
    (case k__law_words => k_is)
    (case a__law_is_word => k_is)
    (case l__law_is_word => k_is)
    (case o__law_is_word => k_is)
    (case k__law_is_word => k_is)
    (case a__law_kept => k_is)
    (case l__law_kept => k_is)
    (case o__law_kept => k_is)
    (case k__law_kept => k_is)
    (case a__law_free_words => k_is)
    (case l__law_free_words => k_is)
    (case o__law_free_words => k_is)
    (case k__law_free_words => k_is)
    (case a__law_schema => k_is)
    (case l__law_schema => k_is)
    (case o__law_schema => k_is)
    (case k__law_schema => k_is)
    (case a__law_odd => k_is)
    (case l__law_odd => k_is)
    (case o__law_odd => k_is)
    (case k__law_odd => k_is)
    (case a__law_is_free => k_is)
    (case l__law_is_free => k_is)
    (case o__law_is_free => k_is)
    (case k__law_is_free => k_is)
    (case a__law_is_schema => k_is)
    (case l__law_is_schema => k_is)
    (case o__law_is_schema => k_is)
    (case k__law_is_schema => k_is)
    (case a__law_bent => k_is)
    (case l__law_bent => k_is)
    (case o__law_bent => k_is)
    (case k__law_bent => k_is)
    (case a_law => k_is)
    (case l_law => k_is)
    (case o_law => k_is)
    (case z_isinstance => k_is)
    (case z_len => k_is)
    (case z_all => k_is)
    (case z_str => k_is)
    (case z_int => k_is)
    (case z_bool => k_is)
    (case z_tuple => k_is)
    (case z_list => k_is)
    (case z_dict => k_is)
    (case z_set => k_is)
    (case z_zip => k_is)
    (case z_abs => k_is)
    (case z_min => k_is)
    (case z_range => k_is)
    (case z_sorted => k_is)
    (case z_ValueError => k_is)
    (case a_LETTERS => k_is)
    (case e_LETTERS => decide +kernel)
    (case a_MOST_WIDTH => k_is)
    (case a_MOST_TABLES => k_is)
    (case a_MOST_NAMES => k_is)
    (case a_KEPT => k_is)
    (case l_KEPT => k_is)
    (case s_KEPT => decide)
    (case v_KEPT => exact .cons ⟨_, rfl⟩ (.cons ⟨_, rfl⟩ (.cons ⟨_, rfl⟩ (.cons ⟨_, rfl⟩ (.cons ⟨_, rfl⟩ (.cons ⟨_, rfl⟩ (.cons ⟨_, rfl⟩ (.cons ⟨_, rfl⟩ .nil))))))))
    (case a_BS => k_is)
    (case b_BS => k_is)
    (case t_BS => k_is)
    (case d_BS => k_is)
    (case x_BS => k_exc)
    (case k_BS => k_is)
    (case g_BS => k_is)
    (case h_BS => k_is)
    (case i_BS => k_is)
    (case m_BS => k_is)
    (case a_BT => k_is)
    (case b_BT => k_is)
    (case t_BT => k_is)
    (case d_BT => k_is)
    (case x_BT => k_exc)
    (case k_BT => k_is)
    (case g_BT => k_is)
    (case h_BT => k_is)
    (case i_BT => k_is)
    (case m_BT => k_is)
    (case a_SE => k_is)
    (case b_SE => k_is)
    (case t_SE => k_is)
    (case d_SE => k_is)
    (case n_get => k_is)
    (case n_tk => k_is)
    (case s_BS_BT => k_is)
    (case n_BS_BT => decide)
    (case s_BS_SE => k_is)
    (case n_BS_SE => decide)
    (case s_BT_BS => k_is)
    (case n_BT_BS => decide)
    (case s_BT_SE => k_is)
    (case n_BT_SE => decide)
    (case s_BT_VE => k_is)
    (case l_C => k_is)
    (case v_11 => rfl)
    (case w_11 => rfl)
    (case w_18 => rfl)
    (case w_7 => rfl)
    (case w_9 => rfl)
    (case w_10 => rfl)
    (case n_P => decide)
    (case l_P => rfl)
#print axioms PySem.Challenge.cw_queryshown_k00_schemas_and_words_holds
