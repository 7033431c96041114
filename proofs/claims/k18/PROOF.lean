import PyProof.Rows.All
import PySem.Challenge.RW_keptnear_k18_sets_that_can_be_kept
import Wide.All
import OpenK.AllK
import Wide.FinOn
import HandS.Set
import HandS.SetFor
import HandS.SetKeys
import HandS.More
import HandS.Strs
import HandS.Zip
import HandS.ForMost
import HandS.Flow
import HandS.IsInst
import HandS.Deep
import HandS.TupAny
import HandS.TupLe
import HandS.TupMul
import HandS.Star
import HandS.SortInts
import HandS.Style
import KE.GoesEnum
import KE.SortData
import KE.DataCmp
import KE.DataMinMax
import HandS.DictComp
import HandS.Dict
import HandS.Iter
import KE.KDictPairs
import PyProof.TupleOfStr
import PyProof.ListStr
set_option Elab.async false
set_option linter.all false
set_option maxRecDepth 100000
set_option maxHeartbeats 4000000
namespace KN
open PySem PySem.Spec L2 PyProof.Rows
/-! ### sets of whole numbers and texts, such that they can be walked -/
def keyV (e : Int × Value) : Key := match e.2 with
  | .int k _ => .inl k
  | .str x _ => .inr x
  | _ => .inl 0
def GdK (w : World) (e : Int × Value) : Prop := keyIs (keyV e) e.2 = true ∧ e.1 = keyH w (keyV e)
theorem keyV_of {k : Key} {h : Int} {v : Value} (hk : keyIs k v = true) : keyV (h, v) = k := by
  rcases keyIs_shape hk with ⟨i, t, rfl, rfl⟩ | ⟨x, t, rfl, rfl⟩ <;> rfl
theorem scanK {k : Key} {v : Value} (hk : keyIs k v = true) : v.scannable = true := by
  rcases keyIs_shape hk with ⟨i, t, rfl, rfl⟩ | ⟨x, t, rfl, rfl⟩ <;> rfl
/-- the set at a: its members S, their number n -/
def SkR (w : World) (h : Heap) (a : Addr) (S : Key → Bool) (n : Nat) : Prop :=
  ∃ o es ep t, h.get? a = some o ∧ o.ExactSet ∧ o.data = .set es ep t ∧ (∀ e ∈ es.toList, GdK w e) ∧ (es.toList.map keyV).Nodup ∧ (∀ k, S k = true ↔ k ∈ es.toList.map keyV) ∧
    es.size < scanBound ∧ t.fits es.size = true ∧ es.size = n ∧ Ris t.place.toList ∧ (w.params.followText "set-order" = true ∨ t.led = true)
section
variable {P : Program} {w : World} {h h' : Heap} {a : Addr} {S : Key → Bool} {n : Nat}
theorem SkR.at (R : SkR w h a S n) (k : ∀ o, h.get? a = some o → h'.get? a = some o) : SkR w h' a S n := by
  obtain ⟨o, es, ep, t, ho, r⟩ := R
  exact ⟨o, es, ep, t, k o ho, r⟩
theorem SkR.congr {S' : Key → Bool} (R : SkR w h a S n) (e : ∀ k, S' k = S k) : SkR w h a S' n := by
  have : S' = S := funext e
  rw [this]
  exact R
theorem gdK_elems {l : List (Int × Value)} (g : ∀ e ∈ l, GdK w e) : ElemsOf (mixKind P w) l := fun e he =>
  ⟨⟨keyV e, (g e he).1, (g e he).2⟩, scanK (g e he).1⟩
theorem gdK_is {e : Int × Value} (g : GdK w e) (k : Key) : (mixKind P w).is k e.2 = true ↔ keyV e = k := by
  constructor
  · intro hk
    exact (mixKind P w).inj e.2 _ _ g.1 hk
  · rintro rfl
    exact g.1
theorem gdK_mem {l : List (Int × Value)} (g : ∀ e ∈ l, GdK w e) (k : Key) : k ∈ l.map keyV ↔ ∃ e ∈ l, (mixKind P w).is k e.2 = true := by
  rw [List.mem_map]
  constructor
  · rintro ⟨e, he, q⟩
    exact ⟨e, he, (gdK_is (g e he) k).2 q⟩
  · rintro ⟨e, he, q⟩
    exact ⟨e, he, (gdK_is (g e he) k).1 q⟩
end
section
variable {P : Program} {w : World} {A : Around} {E : Value → Shared → Prop} {s : Shared} {a : Addr} {S : Key → Bool} {n : Nat}
theorem skR_tail {gv : Bool → Sem Unit} (hgv : ∀ (b : Bool) (s₁ : Shared) (Q' : Unit → Shared → Prop), Q' () s₁ → wpAny (model P w) A (gv b) Q' E s₁)
    {o : Obj} {es : Array (Int × Value)} {ep : Nat} {t : SetTable} (ho : s.heap.get? a = some o) (hex : o.ExactSet) (hd : o.data = .set es ep t)
    {fs : Array (Int × Value)} {u : SetTable} {S' : Key → Bool} (g1 : ∀ e ∈ fs.toList, GdK w e) (nd1 : (fs.toList.map keyV).Nodup) (m1 : ∀ k, S' k = true ↔ k ∈ fs.toList.map keyV)
    (hb1 : fs.size < scanBound) (hf2 : u.fits fs.size = true) (hr : Ris u.place.toList) (hl : w.params.followText "set-order" = true ∨ u.led = true) {dm : Bool} {R : Option Bool → Shared → Prop}
    (hR : ∀ h', Heap.SameBut a s.heap h' → SkR w h' a S' fs.size → R (some true) { s with heap := h' }) :
    wpAny (model P w) A (do
        storeSet a fs u
        if (!dm && u.tooFull) = true then do
            gv (relayAll u fs (SetTable.grown fs.size)).2.2
            storeSet a (relayAll u fs (SetTable.grown fs.size)).1 (relayAll u fs (SetTable.grown fs.size)).2.1
            pure (some true)
          else pure (some true)) R E s := by
  refine wpAny_bind (wpAny_storeSet_of ho hd ?_ (fits_of_scanBound hb1))
  have o1 := store_at (es' := fs) (t' := u) ho hd
  have b1 := Heap.SameBut.update s.heap a (Obj.putSet fs u)
  split
  · have pm := relayAll_perm u fs (SetTable.grown fs.size)
    have f3 := relayAll_fits u fs (SetTable.grown fs.size)
    have r3 := relayAll_ris u fs (SetTable.grown fs.size)
    have l3 := relayAll_led u fs (SetTable.grown fs.size)
    generalize relayAll u fs (SetTable.grown fs.size) = Z at pm f3 r3 l3 ⊢
    obtain ⟨gs, u3, gave⟩ := Z
    dsimp only at pm f3 r3 l3 ⊢
    have sz : gs.size = fs.size := by rw [← Array.length_toList, pm.length_eq, Array.length_toList]
    have hb2 : gs.size < scanBound := by rw [sz]; exact hb1
    refine wpAny_bind (hgv _ _ _ ?_)
    refine wpAny_bind (wpAny_storeSet_of o1 rfl ?_ (fits_of_scanBound hb2))
    have o2 := store_at (es' := gs) (t' := u3) o1 rfl
    refine wpAny_pure (hR _ (b1.trans (Heap.SameBut.update _ a _)) ?_)
    exact ⟨_, gs, _, u3, o2, hex, rfl, fun e he => g1 e (pm.mem_iff.mp he), (pm.map keyV).nodup_iff.mpr nd1, fun k => (m1 k).trans (pm.map keyV).mem_iff.symm, hb2, f3, sz, r3,
      hl.imp id fun z => by rw [l3]; exact z⟩
  · exact wpAny_pure (hR _ b1 ⟨_, fs, _, u, o1, hex, rfl, g1, nd1, m1, hb1, hf2, rfl, hr, hl⟩)
theorem skR_add {k : Key} {v : Value} {Q : Bool → Shared → Prop} (hkey : keyIs k v = true) (R : SkR w s.heap a S n) (room : n + 1 < scanBound)
    (hQ : ∀ h', Heap.SameBut a s.heap h' → SkR w h' a (fun j => S j || decide (j = k)) (if S k = true then n else n + 1) → Q (!S k) { s with heap := h' }) :
    wpAny (model P w) A (setAddHashed a v ((mixKind P w).hash k)) Q E s := by
  obtain ⟨o, es, ep, t, ho, hex, hd, g, nd, hm, hb, hf, hn, hr, hl⟩ := R
  have hki : (mixKind P w).is k v = true := hkey
  have hsc := scanK hkey
  have hel : ElemsOf (mixKind P w) es.toList := gdK_elems g
  unfold setAddHashed setAddHashedIn
  refine wpAny_holding (wpAny_bind (wpAny_setState_of ho hd hf ?_))
  dsimp only
  rw [byScan_of hsc hb hel]
  simp only [↓reduceIte]
  unfold setAddByScan
  refine wpAny_bind ?_
  refine wpAny_bind (wpAny_rule ?_)
  refine wpAny_bind (wpAny_setScan_of hki ho hd hf hel ?_)
  cases hfi : List.findIdx? (fun e => (mixKind P w).is k e.2) es.toList with
  | some j =>
    dsimp only
    obtain ⟨hj, pj, _⟩ := List.findIdx?_eq_some_iff_getElem.mp hfi
    have hSk : S k = true := (hm k).2 ((gdK_mem (P := P) g k).2 ⟨es.toList[j], List.getElem_mem hj, pj⟩)
    refine wpAny_pure (wpAny_pure ?_)
    have q := hQ s.heap (Heap.SameBut.refl a s.heap) ⟨o, es, ep, t, ho, hex, hd, g, nd, fun i => by
      rw [Bool.or_eq_true, decide_eq_true_eq, ← hm i]
      exact ⟨fun z => z.elim id (fun e => e ▸ hSk), .inl⟩, hb, hf, by rw [if_pos hSk]; exact hn, hr, hl⟩
    rw [hSk] at q
    exact q
  | none =>
    dsimp only
    have hnk : k ∉ es.toList.map keyV := fun z => by
      obtain ⟨e, he, q⟩ := (gdK_mem (P := P) g k).1 z
      have c := List.findIdx?_eq_none_iff.mp hfi e he
      rw [q] at c
      cases c
    have hSk : S k = false := by
      cases q : S k with
      | false => rfl
      | true => exact absurd ((hm k).1 q) hnk
    have hgw : ∀ (b : Bool) {s₁ : Shared} {Q' : Unit → Shared → Prop}, Q' () s₁ → wpAny (model P w) A (match b with | true => rule "set.scan.the-table-gave-way" | false => pure ()) Q' E s₁ :=
      fun b s₁ Q' q => by cases b <;> first | exact wpAny_pure q | exact wpAny_rule q
    have pm := layNew_perm t es ((mixKind P w).hash k) v
    have f1 := layNew_fits t es ((mixKind P w).hash k) v
    have r1 := layNew_ris t es ((mixKind P w).hash k) v hr
    have l1 := layNew_led t es ((mixKind P w).hash k) v
    generalize layNew t es ((mixKind P w).hash k) v = Z at pm f1 r1 l1 ⊢
    obtain ⟨fs, u, dm, gave⟩ := Z
    dsimp only at pm f1 r1 l1 ⊢
    rw [Array.toList_push] at pm
    have pc : fs.toList.Perm (((mixKind P w).hash k, v) :: es.toList) := pm.trans (List.perm_append_singleton _ _)
    have kv : keyV ((mixKind P w).hash k, v) = k := keyV_of hkey
    have pk : (fs.toList.map keyV).Perm (k :: es.toList.map keyV) := by
      have := pc.map keyV
      rw [List.map_cons, kv] at this
      exact this
    have g1 : ∀ e ∈ fs.toList, GdK w e := fun e he => by
      rcases List.mem_cons.mp (pc.mem_iff.mp he) with z | z
      · rw [z]
        refine ⟨?_, ?_⟩
        · rw [kv]; exact hkey
        · rw [kv]; rfl
      · exact g e z
    have nd1 : (fs.toList.map keyV).Nodup := pk.nodup_iff.mpr (List.nodup_cons.mpr ⟨hnk, nd⟩)
    have m1 : ∀ i, (S i || decide (i = k)) = true ↔ i ∈ fs.toList.map keyV := fun i => by
      rw [Bool.or_eq_true, decide_eq_true_eq, hm i, pk.mem_iff, List.mem_cons]
      exact Or.comm
    have sz : fs.size = n + 1 := by rw [← Array.length_toList, pc.length_eq, List.length_cons, Array.length_toList, hn]
    have hb1 : fs.size < scanBound := by rw [sz]; exact room
    have hled : w.params.followText "set-order" = true ∨ u.led = true := hl.imp id fun z => by rw [l1]; exact z
    have fin : ∀ h', Heap.SameBut a s.heap h' → SkR w h' a (fun j => S j || decide (j = k)) fs.size → Q true { s with heap := h' } := fun h' sb r => by
      have q := hQ h' sb
      rw [hSk] at q
      rw [sz] at r
      exact q r
    refine wpAny_bind (hgw _ ?_)
    split
    · refine wpAny_bind ?_
      rw [hashByValue_scannable 8 hsc]
      refine wpAny_pure ?_
      refine skR_tail ?_ ho hex hd g1 nd1 m1 hb1 ?_ ?_ ?_ ?_
      · intro b s₁ Q' q; cases b <;> first | exact wpAny_pure q | exact wpAny_rule q
      · first | (split <;> first | exact f1 | exact SetTable.fits_plain_off f1) | exact f1
      · first | (split <;> exact r1) | exact r1
      · first | (split <;> exact hled) | exact hled
      · intro h' sb r; dsimp only; exact wpAny_pure (fin h' sb r)
    · refine wpAny_bind (wpAny_pure ?_)
      simp only [↓reduceIte]
      refine skR_tail ?_ ho hex hd g1 nd1 m1 hb1 f1 r1 hled ?_
      · intro b s₁ Q' q; cases b <;> first | exact wpAny_pure q | exact wpAny_rule q
      · intro h' sb r; dsimp only; exact wpAny_pure (fin h' sb r)
end
end KN

set_option maxRecDepth 100000
set_option maxHeartbeats 4000000
namespace KN
open PySem PySem.Spec L2 PyProof.Rows
def inKs (ks : List Key) (j : Key) : Bool := ks.any fun y => decide (y = j)
theorem inKs_iff {ks : List Key} {j : Key} : inKs ks j = true ↔ j ∈ ks := by
  unfold inKs
  rw [List.any_eq_true]
  exact ⟨fun ⟨y, h, e⟩ => (of_decide_eq_true e) ▸ h, fun h => ⟨j, h, decide_eq_true rfl⟩⟩
theorem inKs_add {ks : List Key} {i : Nat} {k j : Key} (hk : ks[i]? = some k) : inKs (ks.take (i + 1)) j = (inKs (ks.take i) j || decide (j = k)) := by
  rw [Bool.eq_iff_iff, Bool.or_eq_true, inKs_iff, inKs_iff, List.take_add_one, hk, decide_eq_true_eq]
  simp
/-- a set as it is made -/
abbrev nset (w : World) : Obj := { cls := .type "set", dict := none, data := .set #[] 0 (.fresh 0 0 (!w.params.followText "set-order")) }
theorem skR_nil {w : World} {h : Heap} {a : Addr} (ho : h.get? a = some (nset w)) : SkR w h a (fun _ => false) 0 :=
  ⟨_, #[], 0, _, ho, ⟨rfl, rfl, rfl⟩, rfl, (fun e he => by simp at he), (by simp), (fun k => by simp), (by decide), (by rfl), rfl, List.Pairwise.nil, by
    show _ ∨ (!w.params.followText "set-order") = true
    cases w.params.followText "set-order"
    · exact .inr rfl
    · exact .inl rfl⟩
section
variable {P : Program} {w : World} {A : Around} {E : Value → Shared → Prop} {s : Shared}
/-- what the items are: keys, one by one -/
def KeysAre (vs : List Value) (ks : List Key) : Prop := vs.length = ks.length ∧ ∀ (i : Nat) (v : Value), vs[i]? = some v → ∃ k, ks[i]? = some k ∧ keyIs k v = true
theorem upd_keys {I : Addr} {fp wr : List Addr} {G : Array GenState → Array GenState → Prop} {n : Nat} {Pv : Nat → Value → Prop} {St : Nat → Shared → Prop} {R : Result → Shared → Prop}
    (W : WalksS P w A.in1 I fp wr G n Pv St) (Z : Addr) (hZ : Z ∉ fp) (ks : List Key) (hn : n = ks.length) (hb : ks.length + 1 < scanBound) (hval : ∀ i v, Pv i v → ∃ k, ks[i]? = some k ∧ keyIs k v = true) :
    ∀ (m i : Nat) (s : Shared), n - i = m → i ≤ n → St i s → (∃ c, c ≤ i ∧ SkR w s.heap Z (inKs (ks.take i)) c) →
      (∀ s' c, Moved (Z :: wr) G s s' → c ≤ n → SkR w s'.heap Z (inKs ks) c → R (.ok (.ret .none)) s') →
      codeAny (model P w) A (.builtin "set.update.loop" ⟨[.ref Z, .ref I], []⟩) R s := by
  have hZw : Z ∉ wr := fun h => hZ (W.sub _ h)
  have sub1 : ∀ b ∈ wr, b ∈ Z :: wr := fun b hb => List.mem_cons_of_mem _ hb
  intro m
  induction m with
  | zero =>
    intro i s hm hi st ⟨c, hc, hS⟩ hR
    obtain rfl : i = n := by omega
    refine codeAny_builtin F.entry_set_update_loop ?_
    rw [Around.under_plainId F.plain_set_update_loop _]
    show wpAny _ A.in1 (pyNext (.ref I) >>= _) _ _ s
    refine wpAny_bind (W.done s _ _ st fun s' mv => ?_)
    show wpAny _ A.in1 (ret Value.none) _ _ s'
    rw [List.take_of_length_le (show ks.length ≤ i by omega)] at hS
    exact wpAny_pure (hR s' c (mv.mono sub1) hc (hS.at fun o e => mv.heap Z o hZw e))
  | succ m ih =>
    intro i s hm hi st ⟨c, hc, hS⟩ hR
    have lt : i < n := by omega
    refine codeAny_builtin F.entry_set_update_loop ?_
    rw [Around.under_plainId F.plain_set_update_loop _]
    show wpAny _ A.in1 (pyNext (.ref I) >>= _) _ _ s
    refine wpAny_bind (W.item i s _ _ lt st fun v s' hP st' mv => ?_)
    obtain ⟨k, hk, hkv⟩ := hval i v hP
    have hS' : SkR w s'.heap Z (inKs (ks.take i)) c := hS.at fun o e => mv.heap Z o hZw e
    have hscn := scanK hkv
    show wpAny _ A.in1 (holding [v] (setAdd Z v) >>= _) _ _ s'
    refine wpAny_bind (wpAny_holding ?_)
    unfold setAdd
    refine wpAny_holding ?_
    refine wpAny_bind ((mixKind P w).pyHash (k := k) hkv ?_)
    refine skR_add (s := { s' with toks := s'.toks + 1 }) hkv hS' (by omega) fun h' sb hS2 => ?_
    have hS3 : SkR w h' Z (inKs (ks.take (i + 1))) (if inKs (ks.take i) k = true then c else c + 1) := hS2.congr fun j => inKs_add hk
    have hc3 : (if inKs (ks.take i) k = true then c else c + 1) ≤ i + 1 := by
      split <;> omega
    refine wpAny_pure ⟨plainId_quiet F.plain_set_update_loop _, ih (i + 1) _ (by omega) lt (W.frame _ s' _ _ st' (Nat.le_succ _) fun b hb o e => ?_) ⟨_, hc3, hS3⟩ fun s2 c2 m2 h2 r2 => ?_⟩
    · exact (sb.2 b (fun h : b = Z => hZ (by rw [← h]; exact hb))).trans e
    · refine hR s2 c2 (Moved.trans W.gtrans ((mv.mono sub1).then_heap (Nat.le_succ _) fun b o hb e => ?_) m2) h2 r2
      exact (sb.2 b (fun h : b = Z => hb (by rw [h]; exact List.mem_cons_self))).trans e
theorem set_of_list {l : Addr} {items : Array Value} (ks : List Key) {Q : Value → Shared → Prop} (hh : A.handled = none) (hl : s.heap.IsList l items) (hit : KeysAre items.toList ks) (hb : ks.length + 1 < scanBound)
    (h : ∀ (h' : Heap) (tk c : Nat), SkR w h' s.heap.objs.size (inKs ks) c → c ≤ ks.length → (∀ b o, s.heap.get? b = some o → h'.get? b = some o) → Q (.ref s.heap.objs.size) { s with heap := h', toks := tk }) :
    wpAny (model P w) A (call (.type "set") [.ref l]) Q E s := by
  have isz : items.size = ks.length := by rw [← hit.1, Array.length_toList]
  obtain ⟨c, tl, hmro⟩ := F.called_set.mro
  have hmade := F.called_set.made
  have hsub := F.called_set.sub
  refine wpAny_call (codeAny_of_tree ?_)
  show wpAny _ _ (callAny (.type "set") _) _ _ _
  refine wpAny_pure ⟨Code.quiet_builtin _ (by decide +kernel), codeAny_builtin F.entry_type_call ?_⟩
  rw [Around.under_plain (weight_type_call_type "set" [.ref l] []) rfl]
  have h1 := F.called_set.notType
  have h2 := F.called_set.canCreate
  have hct := F.typeCall_set_1 (.ref l)
  repeat (any_goals (first | assumption | wp_step))
  refine codeAny_mono (code_set_led1 (.ref l) (E := E) (Q₁ := fun obj s₁ => obj = .ref s.heap.objs.size ∧ s₁ = { s with heap := s.heap.push (nset w) }) ⟨rfl, rfl⟩) fun r s₁ hr => ?_
  cases r with
  | error e => exact hr
  | ok fl =>
    cases fl with
    | ret obj =>
      obtain ⟨rfl, rfl⟩ := hr
      have at0 : (s.heap.push (nset w)).get? s.heap.objs.size = some (nset w) := Heap.get?_push_size _ rfl
      have hT : Shared.TypeIs { s with heap := s.heap.push (nset w) } (.ref s.heap.objs.size) "set" := ⟨_, at0, rfl⟩
      have hli := F.called_set.init.lookup
      have hbi := F.called_set.init.bind (.ref s.heap.objs.size)
      repeat (any_goals (first | assumption | wp_step))
      refine codeAny_mono (codeAny_call_builtin (R := wants (fun r s₂ => r = .none ∧ ∃ h' tk c, s₂ = { s with heap := h', toks := tk } ∧ SkR w h' s.heap.objs.size (inKs ks) c ∧ c ≤ ks.length ∧
          (∀ b o, s.heap.get? b = some o → h'.get? b = some o)) E) F.called_set.init.plain F.entry_set_init (check_set_init_1 hT ?_)) fun r₂ s₂ hr₂ => ?_
      · obtain ⟨ol, hol, hcl, nl, hdl⟩ := hl
        obtain ⟨ocls, odict, odata, oslots⟩ := ol
        simp only at hcl hdl
        subst hcl
        subst hdl
        have at1 : (s.heap.push (nset w)).get? l = some { cls := .type "list", dict := odict, data := .seq items nl, slots := oslots } := Heap.get?_push_of_some _ hol
        have n1 := F.sub_list_set
        have n2 := F.sub_list_frozenset
        have n3 : (Value.type "list" == Value.type "dict") = false := by decide
        have is1 : (s.heap.push (nset w)).IsList l items := ⟨_, at1, rfl, nl, rfl⟩
        unfold Builtin.«set.__init__» noKeywords Builtin.Frozenset.updateFrom
        generalize hPI : pyIter = PI
        wp_walk
        subst hPI
        refine wpAny_pyIter_list is1 ?_
        refine wpAny_bind (wpAny_runValue ?_)
        have lt0 : l < s.heap.objs.size := Heap.lt_size hol
        have hh3 : A.in1.in1.in1.handled = none := by simp [hh]
        have ne1 : l ≠ (s.heap.push (nset w)).objs.size := by
          rw [Heap.size_push]
          exact Nat.ne_of_lt (Nat.lt_succ_of_lt lt0)
        have out1 : s.heap.objs.size ∉ [(s.heap.push (nset w)).objs.size, l] := by
          rw [Heap.size_push]
          simp only [List.mem_cons, List.mem_singleton, List.not_mem_nil, or_false, not_or]
          exact ⟨Nat.ne_of_lt (Nat.lt_succ_self _), Nat.ne_of_gt lt0⟩
        have hval : ∀ (i : Nat) (v : Value), items[i]? = some v → ∃ k, ks[i]? = some k ∧ keyIs k v = true := fun i v hv => hit.2 i v (by rw [Array.getElem?_toList]; exact hv)
        refine upd_keys ((Walks.list hh3 _ l ne1 items).toS) s.heap.objs.size out1 ks isz hb hval (items.size - 0) 0 _ (by omega) (Nat.zero_le _) ⟨⟨_, Heap.get?_push_size _ rfl, rfl, rfl⟩, (is1.push _)⟩ ?hS0 ?hR
        case hS0 =>
          have at2 : ((s.heap.push (nset w)).push { cls := .type "list_iterator", data := .fields #[.ref l, .int 0 0] }).get? s.heap.objs.size = some (nset w) := Heap.get?_push_of_some _ at0
          exact ⟨0, Nat.le_refl 0, (skR_nil at2).congr fun k => by rw [List.take_zero]; rfl⟩
        case hR =>
          intro s' c' mv hc' hS'
          obtain ⟨h', g2, d', tk', os'⟩ := s'
          have eg : g2 = s.gens := mv.gens
          have ed : d' = s.drawn := mv.drawn
          have eo : os' = s.os := mv.os
          subst eg
          subst ed
          subst eo
          show wpAny _ _ _ _ _ _
          refine wpAny_pure ?_
          show wpAny _ _ (ret Value.none) _ _ _
          rw [isz] at hc'
          refine wpAny_pure ⟨rfl, h', tk', c', rfl, hS', hc', fun b o e => ?_⟩
          have b0 : b < s.heap.objs.size := Heap.lt_size e
          have b2 : b ≠ (s.heap.push (nset w)).objs.size := by
            rw [Heap.size_push]
            exact Nat.ne_of_lt (Nat.lt_succ_of_lt b0)
          exact mv.heap b o (by simp only [List.mem_cons, List.mem_singleton, List.not_mem_nil, or_false, not_or]; exact ⟨Nat.ne_of_lt b0, b2⟩) (Heap.get?_push_of_some _ (Heap.get?_push_of_some _ e))
      · cases r₂ with
        | error e => exact hr₂
        | ok fl₂ =>
          cases fl₂ with
          | ret r =>
            obtain ⟨rfl, h', tk, c', rfl, hS', hc', hk'⟩ := hr₂
            repeat (any_goals (first | assumption | wp_step))
            exact h _ _ _ hS' hc' hk'
          | _ => exact hr₂.elim
    | _ => exact hr.elim
theorem set_of_tuple {l : Addr} {items : Array Value} (ks : List Key) {Q : Value → Shared → Prop} (hh : A.handled = none) (hl : s.heap.IsTuple l items) (hit : KeysAre items.toList ks) (hb : ks.length + 1 < scanBound)
    (h : ∀ (h' : Heap) (tk c : Nat), SkR w h' s.heap.objs.size (inKs ks) c → c ≤ ks.length → (∀ b o, s.heap.get? b = some o → h'.get? b = some o) → Q (.ref s.heap.objs.size) { s with heap := h', toks := tk }) :
    wpAny (model P w) A (call (.type "set") [.ref l]) Q E s := by
  have isz : items.size = ks.length := by rw [← hit.1, Array.length_toList]
  obtain ⟨c, tl, hmro⟩ := F.called_set.mro
  have hmade := F.called_set.made
  have hsub := F.called_set.sub
  refine wpAny_call (codeAny_of_tree ?_)
  show wpAny _ _ (callAny (.type "set") _) _ _ _
  refine wpAny_pure ⟨Code.quiet_builtin _ (by decide +kernel), codeAny_builtin F.entry_type_call ?_⟩
  rw [Around.under_plain (weight_type_call_type "set" [.ref l] []) rfl]
  have h1 := F.called_set.notType
  have h2 := F.called_set.canCreate
  have hct := F.typeCall_set_1 (.ref l)
  repeat (any_goals (first | assumption | wp_step))
  refine codeAny_mono (code_set_led1 (.ref l) (E := E) (Q₁ := fun obj s₁ => obj = .ref s.heap.objs.size ∧ s₁ = { s with heap := s.heap.push (nset w) }) ⟨rfl, rfl⟩) fun r s₁ hr => ?_
  cases r with
  | error e => exact hr
  | ok fl =>
    cases fl with
    | ret obj =>
      obtain ⟨rfl, rfl⟩ := hr
      have at0 : (s.heap.push (nset w)).get? s.heap.objs.size = some (nset w) := Heap.get?_push_size _ rfl
      have hT : Shared.TypeIs { s with heap := s.heap.push (nset w) } (.ref s.heap.objs.size) "set" := ⟨_, at0, rfl⟩
      have hli := F.called_set.init.lookup
      have hbi := F.called_set.init.bind (.ref s.heap.objs.size)
      repeat (any_goals (first | assumption | wp_step))
      refine codeAny_mono (codeAny_call_builtin (R := wants (fun r s₂ => r = .none ∧ ∃ h' tk c, s₂ = { s with heap := h', toks := tk } ∧ SkR w h' s.heap.objs.size (inKs ks) c ∧ c ≤ ks.length ∧
          (∀ b o, s.heap.get? b = some o → h'.get? b = some o)) E) F.called_set.init.plain F.entry_set_init (check_set_init_1 hT ?_)) fun r₂ s₂ hr₂ => ?_
      · obtain ⟨ol, hol, hcl, nl, hdl⟩ := hl
        obtain ⟨ocls, odict, odata, oslots⟩ := ol
        simp only at hcl hdl
        subst hcl
        subst hdl
        have at1 : (s.heap.push (nset w)).get? l = some { cls := .type "tuple", dict := odict, data := .seq items nl, slots := oslots } := Heap.get?_push_of_some _ hol
        have n1 := F.sub_tuple_set
        have n2 := F.sub_tuple_frozenset
        have n3 : (Value.type "tuple" == Value.type "dict") = false := by decide
        have is1 : (s.heap.push (nset w)).IsTuple l items := ⟨_, at1, rfl, nl, rfl⟩
        unfold Builtin.«set.__init__» noKeywords Builtin.Frozenset.updateFrom
        generalize hPI : pyIter = PI
        wp_walk
        subst hPI
        refine wpAny_pyIter_tuple is1 ?_
        refine wpAny_bind (wpAny_runValue ?_)
        have lt0 : l < s.heap.objs.size := Heap.lt_size hol
        have hh3 : A.in1.in1.in1.handled = none := by simp [hh]
        have ne1 : l ≠ (s.heap.push (nset w)).objs.size := by
          rw [Heap.size_push]
          exact Nat.ne_of_lt (Nat.lt_succ_of_lt lt0)
        have out1 : s.heap.objs.size ∉ [(s.heap.push (nset w)).objs.size, l] := by
          rw [Heap.size_push]
          simp only [List.mem_cons, List.mem_singleton, List.not_mem_nil, or_false, not_or]
          exact ⟨Nat.ne_of_lt (Nat.lt_succ_self _), Nat.ne_of_gt lt0⟩
        have hval : ∀ (i : Nat) (v : Value), items[i]? = some v → ∃ k, ks[i]? = some k ∧ keyIs k v = true := fun i v hv => hit.2 i v (by rw [Array.getElem?_toList]; exact hv)
        refine upd_keys ((Walks.tuple hh3 _ l ne1 items).toS) s.heap.objs.size out1 ks isz hb hval (items.size - 0) 0 _ (by omega) (Nat.zero_le _) ⟨⟨_, Heap.get?_push_size _ rfl, rfl, rfl⟩, (is1.push _)⟩ ?hS0 ?hR
        case hS0 =>
          have at2 : ((s.heap.push (nset w)).push { cls := .type "tuple_iterator", data := .fields #[.ref l, .int 0 0] }).get? s.heap.objs.size = some (nset w) := Heap.get?_push_of_some _ at0
          exact ⟨0, Nat.le_refl 0, (skR_nil at2).congr fun k => by rw [List.take_zero]; rfl⟩
        case hR =>
          intro s' c' mv hc' hS'
          obtain ⟨h', g2, d', tk', os'⟩ := s'
          have eg : g2 = s.gens := mv.gens
          have ed : d' = s.drawn := mv.drawn
          have eo : os' = s.os := mv.os
          subst eg
          subst ed
          subst eo
          show wpAny _ _ _ _ _ _
          refine wpAny_pure ?_
          show wpAny _ _ (ret Value.none) _ _ _
          rw [isz] at hc'
          refine wpAny_pure ⟨rfl, h', tk', c', rfl, hS', hc', fun b o e => ?_⟩
          have b0 : b < s.heap.objs.size := Heap.lt_size e
          have b2 : b ≠ (s.heap.push (nset w)).objs.size := by
            rw [Heap.size_push]
            exact Nat.ne_of_lt (Nat.lt_succ_of_lt b0)
          exact mv.heap b o (by simp only [List.mem_cons, List.mem_singleton, List.not_mem_nil, or_false, not_or]; exact ⟨Nat.ne_of_lt b0, b2⟩) (Heap.get?_push_of_some _ (Heap.get?_push_of_some _ e))
      · cases r₂ with
        | error e => exact hr₂
        | ok fl₂ =>
          cases fl₂ with
          | ret r =>
            obtain ⟨rfl, h', tk, c', rfl, hS', hc', hk'⟩ := hr₂
            repeat (any_goals (first | assumption | wp_step))
            exact h _ _ _ hS' hc' hk'
          | _ => exact hr₂.elim
    | _ => exact hr.elim
end
end KN

set_option maxRecDepth 100000
set_option maxHeartbeats 4000000
namespace KN
open PySem PySem.Spec L2 PyProof.Rows
/-! ### sorted(set) -/
theorem keysAre_strs : ∀ {us : List Value} {xs : List Str}, Vals (xs.map V.str) us → KeysAre us (xs.map Sum.inr) := fun {us xs} h => by
  refine ⟨by rw [List.length_map, ← h.length, List.length_map], fun i v e => ?_⟩
  induction xs generalizing us i with
  | nil => cases h; simp at e
  | cons x r ih =>
    cases h with
    | cons a t =>
      obtain ⟨k, rfl⟩ := a
      cases i with
      | zero =>
        simp only [List.getElem?_cons_zero, Option.some.injEq] at e
        subst e
        exact ⟨.inr x, rfl, keyIs_str x k⟩
      | succ i => exact ih t i (by simpa using e)
theorem keysAre_ints : ∀ {us : List Value} {xs : List Int}, Vals (xs.map V.int) us → KeysAre us (xs.map Sum.inl) := fun {us xs} h => by
  refine ⟨by rw [List.length_map, ← h.length, List.length_map], fun i v e => ?_⟩
  induction xs generalizing us i with
  | nil => cases h; simp at e
  | cons x r ih =>
    cases h with
    | cons a t =>
      obtain ⟨k, rfl⟩ := a
      cases i with
      | zero =>
        simp only [List.getElem?_cons_zero, Option.some.injEq] at e
        subst e
        exact ⟨.inl x, rfl, keyIs_int x k⟩
      | succ i => exact ih t i (by simpa using e)
theorem strs_out : ∀ (vs : List Value) (ks : List Key) , vs.map (fun v => keyV (0, v)) = ks → (∀ v ∈ vs, ∃ x t, v = Value.str x t) → ∃ ys : List Str, StrsAre vs ys ∧ ks = ys.map Sum.inr
  | [], ks, e, _ => ⟨[], .nil, e.symm⟩
  | v :: r, ks, e, h => by
    obtain ⟨x, t, rfl⟩ := h v List.mem_cons_self
    obtain ⟨ys, h1, h2⟩ := strs_out r _ rfl fun u hu => h u (List.mem_cons_of_mem _ hu)
    refine ⟨x :: ys, .cons x t h1, ?_⟩
    rw [← e, List.map_cons, h2]
    rfl
theorem ints_out : ∀ (vs : List Value) (ks : List Key) , vs.map (fun v => keyV (0, v)) = ks → (∀ v ∈ vs, ∃ x t, v = Value.int x t) → ∃ ys : List Int, IntsAre vs ys ∧ ks = ys.map Sum.inl
  | [], ks, e, _ => ⟨[], .nil, e.symm⟩
  | v :: r, ks, e, h => by
    obtain ⟨x, t, rfl⟩ := h v List.mem_cons_self
    obtain ⟨ys, h1, h2⟩ := ints_out r _ rfl fun u hu => h u (List.mem_cons_of_mem _ hu)
    refine ⟨x :: ys, .cons x t h1, ?_⟩
    rw [← e, List.map_cons, h2]
    rfl
theorem keyV_snd (e : Int × Value) : keyV e = keyV (0, e.2) := rfl
section
variable {P : Program} {w : World} {A : Around} {E : Value → Shared → Prop} {s : Shared} {a : Addr} {n : Nat}
theorem sorted_texts {xs : List Str} {Q : Value → Shared → Prop} (R : SkR w s.heap a (inKs (xs.map Sum.inr)) n) (hh : A.handled = none) (h64 : n < 64)
    (hQ : ∀ s' p (out : Array Value) (c : Nat) (ys : List Str), (∀ b o, s.heap.get? b = some o → s'.heap.get? b = some o) → s'.gens = s.gens → s'.os = s.os → s.heap.objs.size ≤ p →
      s'.heap.get? p = some (seqObj "list" out c) → StrsAre out.toList ys → sortedS ys = true → ys.Nodup → (∀ x, x ∈ ys ↔ x ∈ xs) → ys.length = n → Q (.ref p) s') :
    wpAny (model P w) A (call (.builtin "sorted") [.ref a]) Q E s := by
  obtain ⟨o, es, ep, t, ho, hex, hd, g, nd, hm, hb, hf, hn, hr, hl⟩ := R
  refine Calls.call_function_entry kind_sorted plain_sorted entry_sorted (args_sorted1 _) ?_
  unfold Builtin.«sorted»
  refine wpAny_bind (m := checkCount "sorted" 1 1 _) (wpAny_pure ?_)
  refine wpAny_bind (collect_set (A := A.in1) hh ⟨o, ho, hex.1, hd⟩ hf hb hr hl fun s1 vs k1 hz g1 o1 pm => ?_)
  have len1 : vs.length = n := by rw [pm.length_eq, List.length_map, Array.length_toList]; exact hn
  have pk : (vs.map fun v => keyV (0, v)).Perm (es.toList.map keyV) := by
    have q := pm.map fun v => keyV (0, v)
    rw [List.map_map] at q
    exact q
  obtain ⟨ys0, hS, ek⟩ := strs_out vs _ rfl fun v hv => by
    obtain ⟨e, he, rfl⟩ := List.mem_map.mp (pm.mem_iff.mp hv)
    have m1 : keyV e ∈ es.toList.map keyV := List.mem_map_of_mem he
    have m2 := inKs_iff.1 ((hm _).2 m1)
    obtain ⟨x, _, ex⟩ := List.mem_map.mp m2
    rcases keyIs_shape (g e he).1 with ⟨i, tk, e1, e2⟩ | ⟨y, tk, e1, e2⟩
    · rw [e1] at ex; cases ex
    · exact ⟨y, tk, e2⟩
  refine wpAny_bind (wpAny_newList ?_ (by rw [len1, sizeLine_eq]; omega))
  have hoL : (s1.heap.push (seqObj "list" vs.toArray 0)).get? s1.heap.objs.size = some (seqObj "list" vs.toArray 0) := Heap.get?_push_size _ rfl
  refine wpAny_bind (wpAny_holding (wpAny_call_entry slot_list_sort ⟨_, hoL, rfl⟩ entry_list_sort
    (list_sort_treeK strKind_oneLt (s := { s1 with heap := s1.heap.push (seqObj "list" vs.toArray 0) }) hoL hS.keysOf (fun v₁ v₂ rest e => keyKind_strs (by rw [← e]; exact hS)) (by rw [len1]; exact h64) fun st' hp hs => ⟨_, rfl, ?_⟩) (args_list_sort _)))
  obtain ⟨ys, q1, q2, q3⟩ := sorted_out_str hS hp hs
  obtain ⟨c, hc⟩ := sortedHeap_at (vs := vs) (out := (arrOf st').map (·.2)) hoL
  have pn : (ys.map Sum.inr : List Key).Perm (es.toList.map keyV) := ((q2.map Sum.inr).trans (by rw [← ek])).trans pk
  have ndy : ys.Nodup := by
    have := pn.nodup_iff.mpr nd
    exact (List.pairwise_map.1 this).imp fun h e => h (by rw [e])
  refine wpAny_pure ⟨_, rfl, hQ _ s1.heap.objs.size _ c ys (fun b u e => ?_) g1 o1 hz hc q1 q3 ndy (fun x => ?_) ?_⟩
  · have q := k1 b u e
    have hlt := Heap.lt_size q
    rw [sortedHeap_old (Nat.ne_of_lt hlt) (by rw [size_push']; exact Nat.lt_succ_of_lt hlt)]
    exact Heap.get?_push_of_some _ q
  · have e1 : (Sum.inr x : Key) ∈ ys.map Sum.inr ↔ x ∈ ys := by simp
    have e2 : (Sum.inr x : Key) ∈ xs.map Sum.inr ↔ x ∈ xs := by simp
    rw [← e1, ← e2, pn.mem_iff, ← hm, inKs_iff]
  · have := pn.length_eq
    rw [List.length_map, List.length_map] at this
    exact this.trans (Array.length_toList.trans hn)
theorem sorted_nums {xs : List Int} {Q : Value → Shared → Prop} (R : SkR w s.heap a (inKs (xs.map Sum.inl)) n) (hh : A.handled = none) (h64 : n < 64)
    (hQ : ∀ s' p (out : Array Value) (c : Nat) (ys : List Int), (∀ b o, s.heap.get? b = some o → s'.heap.get? b = some o) → s'.gens = s.gens → s'.os = s.os → s.heap.objs.size ≤ p →
      s'.heap.get? p = some (seqObj "list" out c) → IntsAre out.toList ys → ys.Pairwise (· ≤ ·) → ys.Nodup → (∀ x, x ∈ ys ↔ x ∈ xs) → ys.length = n → Q (.ref p) s') :
    wpAny (model P w) A (call (.builtin "sorted") [.ref a]) Q E s := by
  obtain ⟨o, es, ep, t, ho, hex, hd, g, nd, hm, hb, hf, hn, hr, hl⟩ := R
  refine Calls.call_function_entry kind_sorted plain_sorted entry_sorted (args_sorted1 _) ?_
  unfold Builtin.«sorted»
  refine wpAny_bind (m := checkCount "sorted" 1 1 _) (wpAny_pure ?_)
  refine wpAny_bind (collect_set (A := A.in1) hh ⟨o, ho, hex.1, hd⟩ hf hb hr hl fun s1 vs k1 hz g1 o1 pm => ?_)
  have len1 : vs.length = n := by rw [pm.length_eq, List.length_map, Array.length_toList]; exact hn
  have pk : (vs.map fun v => keyV (0, v)).Perm (es.toList.map keyV) := by
    have q := pm.map fun v => keyV (0, v)
    rw [List.map_map] at q
    exact q
  obtain ⟨ys0, hS, ek⟩ := ints_out vs _ rfl fun v hv => by
    obtain ⟨e, he, rfl⟩ := List.mem_map.mp (pm.mem_iff.mp hv)
    have m1 : keyV e ∈ es.toList.map keyV := List.mem_map_of_mem he
    have m2 := inKs_iff.1 ((hm _).2 m1)
    obtain ⟨x, _, ex⟩ := List.mem_map.mp m2
    rcases keyIs_shape (g e he).1 with ⟨i, tk, e1, e2⟩ | ⟨y, tk, e1, e2⟩
    · exact ⟨i, tk, e2⟩
    · rw [e1] at ex; cases ex
  refine wpAny_bind (wpAny_newList ?_ (by rw [len1, sizeLine_eq]; omega))
  have hoL : (s1.heap.push (seqObj "list" vs.toArray 0)).get? s1.heap.objs.size = some (seqObj "list" vs.toArray 0) := Heap.get?_push_size _ rfl
  refine wpAny_bind (wpAny_holding (wpAny_call_entry slot_list_sort ⟨_, hoL, rfl⟩ entry_list_sort
    (list_sort_tree hoL hS (by rw [len1]; exact h64) fun out ys q1 q2 q3 => ⟨_, rfl, ?_⟩) (args_list_sort _)))
  obtain ⟨c, hc⟩ := sortedHeap_at (vs := vs) (out := out) hoL
  have pn : (ys.map Sum.inl : List Key).Perm (es.toList.map keyV) := ((q2.map Sum.inl).trans (by rw [← ek])).trans pk
  have ndy : ys.Nodup := by
    have := pn.nodup_iff.mpr nd
    exact (List.pairwise_map.1 this).imp fun h e => h (by rw [e])
  refine wpAny_pure ⟨_, rfl, hQ _ s1.heap.objs.size _ c ys (fun b u e => ?_) g1 o1 hz hc q1 q3 ndy (fun x => ?_) ?_⟩
  · have q := k1 b u e
    have hlt := Heap.lt_size q
    show (sortedHeap (s1.heap.push (seqObj "list" vs.toArray 0)) s1.heap.objs.size vs out).get? b = some u
    rw [sortedHeap_old (Nat.ne_of_lt hlt) (by rw [size_push']; exact Nat.lt_succ_of_lt hlt)]
    exact Heap.get?_push_of_some _ q
  · have e1 : (Sum.inl x : Key) ∈ ys.map Sum.inl ↔ x ∈ ys := by simp
    have e2 : (Sum.inl x : Key) ∈ xs.map Sum.inl ↔ x ∈ xs := by simp
    rw [← e1, ← e2, pn.mem_iff, ← hm, inKs_iff]
  · have := pn.length_eq
    rw [List.length_map, List.length_map] at this
    exact this.trans (Array.length_toList.trans hn)
end
end KN

set_option maxRecDepth 100000
set_option maxHeartbeats 4000000
namespace KN
open PySem PySem.Spec L2 PyProof.Rows
/-! ### the text sorted(set(a)) -/
abbrev SeqB (K : PySem.W.Frag) (H : Hp) (l : Addr) (xs : List V) : Prop := SqL K H l xs ∨ SqT K H l xs
def tSset (K : PySem.W.Frag) (ta : TE) : TE := fun σ H Q => ta σ H fun x H1 => ∃ l, x = .ref l ∧
  ((∃ xs : List Str, SeqB K H1 l (xs.map V.str) ∧ xs.length < 64 ∧ ∀ (ys : List Str) p, sortedS ys = true → ys.Nodup → (∀ x, x ∈ ys ↔ x ∈ xs) → H1 p = none → Q (.ref p) (upd H1 p (.lst (ys.map V.str)))) ∨
   (∃ xs : List Int, SeqB K H1 l (xs.map V.int) ∧ xs.length < 64 ∧ ∀ (ys : List Int) p, ys.Pairwise (· ≤ ·) → ys.Nodup → (∀ x, x ∈ ys ↔ x ∈ xs) → H1 p = none → Q (.ref p) (upd H1 p (.lst (ys.map V.int)))))
section
variable {X : Cx}
theorem pe_sset {a : Expr} {ta : TE} {p p2 q pos : Pos} (hc : X.calm = true) (hg : Gl X "sorted") (hm : X.mg "sorted" = none) (hg2 : Gl X "set") (hm2 : X.mg "set" = none) (ha : PE X a ta)
    (na : starEach [a] X.env = (false, eval a X.env) :: starEach [] X.env) : PE X (.Call (.Name "sorted" p) [.Call (.Name "set" p2) [a] [] q] [] pos) (tSset X.K ta) := by
  refine ⟨fun pins s σ H Q I h => ?_⟩
  refine Call_ (ld_blt I hg hm boot_sorted ?_)
  refine PyProof.Rows.callWith_builtin1 (PyProof.Rows.args_cons ?_ rfl) rfl rfl
  refine Call_ (ld_blt I hg2 hm2 boot_set ?_)
  refine PyProof.Rows.callWith_type1 (PyProof.Rows.args_cons (thn (ha.run pins s σ H _ I h) fun v s1 ⟨x, H1, I1, r1, q1⟩ => PyProof.Rows.args_nil ?_) na) na rfl
  obtain ⟨l, rfl, q1⟩ := q1
  cases r1
  -- the set's object is below the layer: what stood, stands
  have go : ∀ (ks : List Key) (xs : List V), SeqB X.K H1 l xs → (∀ us, Vals xs us → KeysAre us ks) → ks.length < 64 →
      (∀ (h' : Heap) (tk c : Nat), SkR X.w h' s1.heap.objs.size (inKs ks) c → c ≤ ks.length → Inv X pins σ H1 { s1 with heap := h', toks := tk } →
        wpAny (model X.prog X.w) X.A (call (.builtin "sorted") [Value.ref s1.heap.objs.size]) (EP X pins σ Q) X.xe { s1 with heap := h', toks := tk }) →
      wpAny (model X.prog X.w) X.A (call (.type "set") [.ref l]) (fun v₂ s₂ => wpAny (model X.prog X.w) X.A (spliced (backTo pos (starEach [] X.env))) (fun vs s₃ => wpAny (model X.prog X.w) X.A (call (.builtin "sorted") (v₂ :: vs)) (EP X pins σ Q) X.xe s₃) X.xe s₂) X.xe s1 := fun ks xs hq hk h64 fin => by
    have sb : ks.length + 1 < scanBound := by unfold scanBound; omega
    rcases hq with hq | hq
    · obtain ⟨its, r, pl, hz⟩ := I1.list hq
      refine set_of_list ks (I1.ok.hd hc) pl.isList (by simpa using hk its r) sb fun h' tk c hS hcl kp => PyProof.Rows.args_nil ?_
      exact fin h' tk c hS hcl (I1.kept kp)
    · obtain ⟨its, r, pl, hz⟩ := I1.tuple hq
      refine set_of_tuple ks (I1.ok.hd hc) pl (by simpa using hk its r) sb fun h' tk c hS hcl kp => PyProof.Rows.args_nil ?_
      exact fin h' tk c hS hcl (I1.kept kp)
  rcases q1 with ⟨xs, hq, h64, q1⟩ | ⟨xs, hq, h64, q1⟩
  · refine go (xs.map Sum.inr) _ hq (fun us r => keysAre_strs r) (by rw [List.length_map]; exact h64) fun h' tk c hS hcl J => ?_
    rw [List.length_map] at hcl
    refine sorted_texts hS (J.ok.hd hc) (by omega) fun s' p out c' ys k g o hp hg' hi hs nd hm' hl' => ?_
    have hlen : (ys.map V.str).length ≤ sizeLine := by rw [List.length_map, hl', sizeLine_eq]; omega
    have hn : H1 p = none := J.hok.fresh hp
    have J2 : L2.Inv X pins σ (upd H1 p (.lst (ys.map V.str))) { ({ s1 with heap := h', toks := tk } : Shared) with heap := s'.heap, gens := s'.gens, drawn := s'.drawn, toks := s'.toks } :=
      J.call (ch := []) (Un.laid k hp hn) (J.hok.laid k hp ⟨hlen, out.toList, c', vals_of_strs hi, hg'⟩) (by rw [g]; exact J.bare) (fun _ z => nomatch z)
    have e : s' = { s1 with heap := s'.heap, gens := s'.gens, drawn := s'.drawn, toks := s'.toks } := by
      cases s'
      cases s1
      cases o
      rfl
    rw [e]
    exact ⟨.ref p, _, J2, rfl, q1 ys p hs nd hm' hn⟩
  · refine go (xs.map Sum.inl) _ hq (fun us r => keysAre_ints r) (by rw [List.length_map]; exact h64) fun h' tk c hS hcl J => ?_
    rw [List.length_map] at hcl
    refine sorted_nums hS (J.ok.hd hc) (by omega) fun s' p out c' ys k g o hp hg' hi hs nd hm' hl' => ?_
    have hlen : (ys.map V.int).length ≤ sizeLine := by rw [List.length_map, hl', sizeLine_eq]; omega
    have hn : H1 p = none := J.hok.fresh hp
    have J2 : L2.Inv X pins σ (upd H1 p (.lst (ys.map V.int))) { ({ s1 with heap := h', toks := tk } : Shared) with heap := s'.heap, gens := s'.gens, drawn := s'.drawn, toks := s'.toks } :=
      J.call (ch := []) (Un.laid k hp hn) (J.hok.laid k hp ⟨hlen, out.toList, c', vals_of_ints hi, hg'⟩) (by rw [g]; exact J.bare) (fun _ z => nomatch z)
    have e : s' = { s1 with heap := s'.heap, gens := s'.gens, drawn := s'.drawn, toks := s'.toks } := by
      cases s'
      cases s1
      cases o
      rfl
    rw [e]
    exact ⟨.ref p, _, J2, rfl, q1 ys p hs nd hm' hn⟩
end
end KN

set_option maxRecDepth 100000
set_option maxHeartbeats 4000000
namespace KN
open PySem L2 PyProof.Rows
/-! ### zip of any two of lists and tuples: its two walkers, told by what they walk -/
def ItB : Bool → Heap → Addr → Addr → Nat → Prop
  | true, h, i, l, n => h.IsListIter i l n
  | false, h, i, l, n => h.IsTupleIter i l n
def SeB : Bool → Heap → Addr → Array Value → Prop
  | true, h, l, vs => h.IsList l vs
  | false, h, l, vs => h.IsTuple l vs
theorem ItB.on {h h' : Heap} {i l : Addr} {n : Nat} : ∀ {q : Bool}, ItB q h i l n → (∀ o, h.get? i = some o → h'.get? i = some o) → ItB q h' i l n
  | true, a, k => Heap.IsListIter.at a k
  | false, a, k => Heap.IsTupleIter.at a k
theorem SeB.on {h h' : Heap} {l : Addr} {vs : Array Value} : ∀ {q : Bool}, SeB q h l vs → (∀ o, h.get? l = some o → h'.get? l = some o) → SeB q h' l vs
  | true, a, k => Heap.IsList.at a k
  | false, ⟨o, e, r⟩, k => ⟨o, k o e, r⟩
theorem ItB.obj {h : Heap} {i l : Addr} {n : Nat} : ∀ {q : Bool}, ItB q h i l n → ∃ o, h.get? i = some o ∧ o.data = .fields #[.ref l, .int n 0]
  | true, ⟨o, e, _, d⟩ => ⟨o, e, d⟩
  | false, ⟨o, e, _, d⟩ => ⟨o, e, d⟩
/-- it walks vs (at l, a list or a tuple) and stands at n -/
def WkAt (q : Bool) (h : Heap) (i l : Addr) (vs : Array Value) (n : Nat) : Prop := ItB q h i l n ∧ SeB q h l vs
theorem WkAt.but {t : Bool} {h h' : Heap} {it l c : Addr} {xs : Array Value} {k : Nat} (q : WkAt t h it l xs k) (e : Heap.ExtBut c h h') (n1 : it ≠ c) (n2 : l ≠ c) : WkAt t h' it l xs k :=
  ⟨q.1.on fun o x => e _ o n1 x, q.2.on fun o x => e _ o n2 x⟩
theorem WkAt.lt {t : Bool} {h : Heap} {it l : Addr} {xs : Array Value} {k : Nat} (q : WkAt t h it l xs k) : it < h.objs.size := by
  obtain ⟨o, e, _⟩ := q.1.obj
  exact Heap.lt_size e
section
variable {prog : Program} {w : World} {A : Around} {E : Value → Shared → Prop} {s : Shared}
theorem wk_item {t : Bool} {it l : Addr} {k : Nat} {xs : Array Value} {x : Value} {Q : Value → Shared → Prop} (q : WkAt t s.heap it l xs k) (n : l ≠ it) (hx : xs[k]? = some x)
    (f : ∀ h2, WkAt t h2 it l xs (k + 1) → Heap.SameBut it s.heap h2 → Q x { s with heap := h2 }) : wpAny (model prog w) A (Builtin.SmallTypes.nextOf (.ref it)) Q E s := by
  obtain ⟨a, b⟩ := q
  cases t with
  | true => exact wpAny_nextOf_list_item a b hx fun h2 a2 e => f h2 ⟨a2, b.on fun o x => e.extBut _ o n x⟩ e
  | false => exact RZ.nextOf_tuple_item a b hx fun h2 a2 e => f h2 ⟨a2, b.on fun o x => e.extBut _ o n x⟩ e
theorem wk_end {t : Bool} {it l : Addr} {k : Nat} {xs : Array Value} {Q : Value → Shared → Prop} (hh : A.handled = none) (q : WkAt t s.heap it l xs k) (hx : xs[k]? = none)
    (f : ∀ h2 e, Heap.ExtBut it s.heap h2 → (∃ o, h2.get? e = some o ∧ o.cls = .type "StopIteration") → E (.ref e) { s with heap := h2 }) : wpAny (model prog w) A (Builtin.SmallTypes.nextOf (.ref it)) Q E s := by
  obtain ⟨a, b⟩ := q
  cases t with
  | true => exact wpAny_nextOf_list_end hh a b hx f
  | false => exact RZ.nextOf_tuple_end hh a b hx f
theorem zg_item {q1b q2b : Bool} {z ti ot i1 i2 l1 l2 : Addr} {k1 k2 : Nat} {xs ys : Array Value} {x y a b : Value} {Q : Value → Shared → Prop} (Ap : ZipApart z ti ot i1 i2 l1 l2)
    (hz : IsZip s.heap z ti ot .none) (hT : IsPair s.heap ti (.ref i1) (.ref i2)) (hO : IsPair s.heap ot a b) (q1 : WkAt q1b s.heap i1 l1 xs k1) (q2 : WkAt q2b s.heap i2 l2 ys k2) (hx : xs[k1]? = some x) (hy : ys[k2]? = some y)
    (f : ∀ g, IsZip g z ti ot (rawInt s.heap.objs.size) → IsPair g ot x y → WkAt q1b g i1 l1 xs (k1 + 1) → WkAt q2b g i2 l2 ys (k2 + 1) → IsPair g s.heap.objs.size x y → g.objs.size = s.heap.objs.size + 1 →
      (∀ c o, c ≠ z → c ≠ ot → c ≠ i1 → c ≠ i2 → s.heap.get? c = some o → g.get? c = some o) → Q (.ref s.heap.objs.size) { s with heap := g }) :
    wpAny (model prog w) A (Builtin.«zip.__next__» ⟨[.ref z], []⟩) (fun fin t => ∃ v, fin = .done (.ret v) ∧ Q v t) E s := by
  show wpAny _ _ (field (Value.ref z) 2 >>= _) _ _ s
  refine wpAny_bind (wpAny_field hz rfl (x := Value.bool false) rfl ?_)
  show wpAny _ _ (field (Value.ref z) 3 >>= _) _ _ s
  refine wpAny_bind (wpAny_field hz rfl (x := Value.ref ti) rfl ?_)
  refine wpAny_bind (wpAny_seqItems hT rfl ?_)
  show wpAny _ _ (Builtin.SmallTypes.ownedTupleIsFree (Value.ref z) >>= _) _ _ s
  refine wpAny_bind ?_
  unfold Builtin.SmallTypes.ownedTupleIsFree
  refine wpAny_bind (wpAny_field hz rfl (x := Value.none) rfl (wpAny_pure ?_))
  simp only [if_true]
  refine wpAny_bind (wpAny_rule (wpAny_bind (wpAny_field hz rfl (x := Value.ref ot) rfl ?_)))
  refine wpAny_bind (wpAny_setField_rec hz (by simp) fun g1 z1 b1 => ?_)
  have z1 : IsZip g1 z ti ot .ellipsis := z1
  refine wpAny_bind ?_
  simp only [List.zipIdx_cons, List.zipIdx_nil, List.forIn_cons, List.forIn_nil]
  refine wpAny_bind (wpAny_bind (wpAny_onRaise ?_))
  show wpAny _ _ (Builtin.SmallTypes.nextOf (Value.ref i1) >>= _) _ _ _
  refine wpAny_bind (wk_item (q1.but b1.extBut Ap.i1z Ap.l1z) Ap.l1i1 hx fun g2 w2 b2 => wpAny_pure ?_)
  have o2 : IsPair g2 ot a b := b2.extBut _ _ Ap.TOi1 (b1.extBut _ _ Ap.TOz hO)
  refine wpAny_bind (wpAny_seqItems o2 rfl (wpAny_bind (wpAny_updateSeq_pair o2 fun g3 o3 b3 => ?_)))
  have o3 : IsPair g3 ot x b := o3
  refine wpAny_bind (wpAny_letGo (wpAny_pure (wpAny_bind (wpAny_bind (wpAny_onRaise ?_)))))
  show wpAny _ _ (Builtin.SmallTypes.nextOf (Value.ref i2) >>= _) _ _ _
  have w3 : WkAt q2b g3 i2 l2 ys k2 := ((q2.but b1.extBut Ap.i2z Ap.l2z).but b2.extBut Ap.i12.symm Ap.l2i1).but b3.extBut Ap.TOi2.symm Ap.l2TO
  refine wpAny_bind (wk_item w3 Ap.l2i2 hy fun g4 w4 b4 => wpAny_pure ?_)
  have o4 : IsPair g4 ot x b := b4.extBut _ _ Ap.TOi2 o3
  refine wpAny_bind (wpAny_seqItems o4 rfl (wpAny_bind (wpAny_updateSeq_pair o4 fun g5 o5 b5 => ?_)))
  have o5 : IsPair g5 ot x y := o5
  refine wpAny_bind (wpAny_letGo (wpAny_pure (wpAny_pure (wpAny_bind (wpAny_seqItems o5 rfl (wpAny_bind (wpAny_newTuple ?_)))))))
  have sz : g5.objs.size = s.heap.objs.size := by rw [b5.1, b4.1, b3.1, b2.1, b1.1]
  have z5 : IsZip g5 z ti ot .ellipsis := b5.extBut _ _ Ap.TOz.symm (b4.extBut _ _ Ap.i2z.symm (b3.extBut _ _ Ap.TOz.symm (b2.extBut _ _ Ap.i1z.symm z1)))
  have kp : ∀ c o, c ≠ z → c ≠ ot → c ≠ i1 → c ≠ i2 → s.heap.get? c = some o → g5.get? c = some o := fun c o n1 n2 n3 n4 e =>
    b5.extBut _ _ n2 (b4.extBut _ _ n4 (b3.extBut _ _ n2 (b2.extBut _ _ n3 (b1.extBut _ _ n1 e))))
  have v1 : WkAt q1b g5 i1 l1 xs (k1 + 1) := ((w2.but b3.extBut Ap.TOi1.symm Ap.l1TO).but b4.extBut Ap.i12 Ap.l1i2).but b5.extBut Ap.TOi1.symm Ap.l1TO
  have v2 : WkAt q2b g5 i2 l2 ys (k2 + 1) := w4.but b5.extBut Ap.TOi2.symm Ap.l2TO
  have zl : z < g5.objs.size := Heap.lt_size z5
  show wpAny _ _ (Builtin.SmallTypes.ownedTupleHandOut (Value.ref z) (Value.ref g5.objs.size) >>= _) _ _ _
  refine wpAny_bind ?_
  unfold Builtin.SmallTypes.ownedTupleHandOut
  have z6 : IsZip (g5.push { cls := .type "tuple", data := .seq #[x, y] }) z ti ot .ellipsis := Heap.get?_push_of_some _ z5
  refine wpAny_bind (wpAny_setField_rec z6 (by simp) fun g7 z7 b7 => ?_)
  have z7 : IsZip g7 z ti ot (rawInt g5.objs.size) := z7
  refine wpAny_setField_rec z7 (by simp) fun g8 z8 b8 => ?_
  have z8 : IsZip g8 z ti ot (rawInt g5.objs.size) := z8
  have push : Heap.ExtBut z (g5.push { cls := .type "tuple", data := .seq #[x, y] }) g8 := fun c o n e => b8.extBut _ _ n (b7.extBut _ _ n e)
  have up : Heap.ExtBut z g5 g8 := fun c o n e => push c o n (Heap.get?_push_of_some _ e)
  have t8 : IsPair g8 g5.objs.size x y := push _ _ (Nat.ne_of_gt zl) (Heap.get?_push_size _ rfl)
  have s8 : g8.objs.size = g5.objs.size + 1 := by rw [b8.1, b7.1, Heap.size_push]
  rw [sz] at z8 t8 s8
  refine wpAny_pure ⟨_, rfl, ?_⟩
  show Q (.ref g5.objs.size) _
  rw [sz]
  exact f g8 z8 (up _ _ Ap.TOz o5) (v1.but up Ap.i1z Ap.l1z) (v2.but up Ap.i2z Ap.l2z) t8 s8 fun c o n1 n2 n3 n4 e => up c o n1 (kp c o n1 n2 n3 n4 e)
theorem zg_end {q1b q2b : Bool} {z ti ot i1 i2 l1 l2 : Addr} {k1 k2 : Nat} {xs ys : Array Value} {a b : Value} {Q : Fin → Shared → Prop} (hh : A.handled = none) (Ap : ZipApart z ti ot i1 i2 l1 l2)
    (hz : IsZip s.heap z ti ot .none) (hT : IsPair s.heap ti (.ref i1) (.ref i2)) (hO : IsPair s.heap ot a b) (q1 : WkAt q1b s.heap i1 l1 xs k1) (q2 : WkAt q2b s.heap i2 l2 ys k2) (no : xs[k1]? = none ∨ ys[k2]? = none)
    (f : ∀ g e, (∀ c o, c ≠ z → c ≠ ot → c ≠ i1 → c ≠ i2 → s.heap.get? c = some o → g.get? c = some o) → (∃ o, g.get? e = some o ∧ o.cls = .type "StopIteration") → E (.ref e) { s with heap := g }) :
    wpAny (model prog w) A (Builtin.«zip.__next__» ⟨[.ref z], []⟩) Q E s := by
  show wpAny _ _ (field (Value.ref z) 2 >>= _) _ _ s
  refine wpAny_bind (wpAny_field hz rfl (x := Value.bool false) rfl ?_)
  show wpAny _ _ (field (Value.ref z) 3 >>= _) _ _ s
  refine wpAny_bind (wpAny_field hz rfl (x := Value.ref ti) rfl ?_)
  refine wpAny_bind (wpAny_seqItems hT rfl ?_)
  show wpAny _ _ (Builtin.SmallTypes.ownedTupleIsFree (Value.ref z) >>= _) _ _ s
  refine wpAny_bind ?_
  unfold Builtin.SmallTypes.ownedTupleIsFree
  refine wpAny_bind (wpAny_field hz rfl (x := Value.none) rfl (wpAny_pure ?_))
  simp only [if_true]
  refine wpAny_bind (wpAny_rule (wpAny_bind (wpAny_field hz rfl (x := Value.ref ot) rfl ?_)))
  refine wpAny_bind (wpAny_setField_rec hz (by simp) fun g1 z1 b1 => ?_)
  have z1 : IsZip g1 z ti ot .ellipsis := z1
  refine wpAny_bind ?_
  simp only [List.zipIdx_cons, List.zipIdx_nil, List.forIn_cons, List.forIn_nil]
  refine wpAny_bind (wpAny_bind (wpAny_onRaise ?_))
  show wpAny _ _ (Builtin.SmallTypes.nextOf (Value.ref i1) >>= _) _ _ _
  cases hx : xs[k1]? with
  | none =>
    refine wpAny_bind (wk_end hh (q1.but b1.extBut Ap.i1z Ap.l1z) hx fun g2 e b2 st => ?_)
    obtain ⟨x, hxo, hxc⟩ := st
    have z2 : IsZip g2 z ti ot .ellipsis := b2 _ _ Ap.i1z.symm z1
    have ne : e ≠ z := fun q => by rw [q, z2] at hxo; cases hxo; simp at hxc
    exact wpAny_setField_rec z2 (by simp) fun g3 _ b3 => f g3 e (fun c o n1 _ n3 _ q => b3.extBut _ _ n1 (b2 _ _ n3 (b1.extBut _ _ n1 q))) ⟨x, b3.extBut _ _ ne hxo, hxc⟩
  | some x =>
    have hy : ys[k2]? = none := no.resolve_left (by rw [hx]; exact fun q => nomatch q)
    refine wpAny_bind (wk_item (q1.but b1.extBut Ap.i1z Ap.l1z) Ap.l1i1 hx fun g2 w2 b2 => wpAny_pure ?_)
    have o2 : IsPair g2 ot a b := b2.extBut _ _ Ap.TOi1 (b1.extBut _ _ Ap.TOz hO)
    refine wpAny_bind (wpAny_seqItems o2 rfl (wpAny_bind (wpAny_updateSeq_pair o2 fun g3 o3 b3 => ?_)))
    refine wpAny_bind (wpAny_letGo (wpAny_pure (wpAny_bind (wpAny_bind (wpAny_onRaise ?_)))))
    show wpAny _ _ (Builtin.SmallTypes.nextOf (Value.ref i2) >>= _) _ _ _
    have w3 : WkAt q2b g3 i2 l2 ys k2 := ((q2.but b1.extBut Ap.i2z Ap.l2z).but b2.extBut Ap.i12.symm Ap.l2i1).but b3.extBut Ap.TOi2.symm Ap.l2TO
    refine wpAny_bind (wk_end hh w3 hy fun g4 e b4 st => ?_)
    obtain ⟨u, huo, huc⟩ := st
    have z4 : IsZip g4 z ti ot .ellipsis := b4 _ _ Ap.i2z.symm (b3.extBut _ _ Ap.TOz.symm (b2.extBut _ _ Ap.i1z.symm z1))
    have ne : e ≠ z := fun q => by rw [q, z4] at huo; cases huo; simp at huc
    exact wpAny_setField_rec z4 (by simp) fun g5 _ b5 => f g5 e (fun c o n1 n2 n3 n4 q => b5.extBut _ _ n1 (b4 _ _ n4 (b3.extBut _ _ n2 (b2.extBut _ _ n3 (b1.extBut _ _ n1 q))))) ⟨u, b5.extBut _ _ ne huo, huc⟩
theorem nx_zgI {q1b q2b : Bool} {z ti ot i1 i2 l1 l2 : Addr} {k1 k2 : Nat} {xs ys : Array Value} {x y a b : Value} {Q : Option Value → Shared → Prop} (Ap : ZipApart z ti ot i1 i2 l1 l2)
    (hz : IsZip s.heap z ti ot .none) (hT : IsPair s.heap ti (.ref i1) (.ref i2)) (hO : IsPair s.heap ot a b) (q1 : WkAt q1b s.heap i1 l1 xs k1) (q2 : WkAt q2b s.heap i2 l2 ys k2) (hx : xs[k1]? = some x) (hy : ys[k2]? = some y)
    (f : ∀ g, IsZip g z ti ot (rawInt s.heap.objs.size) → IsPair g ot x y → WkAt q1b g i1 l1 xs (k1 + 1) → WkAt q2b g i2 l2 ys (k2 + 1) → IsPair g s.heap.objs.size x y → g.objs.size = s.heap.objs.size + 1 →
      (∀ c o, c ≠ z → c ≠ ot → c ≠ i1 → c ≠ i2 → s.heap.get? c = some o → g.get? c = some o) → Q (some (.ref s.heap.objs.size)) { s with heap := g }) :
    wpAny (model prog w) A (pyNext (.ref z)) Q E s := by
  have ty : s.TypeIs (.ref z) "zip" := ⟨_, hz, rfl⟩
  unfold pyNext
  refine wpAny_bind (wpAny_attempt (wpAny_callSpecial?_slot (name := Str.ofString "__next__") ty F.slot_zip_next ?_))
  exact wpAny_call_entry F.slot_zip_next ty F.entry_zip_next (zg_item Ap hz hT hO q1 q2 hx hy fun g c1 c2 c3 c4 c5 c6 c7 => wpAny_pure (f g c1 c2 c3 c4 c5 c6 c7)) (F.args_zip_next_1 _)
theorem nx_zgE {q1b q2b : Bool} {z ti ot i1 i2 l1 l2 : Addr} {k1 k2 : Nat} {xs ys : Array Value} {a b : Value} {Q : Option Value → Shared → Prop} (hh : A.handled = none) (Ap : ZipApart z ti ot i1 i2 l1 l2)
    (hz : IsZip s.heap z ti ot .none) (hT : IsPair s.heap ti (.ref i1) (.ref i2)) (hO : IsPair s.heap ot a b) (q1 : WkAt q1b s.heap i1 l1 xs k1) (q2 : WkAt q2b s.heap i2 l2 ys k2) (no : xs[k1]? = none ∨ ys[k2]? = none)
    (f : ∀ g, (∀ c o, c ≠ z → c ≠ ot → c ≠ i1 → c ≠ i2 → s.heap.get? c = some o → g.get? c = some o) → Q none { s with heap := g }) :
    wpAny (model prog w) A (pyNext (.ref z)) Q E s := by
  have ty : s.TypeIs (.ref z) "zip" := ⟨_, hz, rfl⟩
  unfold pyNext
  refine wpAny_bind (wpAny_attempt (wpAny_callSpecial?_slot (name := Str.ofString "__next__") ty F.slot_zip_next ?_))
  refine wpAny_call_entry F.slot_zip_next ty F.entry_zip_next (zg_end hh Ap hz hT hO q1 q2 no fun g e kp st => ?_) (F.args_zip_next_1 _)
  obtain ⟨x, hxo, hxc⟩ := st
  exact wpAny_bind (wpAny_isInstance (T := "StopIteration") (b := true) ⟨x, hxo, hxc⟩ isSubtype_stop (wpAny_pure (f _ kp)))
end
/-! ### zip(a, b) called: the five new things -/
abbrev zg1 (u : String) (h : Heap) (l : Addr) : Heap := h.push { cls := .type u, data := .fields #[.ref l, .int 0 0] }
abbrev zg3 (u v : String) (h : Heap) (l m : Addr) : Heap := (zg1 v (zg1 u h l) m).push { cls := .type "tuple", data := .seq #[.ref h.objs.size, .ref (zg1 u h l).objs.size] }
abbrev zg4 (u v : String) (h : Heap) (l m : Addr) : Heap := (zg3 u v h l m).push { cls := .type "tuple", data := .seq #[.none, .none] }
abbrev zg5 (u v : String) (h : Heap) (l m : Addr) : Heap := (zg4 u v h l m).push { cls := .type "zip", data := .fields #[.none, .bool false, .bool false, .ref (zg1 v (zg1 u h l) m).objs.size, .ref (zg3 u v h l m).objs.size] }
theorem new_zgLT (l m : Addr) (xs ys : Array Value) : Meets (Builtin.«zip.__new__» ⟨[.type "zip", .ref l, .ref m], []⟩) (fun _ R s => s.heap.IsList l xs ∧ s.heap.IsTuple m ys ∧
      R (.ok (.ret (.ref (zg4 "list_iterator" "tuple_iterator" s.heap l m).objs.size))) { s with heap := zg5 "list_iterator" "tuple_iterator" s.heap l m }) :=
  .of_wp fun prog w A R s h => by
    obtain ⟨hp, g, d, tk, os⟩ := s
    obtain ⟨e1, e2, h⟩ := h
    have hsub := sub_zip
    have y1 : Heap.IsList (Shared.heap ⟨hp, g, d, tk, os⟩) l xs := e1
    have y2 : Heap.IsTuple (Shared.heap ⟨zg1 "list_iterator" hp l, g, d, tk, os⟩) m ys := Heap.IsTuple.push e2 _
    wp_walk using wpAny_pyIter_list y1, wpAny_pyIter_tuple y2
    exact ⟨_, rfl, h⟩
theorem new_zgTL (l m : Addr) (xs ys : Array Value) : Meets (Builtin.«zip.__new__» ⟨[.type "zip", .ref l, .ref m], []⟩) (fun _ R s => s.heap.IsTuple l xs ∧ s.heap.IsList m ys ∧
      R (.ok (.ret (.ref (zg4 "tuple_iterator" "list_iterator" s.heap l m).objs.size))) { s with heap := zg5 "tuple_iterator" "list_iterator" s.heap l m }) :=
  .of_wp fun prog w A R s h => by
    obtain ⟨hp, g, d, tk, os⟩ := s
    obtain ⟨e1, e2, h⟩ := h
    have hsub := sub_zip
    have y1 : Heap.IsTuple (Shared.heap ⟨hp, g, d, tk, os⟩) l xs := e1
    have y2 : Heap.IsList (Shared.heap ⟨zg1 "tuple_iterator" hp l, g, d, tk, os⟩) m ys := Heap.IsList.push e2 _
    wp_walk using wpAny_pyIter_tuple y1, wpAny_pyIter_list y2
    exact ⟨_, rfl, h⟩
theorem zg5_has (u v : String) (h : Heap) (l m : Addr) : (zg5 u v h l m).objs.size = h.objs.size + 5 ∧ (zg4 u v h l m).objs.size = h.objs.size + 4 ∧ IsZip (zg5 u v h l m) (h.objs.size + 4) (h.objs.size + 2) (h.objs.size + 3) .none ∧
    IsPair (zg5 u v h l m) (h.objs.size + 2) (.ref h.objs.size) (.ref (h.objs.size + 1)) ∧ IsPair (zg5 u v h l m) (h.objs.size + 3) .none .none ∧
    (∃ o, (zg5 u v h l m).get? h.objs.size = some o ∧ o.cls = .type u ∧ o.data = .fields #[.ref l, .int 0 0]) ∧ (∃ o, (zg5 u v h l m).get? (h.objs.size + 1) = some o ∧ o.cls = .type v ∧ o.data = .fields #[.ref m, .int 0 0]) ∧
    ∀ c o, h.get? c = some o → (zg5 u v h l m).get? c = some o := by
  have a1 : (zg1 u h l).objs.size = h.objs.size + 1 := Heap.size_push ..
  have a2 : (zg1 v (zg1 u h l) m).objs.size = h.objs.size + 2 := by rw [Heap.size_push, a1]
  have a3 : (zg3 u v h l m).objs.size = h.objs.size + 3 := by rw [Heap.size_push, a2]
  have a4 : (zg4 u v h l m).objs.size = h.objs.size + 4 := by rw [Heap.size_push, a3]
  have a5 : (zg5 u v h l m).objs.size = h.objs.size + 5 := by rw [Heap.size_push, a4]
  have c5 : (zg5 u v h l m).get? (zg4 u v h l m).objs.size = some _ := Heap.get?_push_size _ rfl
  have c4 : (zg5 u v h l m).get? (zg3 u v h l m).objs.size = some _ := Heap.get?_push_of_some _ (Heap.get?_push_size _ rfl)
  have c3 : (zg5 u v h l m).get? (zg1 v (zg1 u h l) m).objs.size = some _ := Heap.get?_push_of_some _ (Heap.get?_push_of_some _ (Heap.get?_push_size _ rfl))
  have c2 : (zg5 u v h l m).get? (zg1 u h l).objs.size = some _ := Heap.get?_push_of_some _ (Heap.get?_push_of_some _ (Heap.get?_push_of_some _ (Heap.get?_push_size _ rfl)))
  have c1 : (zg5 u v h l m).get? h.objs.size = some _ := Heap.get?_push_of_some _ (Heap.get?_push_of_some _ (Heap.get?_push_of_some _ (Heap.get?_push_of_some _ (Heap.get?_push_size _ rfl))))
  rw [a2, a3, a4] at c5
  rw [a1, a2] at c3
  rw [a3] at c4
  rw [a1] at c2
  exact ⟨a5, a4, c5, c3, c4, ⟨_, c1, rfl, rfl⟩, ⟨_, c2, rfl, rfl⟩, fun c o x => Heap.get?_push_of_some _ (Heap.get?_push_of_some _ (Heap.get?_push_of_some _ (Heap.get?_push_of_some _ (Heap.get?_push_of_some _ x))))⟩
section
variable {prog : Program} {w : World} {A : Around} {E : Value → Shared → Prop} {s : Shared}
theorem call_zg {l m : Addr} {xs ys : Array Value} {Q : Value → Shared → Prop} : ∀ {q1 q2 : Bool}, SeB q1 s.heap l xs → SeB q2 s.heap m ys →
    (∀ g, IsZip g (s.heap.objs.size + 4) (s.heap.objs.size + 2) (s.heap.objs.size + 3) .none → IsPair g (s.heap.objs.size + 2) (.ref s.heap.objs.size) (.ref (s.heap.objs.size + 1)) →
      IsPair g (s.heap.objs.size + 3) .none .none → ItB q1 g s.heap.objs.size l 0 → ItB q2 g (s.heap.objs.size + 1) m 0 → (∀ c o, s.heap.get? c = some o → g.get? c = some o) → Q (.ref (s.heap.objs.size + 4)) { s with heap := g }) →
    wpAny (model prog w) A (call (.type "zip") [.ref l, .ref m]) Q E s
  | true, true, e1, e2, f => call_zip_2 e1 e2 fun g c1 c2 c3 c4 c5 _ c7 => f g c1 c2 c3 c4 c5 c7
  | false, false, e1, e2, f => RZ.call_zipT e1 e2 fun g c1 c2 c3 c4 c5 _ c7 => f g c1 c2 c3 c4 c5 c7
  | true, false, e1, e2, f => by
    refine callType_new F.called_zip (by decide) (F.typeCall_zip_2 _ _) (F.newCall_zip_2 _ _) (fun obj => F.args_object_init_3 obj _ _) F.entry_zip_new (new_zgLT l m xs ys) ⟨e1, e2, ?_⟩
    obtain ⟨n5, n4, c1, c2, c3, c4, c5, c6⟩ := zg5_has "list_iterator" "tuple_iterator" s.heap l m
    show _ ∧ _
    rw [n4]
    exact ⟨⟨_, c1, rfl⟩, f _ c1 c2 c3 c4 c5 c6⟩
  | false, true, e1, e2, f => by
    refine callType_new F.called_zip (by decide) (F.typeCall_zip_2 _ _) (F.newCall_zip_2 _ _) (fun obj => F.args_object_init_3 obj _ _) F.entry_zip_new (new_zgTL l m xs ys) ⟨e1, e2, ?_⟩
    obtain ⟨n5, n4, c1, c2, c3, c4, c5, c6⟩ := zg5_has "tuple_iterator" "list_iterator" s.heap l m
    show _ ∧ _
    rw [n4]
    exact ⟨⟨_, c1, rfl⟩, f _ c1 c2 c3 c4 c5 c6⟩
end
/-! ### the walk, as the hand layer tells one -/
def SqB (K : PySem.W.Frag) : Bool → Hp → Addr → List V → Prop
  | true, H, a, xs => SqL K H a xs
  | false, H, a, xs => SqT K H a xs
theorem SqB.get {X : Cx} {pins : List (Addr × Obj)} {σ : L2.St} {H : Hp} {s : Shared} {a : Addr} {xs : List V} (I : Inv X pins σ H s) : ∀ {q : Bool}, SqB X.K q H a xs → ∃ us, Vals xs us ∧ SeB q s.heap a us.toArray ∧ a < s.heap.objs.size
  | true, h => by
    obtain ⟨us, r, p, _⟩ := I.list h
    exact ⟨us, r, p.isList, p.lt⟩
  | false, h => by
    obtain ⟨us, r, p, _⟩ := I.tuple h
    obtain ⟨o, ho, _⟩ := id p
    exact ⟨us, r, p, Heap.lt_size ho⟩
theorem SqB.inj {X : Cx} {pins : List (Addr × Obj)} {σ : L2.St} {H : Hp} {s : Shared} {a : Addr} {xs ys : List V} (I : Inv X pins σ H s) : ∀ {q : Bool}, SqB X.K q H a xs → SqB X.K q H a ys → xs = ys
  | true, h, k => I.list_inj h k
  | false, h, k => I.tuple_inj h k
/-- zip of the things at a and b (lists or tuples, as told), each turn's items in a new pair -/
def Itzg (K : PySem.W.Frag) (q r : Bool) (a b : Addr) : It :=
  ⟨fun i H => ∃ (xs ys : List V) (x y : V), SqB K q H a xs ∧ SqB K r H b ys ∧ xs[i]? = some x ∧ ys[i]? = some y,
    fun i H v H' => ∃ T x y, v = .ref T ∧ H T = none ∧ H' = upd H T (.tup [x, y]) ∧ (∀ xs, SqB K q H a xs → xs[i]? = some x) ∧ ∀ ys, SqB K r H b ys → ys[i]? = some y,
    fun i H => ∃ xs ys : List V, SqB K q H a xs ∧ SqB K r H b ys ∧ (xs.length ≤ i ∨ ys.length ≤ i)⟩
theorem mem5 {c z t o i j : Addr} (h : c ∈ [z, t, o, i, j]) : c = z ∨ c = t ∨ c = o ∨ c = i ∨ c = j := by simpa using h
theorem turn_zg {P : Program} {w : World} {K : PySem.W.Frag} {es : List Expr} {kk : Nat} {tp : Pos} {q r : Bool} {a b z ti ot i j : Addr} (Ap : ZipApart z ti ot i j a b) :
    Turn P w K (.Tuple es kk tp) (Itzg K q r a b) [z, ti, ot, i, j] z (fun n h => IsZip h z ti ot .none ∧ IsPair h ti (.ref i) (.ref j) ∧ (∃ x y, IsPair h ot x y) ∧ ItB q h i a n ∧ ItB r h j b n) where
  mem := by simp
  obj := fun n h st c hc => by
    obtain ⟨hz, hT, ⟨x, y, hO⟩, w1, w2⟩ := st
    obtain ⟨o1, e1, d1⟩ := w1.obj
    obtain ⟨o2, e2, d2⟩ := w2.obj
    rcases mem5 hc with rfl | rfl | rfl | rfl | rfl
    · exact ⟨_, hz, fun v q => nomatch q⟩
    · exact ⟨_, hT, fun v q => nomatch q⟩
    · exact ⟨_, hO, fun v q => nomatch q⟩
    · exact ⟨o1, e1, fun v q => by rw [d1] at q; cases q⟩
    · exact ⟨o2, e2, fun v q => by rw [d2] at q; cases q⟩
  keep := fun n h h' st k => by
    obtain ⟨hz, hT, ⟨x, y, hO⟩, w1, w2⟩ := st
    exact ⟨k z (by simp) _ hz, k ti (by simp) _ hT, ⟨x, y, k ot (by simp) _ hO⟩, w1.on fun o q => k i (by simp) o q, w2.on fun o q => k j (by simp) o q⟩
  item := by
    intro X hP hw hK hc n pins s σ H E I hf st hg
    subst hP hw hK
    obtain ⟨hz, hT, ⟨x0, y0, hO⟩, w1, w2⟩ := st
    obtain ⟨xs, ys, x, y, gx, gy, hx, hy⟩ := hg
    obtain ⟨us, rv, p, _⟩ := SqB.get I gx
    obtain ⟨us2, rv2, p2, _⟩ := SqB.get I gy
    obtain ⟨u, hu, ru⟩ := rv.get hx
    obtain ⟨u2, hu2, ru2⟩ := rv2.get hy
    have zl : z < s.heap.objs.size := Heap.lt_size hz
    refine nx_zgI Ap hz hT hO ⟨w1, p⟩ ⟨w2, p2⟩ (x := u) (y := u2) (by simpa using hu) (by simpa using hu2) fun g z' O' v1 v2 hN sz kp => ?_
    refine ⟨_, rfl, wpAny_letOwnedTupleGo_zip (s := { s with heap := g }) z' fun g2 z2 sb => ?_⟩
    have N2 : g2.get? s.heap.objs.size = some { cls := .type "tuple", data := .seq #[u, u2] } := (sb.2 _ (Nat.ne_of_gt zl)).trans hN
    have nw : ObjOk X.prog X.w (upd H s.heap.objs.size (.tup [x, y])) g2 s.heap.objs.size (.tup [x, y]) :=
      ⟨by show 2 ≤ sizeLine; decide, [u, u2], .cons ru (.cons ru2 .nil), ⟨_, N2, rfl, _, rfl⟩⟩
    have I1 : Inv X pins σ (upd H s.heap.objs.size (.tup [x, y])) { s with heap := g2 } := I.turnedNew (t' := s.toks) (ch := [z, ti, ot, i, j])
      (fun c o nm e => by
        have k : c ≠ z ∧ c ≠ ti ∧ c ≠ ot ∧ c ≠ i ∧ c ≠ j := by simpa using nm
        exact (sb.2 c k.1).trans (kp c o k.1 k.2.2.1 k.2.2.2.1 k.2.2.2.2 e)) hf (Nat.le_refl _) nw
    refine ⟨.ref s.heap.objs.size, _, I1, rfl, ⟨_, x, y, rfl, I.hok.fresh (Nat.le_refl _), rfl, fun l hl => SqB.inj I hl gx ▸ hx, fun l hl => SqB.inj I hl gy ▸ hy⟩, ⟨z2, (sb.2 _ Ap.TIz).trans (kp _ _ Ap.TIz Ap.TITO Ap.TIi1 Ap.TIi2 hT), ⟨u, u2, (sb.2 _ Ap.TOz).trans O'⟩, v1.1.on fun o e => (sb.2 _ Ap.i1z).trans e, v2.1.on fun o e => (sb.2 _ Ap.i2z).trans e⟩, fun c hm => ?_⟩
    obtain ⟨o1, e1, _⟩ := w1.obj
    obtain ⟨o2, e2, _⟩ := w2.obj
    have lt : c < s.heap.objs.size := by
      rcases mem5 hm with rfl | rfl | rfl | rfl | rfl
      · exact zl
      · exact Heap.lt_size hT
      · exact Heap.lt_size hO
      · exact Heap.lt_size e1
      · exact Heap.lt_size e2
    rw [upd_ne (Nat.ne_of_lt lt)]
    exact (hf c hm).1
  done := by
    intro X hP hw hK hc n pins s σ H E I hf st hg
    subst hP hw hK
    obtain ⟨hz, hT, ⟨x0, y0, hO⟩, w1, w2⟩ := st
    obtain ⟨xs, ys, gx, gy, no⟩ := hg
    obtain ⟨us, rv, p, _⟩ := SqB.get I gx
    obtain ⟨us2, rv2, p2, _⟩ := SqB.get I gy
    have l1 := rv.length
    have l2 := rv2.length
    have no2 : us.toArray[n]? = none ∨ us2.toArray[n]? = none := by
      rcases no with q | q
      · exact .inl (by simp; omega)
      · exact .inr (by simp; omega)
    exact nx_zgE (I.ok.hd hc) Ap hz hT hO ⟨w1, p⟩ ⟨w2, p2⟩ no2 fun g kp => ⟨rfl, I.turnedL (t' := s.toks) (ch := [z, ti, ot, i, j]) (fun c o nm e => by
        have k : c ≠ z ∧ c ≠ ti ∧ c ≠ ot ∧ c ≠ i ∧ c ≠ j := by simpa using nm
        exact kp c o k.1 k.2.2.1 k.2.2.2.1 k.2.2.2.2 e) hf⟩
  self := fun A n s Q E st h => wpAny_pyIter_zip st.1 h
def iZipG (K : PySem.W.Frag) (ta : TA) : TI := fun σ H R => ta σ H fun vs H1 => ∃ a b xs ys q r, vs = [.ref a, .ref b] ∧ SqB K q H1 a xs ∧ SqB K r H1 b ys ∧ R (Itzg K q r a b) H1
theorem pi_zipG {X : Cx} {e e2 : Expr} {ta : TA} {p pos tp : Pos} {es : List Expr} {kk : Nat} (hg : Gl X "zip") (hm : X.mg "zip" = none) (ha : PA X [e, e2] ta)
    (hs : starEach [e, e2] X.env = (false, eval e X.env) :: starEach [e2] X.env) (hpl : (backTo pos (starEach [e2] X.env)).any (·.1) = false) :
    PI X (.Tuple es kk tp) (.Call (.Name "zip" p) [e, e2] [] pos) (iZipG X.K ta) := by
  refine ⟨fun pins s σ H R I h => ?_⟩
  refine Call_ (ld_blt I hg hm PyProof.Rows.boot_zip (PyProof.Rows.callWith_type1 (thn (ha.run pos pins s σ H _ I h) fun us s1 q => ?_) hs hpl))
  obtain ⟨vs, H1, I1, r1, a, b, xs, ys, q, r, rfl, gx, gy, k⟩ := q
  obtain ⟨us1, rv, p1, n1⟩ := SqB.get I1 gx
  obtain ⟨us2, rv2, p2, n2⟩ := SqB.get I1 gy
  cases r1 with
  | cons ra rr =>
    cases rr with
    | cons rb rr =>
      cases rr
      cases ra
      cases rb
      have fp : ∀ c, c ∈ [s1.heap.objs.size + 4, s1.heap.objs.size + 2, s1.heap.objs.size + 3, s1.heap.objs.size, s1.heap.objs.size + 1] → FpOk X pins H1 c := fun c hc => by
        have le : s1.heap.objs.size ≤ c := by rcases mem5 hc with rfl | rfl | rfl | rfl | rfl <;> omega
        exact I1.fpOk le (I1.hok.fresh le)
      refine call_zg p1 p2 fun g c1 c2 c3 c4 c5 kp => wpAny_pyIter_zip c1 ?_
      have I2 : Inv X pins σ H1 { s1 with heap := g } := I1.kept (t' := s1.toks) kp
      exact ⟨s1.heap.objs.size + 4, [s1.heap.objs.size + 4, s1.heap.objs.size + 2, s1.heap.objs.size + 3, s1.heap.objs.size, s1.heap.objs.size + 1], _, _, H1, rfl, I2, turn_zg (PySem.W.ktu_apart s1.heap.objs.size a b n1 n2), ⟨c1, c2, ⟨_, _, c3⟩, c4, c5⟩, fp, k⟩
end KN

set_option maxRecDepth 100000
namespace KN
open PySem L2

/-! ### the texts: expressions, statements (a def's own names by their slots) -/
abbrev D := PyData

inductive Bi where
  | len | list | tuple | int | abs | sum | max | min | all | any | sorted | dict
  deriving DecidableEq

/-- what a for walks: a value, a range, enumerate, zip -/
inductive IK where
  | ex | range | enum | zip | items | vals
  deriving DecidableEq

/-- a target: one name, a tuple of names -/
inductive Tg where
  | nm (i : Nat) | tup (is : List Nat)
  deriving DecidableEq

inductive E where
  | var (i : Nat) | peek (i : Nat)
  | non | bl (b : Bool) | int (i : Int) | str (x : Str)
  | glob (x : Str) (d : D)
  | bin (op : Operator) (a b : E) | cmp (op : CmpOp) (a b : E) | chain (o1 o2 : CmpOp) (a b c : E)
  | neg (a : E) | not (a : E) | and (a b : E) | or (a b : E)
  | ite (c a b : E)
  | bi (f : Bi) (es : List E)
  | isi (a : E) (ts : List String) (tup : Bool)
  | tget (i : Nat) (b : E) | get (a b : E) | slice (a lo hi : E) | rev (a : E) | sset (a : E)
  | lst (es : List E) | tup (es : List E) | star (e : E) | dic0 | dic1 (a b : E)
  | dget (a k x : E) | sitm (a : E)
  | call (f : Nat) (es : List E)
  | callN (f : Nat) (es : List E)
  | callK (f : Nat) (perm : List Nat) (es ks : List E)
  | callT (f : Nat) (i : Nat) (es : List E)
  | callR (f : Nat) (e : E) (es : List E)
  | comp (elt : E) (tg : Tg) (ik : IK) (src : List E) (cond : E)
  | comp2 (elt : E) (tg : Tg) (ik : IK) (src : List E) (cond : E) (tg1 : Tg) (ik1 : IK) (src1 : List E) (cond1 : E)
  | dcomp (ke ve : E) (tg : Tg) (ik : IK) (src : List E) (cond : E)
  | absent

inductive S where
  | asg (i : Nat) (e : E) | asgO (i : Nat) (e : E)
  | unp (is : List Nat) (e : E) | par (ts : List (Nat × Bool)) (es : List E)
  | sto (i : Nat) (ix e : E) | stoT (i : Nat) (ix e : E)
  | app (i : Nat) (e : E) | extd (i : Nat) (e : E) | pop (tg : Tg) (i : Nat) | rais
  | expr (e : E) | ret (e : E)
  | ite (c : E) (a b : List S)
  | loop (tg : Tg) (ik : IK) (src : List E) (body : List S)
  | while (n : Nat) (c : E) (body : List S)
  | cont | pass | frz (i : Nat)

/-- what a slot holds: data that stays, a list of the def's own, the box of draws -/
inductive Od where
  | lst (ds : List D) | dic (kvs : List (D × D))
inductive Ent where
  | dat (d : D) | own (o : Od) | tin
def Od.data : Od → D
  | .lst ds => .list ds
  | .dic kvs => .dict kvs

abbrev En := List (Option Ent)
/-- a step: the box's content goes through -/
abbrev M (α : Type) := List D → Option (α × List D)
def M.ret {α : Type} (a : α) : M α := fun τ => some (a, τ)
def M.bnd {α β : Type} (x : M α) (f : α → M β) : M β := fun τ => match x τ with
  | none => none
  | some (a, τ') => f a τ'
def M.of {α : Type} (o : Option α) : M α := fun τ => match o with
  | none => none
  | some a => some (a, τ)
def M.fail {α : Type} : M α := fun _ => none

/-! ### operations on data -/
open PySem.W (dataLt alike)
def isKey : D → Bool
  | .int _ | .str _ => true
  | _ => false
def eqK : D → D → Bool
  | .int a, .int b => decide (a = b)
  | .str a, .str b => decide (a = b)
  | _, _ => false
def lookK : List (D × D) → D → Option D
  | [], _ => none
  | (k, v) :: r, x => if eqK k x then some v else lookK r x
def putKD (kvs : List (D × D)) (k v : D) : List (D × D) :=
  if (kvs.any fun p => eqK p.1 k) = true then kvs.map (fun p => if eqK p.1 k then (p.1, v) else p) else kvs ++ [(k, v)]
def hasK (kvs : List (D × D)) (x : D) : Bool := (lookK kvs x).isSome
/-- pairs one behind another -/
def mergeKD : List (D × D) → List (D × D) → List (D × D)
  | acc, [] => acc
  | acc, (k, v) :: r => mergeKD (putKD acc k v) r
def pairD : D → Option (D × D)
  | .tuple [k, v] => if isKey k then some (k, v) else none
  | _ => none
def pairsD : List D → Option (List (D × D))
  | [] => some []
  | x :: r => match pairD x, pairsD r with
    | some p, some l => some (p :: l)
    | _, _ => none
/-- no list, no dict -/
def still : D → Bool
  | .list _ | .dict _ => false
  | _ => true
def ordD : D → Bool
  | .none | .dict _ => false
  | _ => true
def ltD (a b : D) : Option Bool := if alike a b && ordD a && (SeqAt.shaped a && SeqAt.shaped b) then some (dataLt a b) else none
def allAlike (xs : List D) : Bool := xs.all fun x => ordD x && (x.canLay0 && decide (x.depth ≤ 40)) && xs.all fun y => alike x y
def insD (x : D) : List D → List D
  | [] => [x]
  | y :: r => if dataLt y x then y :: insD x r else x :: y :: r
def sortD : List D → List D
  | [] => []
  | x :: r => insD x (sortD r)
def minD : D → List D → D
  | m, [] => m
  | m, x :: r => minD (if dataLt x m then x else m) r
def maxD : D → List D → D
  | m, [] => m
  | m, x :: r => maxD (if dataLt m x then x else m) r
def lineOk (n : Nat) : Bool := decide (n ≤ 16777216)
def mulOk (i j : Int) : Bool := (decide (-(2 ^ 64) < i) && decide (i < 2 ^ 64)) || (decide (-(2 ^ 64) < j) && decide (j < 2 ^ 64))

def binD : Operator → D → D → Option D
  | .Add, .int a, .int b => some (.int (a + b))
  | .Add, .str a, .str b => if lineOk (a.length + b.length) then some (.str (a ++ b)) else none
  | .Add, .list a, .list b => if lineOk (a.length + b.length) then some (.list (a ++ b)) else none
  | .Add, .tuple a, .tuple b => if lineOk (a.length + b.length) then some (.tuple (a ++ b)) else none
  | .Sub, .int a, .int b => some (.int (a - b))
  | .Mult, .int a, .int b => if mulOk a b then some (.int (a * b)) else none
  | .Mult, .list a, .int k => if decide (-(2 ^ 63) ≤ k) && decide (k < 2 ^ 63) && lineOk (a.length * k.toNat) then some (.list (List.replicate k.toNat a).flatten) else none
  | .Mult, .tuple a, .int k => if !a.isEmpty && decide (2 ≤ k) && decide (k ≤ 1000) && decide (a.length ≤ 1000) then some (.tuple (List.replicate k.toNat a).flatten) else none
  | .Mod, .int a, .int b => if 0 < b then some (.int (a % b)) else none
  | .FloorDiv, .int a, .int b => if decide (0 < b) && decide (b < 1073741824) then some (.int (a / b)) else none
  | .Pow, .int a, .int b => if decide (0 ≤ b) && decide (b ≤ 1000000) && decide (a.natAbs < 2 ^ 64) then some (.int (a ^ b.toNat)) else none
  | .LShift, .int a, .int b => if decide (0 ≤ b) && decide (b ≤ 1000000) && decide (a.natAbs < 2 ^ 64) then some (.int (a * 2 ^ b.toNat)) else none
  | .BitAnd, .int a, .int b => some (.int (Builtin.bitAnd a b))
  | .BitOr, .int a, .int b => some (.int (Builtin.bitOr a b))
  | _, _, _ => none

/-- flat: what stands in a list whose members are looked for -/
def flatD : D → Bool
  | .none | .bool _ | .int _ | .str _ => true
  | _ => false
def inD (x : D) (xs : List D) : Bool := xs.any fun y => PyData.eqv y x
def inSeq (neg : Bool) (x : D) (xs : List D) : Option D :=
  if x.canLay0 && decide (x.depth ≤ 40) && PyData.canLayAll0 xs then some (.bool (if neg then !inD x xs else inD x xs)) else none
def strOne (x : Str) : Option Nat := match x.cps.toList with
  | [c] => some c
  | _ => none
def isNone : D → Bool
  | .none => true
  | _ => false
def cmpD : CmpOp → D → D → Option D
  | .Eq, a, b => if SeqAt.shaped a && SeqAt.shaped b then some (.bool (PyData.eqv a b)) else none
  | .NotEq, a, b => if SeqAt.shaped a && SeqAt.shaped b then some (.bool (!PyData.eqv a b)) else none
  | .Lt, a, b => (ltD a b).map .bool
  | .LtE, a, b => (ltD b a).map fun k => .bool !k
  | .Gt, a, b => (ltD b a).map .bool
  | .GtE, a, b => (ltD a b).map fun k => .bool !k
  | .Is, a, .none => some (.bool (isNone a))
  | .IsNot, a, .none => some (.bool (!isNone a))
  | .In, x, .list xs => inSeq false x xs
  | .In, x, .tuple xs => inSeq false x xs
  | .NotIn, x, .list xs => inSeq true x xs
  | .NotIn, x, .tuple xs => inSeq true x xs
  | .In, x, .dict kvs => if isKey x then some (.bool (hasK kvs x)) else none
  | .NotIn, x, .dict kvs => if isKey x then some (.bool (!hasK kvs x)) else none
  | .In, .str a, .str b => match strOne a with
    | some c => some (.bool (decide (c ∈ b.cps.toList)))
    | none => none
  | .NotIn, .str a, .str b => match strOne a with
    | some c => some (.bool (!decide (c ∈ b.cps.toList)))
    | none => none
  | _, _, _ => none

def truD : D → Option Bool
  | .none => some false
  | .bool b => some b
  | .int i => some (i != 0)
  | .str x => if lineOk x.length then some ((x.length : Int) != 0) else none
  | .list xs => some (!xs.isEmpty)
  | .tuple xs => some (!xs.isEmpty)
  | .dict _ => none

def intsOf : List D → Option (List Int)
  | [] => some []
  | .int i :: r => match intsOf r with
    | some l => some (i :: l)
    | none => none
  | _ :: _ => none
def strsOf : List D → Option (List Str)
  | [] => some []
  | .str i :: r => match strsOf r with
    | some l => some (i :: l)
    | none => none
  | _ :: _ => none
def blsOf : List D → Option (List Bool)
  | [] => some []
  | .bool i :: r => match blsOf r with
    | some l => some (i :: l)
    | none => none
  | _ :: _ => none
def dedD : List D → List D
  | [] => []
  | x :: r => if r.any (fun y => eqK y x) then dedD r else x :: dedD r
def keysOk (xs : List D) : Bool := decide (xs.length < 64) && ((intsOf xs).isSome || (strsOf xs).isSome)
/-- sorted, each once -/
def ssetL (xs : List D) : Option D := if keysOk xs then some (.list (sortD (dedD xs))) else none
def ssetD : D → Option D
  | .list xs => ssetL xs
  | .tuple xs => ssetL xs
  | _ => none
def sortL (xs : List D) : Option D := if allAlike xs && lineOk xs.length then some (.list (sortD xs)) else none
def biD : Bi → List D → Option D
  | .len, [.list xs] => some (.int xs.length)
  | .len, [.tuple xs] => some (.int xs.length)
  | .len, [.dict kvs] => some (.int kvs.length)
  | .len, [.str x] => if lineOk x.length then some (.int x.length) else none
  | .list, [.list xs] => some (.list xs)
  | .list, [.tuple xs] => some (.list xs)
  | .list, [.dict kvs] => some (.list (kvs.map (·.1)))
  | .list, [.str z] => if lineOk z.length then some (.list (z.cps.toList.map fun c => .str ⟨#[c]⟩)) else none
  | .tuple, [.list xs] => some (.tuple xs)
  | .tuple, [.tuple xs] => some (.tuple xs)
  | .tuple, [.str z] => if lineOk z.length then some (.tuple (z.cps.toList.map fun c => .str ⟨#[c]⟩)) else none
  | .int, [.int i] => some (.int i)
  | .int, [.bool k] => some (.int (if k then 1 else 0))
  | .abs, [.int i] => some (.int (if i < 0 then -i else i))
  | .sum, [.list xs] => match intsOf xs with
    | some ns => some (.int ns.sum)
    | none => none
  | .sum, [.tuple xs] => match intsOf xs with
    | some ns => some (.int ns.sum)
    | none => none
  | .max, [.list (x :: xs)] => if allAlike (x :: xs) && (x :: xs).all still then some (maxD x xs) else none
  | .min, [.list (x :: xs)] => if allAlike (x :: xs) && (x :: xs).all still then some (minD x xs) else none
  | .max, [.tuple (x :: xs)] => if allAlike (x :: xs) && (x :: xs).all still then some (maxD x xs) else none
  | .min, [.tuple (x :: xs)] => if allAlike (x :: xs) && (x :: xs).all still then some (minD x xs) else none
  | .max, [.int i, .int j] => some (.int (if j > i then j else i))
  | .min, [.int i, .int j] => some (.int (if j < i then j else i))
  | .all, [.list xs] => match blsOf xs with
    | some bs => some (.bool (bs.all id))
    | none => none
  | .any, [.list xs] => match blsOf xs with
    | some bs => some (.bool (bs.any id))
    | none => none
  | .sorted, [.list xs] => sortL xs
  | .sorted, [.tuple xs] => sortL xs
  | .sorted, [.dict kvs] => if keysOk (kvs.map (·.1)) then some (.list (sortD (kvs.map (·.1)))) else none
  | .dict, [.list xs] => match pairsD xs with
    | some kvs => some (.dict (mergeKD [] kvs))
    | none => none
  | .dict, [.tuple xs] => match pairsD xs with
    | some kvs => some (.dict (mergeKD [] kvs))
    | none => none
  | _, _ => none

def tyD : D → String
  | .none => "NoneType"
  | .bool _ => "bool"
  | .int _ => "int"
  | .str _ => "str"
  | .list _ => "list"
  | .tuple _ => "tuple"
  | .dict _ => "dict"
def kitAnyB (t : String) : List String → Option Bool
  | [] => some false
  | c :: cs => match kitB t c with
    | some true => some true
    | some false => kitAnyB t cs
    | none => none
def isiD (d : D) (ts : List String) : Option D := match kitAnyB (tyD d) ts with
  | some b => some (.bool b)
  | none => none

def getD : D → D → Option D
  | .list xs, .int i => atI xs i
  | .tuple xs, .int i => atI xs i
  | .str z, .int i => if lineOk z.length then (match atI z.cps.toList i with
    | some c => some (.str ⟨#[c]⟩)
    | none => none) else none
  | .dict kvs, k => if isKey k then lookK kvs k else none
  | _, _ => none
def dgetD : D → D → D → Option D
  | .dict kvs, k, x => if isKey k then some ((lookK kvs k).getD x) else none
  | _, _, _ => none
def cutL {α : Type} (xs : List α) (lo hi : Option Int) : List α := (xs.drop (HT.sIx xs.length 0 lo)).take (HT.sIx xs.length xs.length hi - HT.sIx xs.length 0 lo)
def sliceD : D → Option Int → Option Int → Option D
  | .list xs, lo, hi => some (.list (cutL xs lo hi))
  | .tuple xs, lo, hi => some (.tuple (cutL xs lo hi))
  | .str z, lo, hi => if lineOk z.length then some (.str (cutS z lo hi)) else none
  | _, _, _ => none
def revD : D → Option D
  | .list xs => some (.list xs.reverse)
  | _ => none
def lstD : D → Option (List D)
  | .list xs => some xs
  | _ => none
/-- the members of what a star, a for takes -/
def seqD : D → Option (List D)
  | .list xs => some xs
  | .tuple xs => some xs
  | _ => none
def itemsD : D → Option (List D)
  | .list xs => some xs
  | .tuple xs => some xs
  | .str z => some (z.cps.toList.map fun c => .str ⟨#[c]⟩)
  | .dict kvs => some (kvs.map (·.1))
  | _ => none
def itmD (kvs : List (D × D)) : List D := kvs.map fun p => .tuple [p.1, p.2]
def sitmD : D → Option D
  | .dict kvs => sortL (itmD kvs)
  | _ => none
def seqOrStr : D → Option (List D)
  | .list xs => some xs
  | .tuple xs => some xs
  | .str z => some (z.cps.toList.map fun c => .str ⟨#[c]⟩)
  | _ => none
def enumFrom : Nat → List D → List D
  | _, [] => []
  | n, d :: r => .tuple [.int n, d] :: enumFrom (n + 1) r
def zipD : List D → List D → List D
  | a :: r, b :: q => .tuple [a, b] :: zipD r q
  | _, _ => []
def rangeD (lo : Int) : Nat → List D
  | 0 => []
  | n + 1 => .int lo :: rangeD (lo + 1) n
def near62 (i : Int) : Bool := decide (-(2 ^ 62) ≤ i) && decide (i < 2 ^ 62)
def walkD : IK → List D → Option (List D)
  | .ex, [d] => itemsD d
  | .range, [.int j] => if near62 j && lineOk j.toNat then some (rangeD 0 j.toNat) else none
  | .range, [.int i, .int j] => if near62 i && near62 j && lineOk (j - i).toNat then some (rangeD i (j - i).toNat) else none
  | .enum, [d] => match seqOrStr d with
    | some xs => some (enumFrom 0 xs)
    | none => none
  | .zip, [.list xs, .list ys] => some (zipD xs ys)
  | .zip, [.tuple xs, .tuple ys] => some (zipD xs ys)
  | .zip, [.list xs, .tuple ys] => some (zipD xs ys)
  | .zip, [.tuple xs, .list ys] => some (zipD xs ys)
  | .items, [.dict kvs] => some (itmD kvs)
  | .vals, [.dict kvs] => some (kvs.map (·.2))
  | _, _ => none

def walkC (ik : IK) (xs : List D) : Option (List D) := match walkD ik xs with
  | some items => if lineOk items.length then some items else none
  | none => none
instance : Inhabited PyData := ⟨.none⟩
/-! ### slots -/
def setDs : List Nat → List D → En → Option En
  | [], [], ρ => some ρ
  | i :: is, d :: ds, ρ => setDs is ds (ρ.set i (some (.dat d)))
  | _, _, _ => none
def odP : D → Option Od
  | .list ds => some (.lst ds)
  | .dict kvs => some (.dic kvs)
  | _ => none
def setPar : List (Nat × Bool) → List D → En → Option En
  | [], [], ρ => some ρ
  | (i, false) :: is, d :: ds, ρ => setPar is ds (ρ.set i (some (.dat d)))
  | (i, true) :: is, d :: ds, ρ => match odP d with
    | some o => setPar is ds (ρ.set i (some (.own o)))
    | none => none
  | _, _, _ => none
def setTg : Tg → D → En → Option En
  | .nm i, d, ρ => some (ρ.set i (some (.dat d)))
  | .tup is, .tuple ds, ρ => setDs is ds ρ
  | _, _, _ => none
def Tg.slots : Tg → List Nat
  | .nm i => [i]
  | .tup is => is
def wipeE (ρ : En) : List Nat → En
  | [] => ρ
  | v :: vs => (wipeE ρ vs).set v none

/-! ### the evaluator -/
def E.gone : E → Bool
  | .absent => true
  | _ => false
def intP : D → M (Option Int)
  | .int i => .ret (some i)
  | _ => .fail
def isTin (ρ : En) (i : Nat) : Bool := match ρ[i]? with
  | some (some .tin) => true
  | _ => false
def permL {α : Type} [Inhabited α] (perm : List Nat) (l : List α) : List α := perm.map fun i => l.getD i default
/-- a comprehension's walk -/
def compL (f : D → M (Option D)) : List D → M (List D)
  | [] => .ret []
  | d :: ds => (f d).bnd fun o => (compL f ds).bnd fun r => .ret (match o with
    | some x => x :: r
    | none => r)

def comp2L (f : D → M (List D)) : List D → M (List D)
  | [] => .ret []
  | d :: ds => (f d).bnd fun x => (comp2L f ds).bnd fun r => .ret (x ++ r)

section
variable (C : Nat → List D → M D)
mutual
def evE : E → En → M D
  | .var i, ρ => fun τ => match ρ[i]? with
    | some (some (.dat d)) => some (d, τ)
    | _ => none
  | .peek i, ρ => fun τ => match ρ[i]? with
    | some (some (.own o)) => some (o.data, τ)
    | _ => none
  | .non, _ => .ret .none
  | .bl b, _ => .ret (.bool b)
  | .int i, _ => .ret (.int i)
  | .str x, _ => .ret (.str x)
  | .glob _ z, _ => .ret z
  | .bin op a b, ρ => (evE a ρ).bnd fun x => (evE b ρ).bnd fun y => .of (binD op x y)
  | .cmp op a b, ρ => (evE a ρ).bnd fun x => (evE b ρ).bnd fun y => .of (cmpD op x y)
  | .chain o1 o2 a b c, ρ => (evE a ρ).bnd fun x => (evE b ρ).bnd fun y => (M.of (cmpD o1 x y)).bnd fun r => match r with
    | .bool true => (evE c ρ).bnd fun z => .of (cmpD o2 y z)
    | .bool false => .ret (.bool false)
    | _ => .fail
  | .neg a, ρ => (evE a ρ).bnd fun x => match x with
    | .int i => .ret (.int (-i))
    | _ => .fail
  | .not a, ρ => (evE a ρ).bnd fun x => (M.of (truD x)).bnd fun k => .ret (.bool (!k))
  | .and a b, ρ => (evE a ρ).bnd fun x => (M.of (truD x)).bnd fun k => if k then evE b ρ else .ret x
  | .or a b, ρ => (evE a ρ).bnd fun x => (M.of (truD x)).bnd fun k => if k then .ret x else evE b ρ
  | .ite c a b, ρ => (evE c ρ).bnd fun x => (M.of (truD x)).bnd fun k => if k then evE a ρ else evE b ρ
  | .bi f es, ρ => (evEs es ρ).bnd fun ds => .of (biD f ds)
  | .isi a ts _, ρ => (evE a ρ).bnd fun x => .of (isiD x ts)
  | .get a b, ρ => (evE a ρ).bnd fun x => (evE b ρ).bnd fun y => .of (getD x y)
  | .tget i b, ρ => (evE b ρ).bnd fun y τ => if isTin ρ i then (match getD (.list τ) y with
    | some d => some (d, τ)
    | none => none) else none
  | .slice a lo hi, ρ => (evE a ρ).bnd fun x => (if lo.gone then .ret none else (evE lo ρ).bnd intP).bnd fun l => (if hi.gone then .ret none else (evE hi ρ).bnd intP).bnd fun h => .of (sliceD x l h)
  | .rev a, ρ => (evE a ρ).bnd fun x => .of (revD x)
  | .sset a, ρ => (evE a ρ).bnd fun x => .of (ssetD x)
  | .lst es, ρ => (evEs es ρ).bnd fun ds => if lineOk ds.length then .ret (.list ds) else .fail
  | .tup es, ρ => (evEs es ρ).bnd fun ds => if lineOk ds.length then .ret (.tuple ds) else .fail
  | .star _, _ => .fail
  | .dic0, _ => .ret (.dict [])
  | .dic1 a b, ρ => (evE a ρ).bnd fun y => (evE b ρ).bnd fun z => if isKey y then .ret (.dict [(y, z)]) else .fail
  | .dget a k x, ρ => (evE a ρ).bnd fun d => (evE k ρ).bnd fun y => (evE x ρ).bnd fun z => .of (dgetD d y z)
  | .sitm a, ρ => (evE a ρ).bnd fun x => .of (sitmD x)
  | .call f es, ρ => (evEs es ρ).bnd fun ds τ => match C f ds [] with
    | some (d, _) => some (d, τ)
    | none => none
  | .callN f es, ρ => (evEs es ρ).bnd fun ds τ => match C f ds [] with
    | some (d, _) => some (d, τ)
    | none => none
  | .callK f perm es ks, ρ => (evEs es ρ).bnd fun ds => (evEs ks ρ).bnd fun zs τ => match C f (permL perm (ds ++ zs)) [] with
    | some (d, _) => some (d, τ)
    | none => none
  | .callT f i es, ρ => (evEs es ρ).bnd fun ds τ => if isTin ρ i then C f ds τ else none
  | .callR f e es, ρ => (evE e ρ).bnd fun x => (evEs es ρ).bnd fun ds τ => match x with
    | .list τ0 => match C f ds τ0 with
      | some (d, _) => some (d, τ)
      | none => none
    | _ => none
  | .comp elt tg ik src cond, ρ => (evEs src ρ).bnd fun xs => (M.of (walkC ik xs)).bnd fun items =>
    (compL (fun d => (M.of (setTg tg d (wipeE ρ tg.slots))).bnd fun ρ' => (if cond.gone then .ret true else (evE cond ρ').bnd fun x => .of (truD x)).bnd fun k => if k then (evE elt ρ').bnd fun y => .ret (some y) else .ret none) items).bnd fun ys => .ret (.list ys)
  | .comp2 elt tg ik src cond tg1 ik1 src1 cond1, ρ => (evEs src ρ).bnd fun xs => (M.of (walkC ik xs)).bnd fun items =>
    (comp2L (fun d => (M.of (setTg tg d (wipeE ρ (tg.slots ++ tg1.slots)))).bnd fun ρ' => (if cond.gone then .ret true else (evE cond ρ').bnd fun x => .of (truD x)).bnd fun k => if k then
        (evEs src1 ρ').bnd fun xs => (M.of (walkC ik1 xs)).bnd fun items =>
          compL (fun d => (M.of (setTg tg1 d (wipeE ρ' tg1.slots))).bnd fun ρ'' => (if cond1.gone then .ret true else (evE cond1 ρ'').bnd fun x => .of (truD x)).bnd fun k => if k then (evE elt ρ'').bnd fun y => .ret (some y) else .ret none) items
      else .ret []) items).bnd fun ys => if lineOk ys.length then .ret (.list ys) else .fail
  | .dcomp ke ve tg ik src cond, ρ => (evEs src ρ).bnd fun xs => (M.of (walkC ik xs)).bnd fun items =>
    (compL (fun d => (M.of (setTg tg d (wipeE ρ tg.slots))).bnd fun ρ' => (if cond.gone then .ret true else (evE cond ρ').bnd fun x => .of (truD x)).bnd fun k => if k then (evE ke ρ').bnd fun y => (evE ve ρ').bnd fun z => .ret (some (.tuple [y, z])) else .ret none) items).bnd fun ys =>
      (M.of (pairsD ys)).bnd fun kvs => .ret (.dict (mergeKD [] kvs))
  | .absent, _ => .fail
def evEs : List E → En → M (List D)
  | [], _ => .ret []
  | .star e :: r, ρ => (evE e ρ).bnd fun x => (M.of (seqD x)).bnd fun xs => (evEs r ρ).bnd fun ys => .ret (xs ++ ys)
  | e :: r, ρ => (evE e ρ).bnd fun x => (evEs r ρ).bnd fun ys => .ret (x :: ys)
end
/-! ### statements -/
inductive Out where
  | nx (ρ : En) | ct (ρ : En) | rt (d : D)
def loopL (f : D → En → M Out) : List D → En → M Out
  | [], ρ => .ret (.nx ρ)
  | d :: ds, ρ => (f d ρ).bnd fun o => match o with
    | .nx ρ' => loopL f ds ρ'
    | .ct ρ' => loopL f ds ρ'
    | .rt x => .ret (.rt x)
def whileL (c : En → M Bool) (f : En → M Out) : Nat → En → M Out
  | 0, _ => .fail
  | n + 1, ρ => (c ρ).bnd fun k => if k then (f ρ).bnd fun o => match o with
    | .nx ρ' => whileL c f n ρ'
    | .ct ρ' => whileL c f n ρ'
    | .rt x => .ret (.rt x) else .ret (.nx ρ)
def setO (i : Nat) (o : Ent) (ρ : En) : M Out := .ret (.nx (ρ.set i (some o)))
def ownAt (ρ : En) (i : Nat) : M Od := fun τ => match ρ[i]? with
  | some (some (.own o)) => some (o, τ)
  | _ => none
def lstAt (ρ : En) (i : Nat) : M (List D) := fun τ => match ρ[i]? with
  | some (some (.own (.lst ds))) => some (ds, τ)
  | _ => none
def stoD (ds : List D) : D → D → Option (List D)
  | .int k, d => match ixN ds.length k with
    | some j => some (ds.set j d)
    | none => none
  | _, _ => none
def stoO : Od → D → D → Option Od
  | .lst ds, k, d => (stoD ds k d).map .lst
  | .dic kvs, k, d => if isKey k && lineOk (kvs.length + 1) then some (.dic (putKD kvs k d)) else none
mutual
def evS : S → En → M Out
  | .asg i e, ρ => (evE C e ρ).bnd fun d => setO i (.dat d) ρ
  | .asgO i e, ρ => (evE C e ρ).bnd fun d => (M.of (odP d)).bnd fun o => setO i (.own o) ρ
  | .unp is e, ρ => (evE C e ρ).bnd fun d => match d with
    | .tuple ds => (M.of (setDs is ds ρ)).bnd fun ρ' => .ret (.nx ρ')
    | _ => .fail
  | .par ts es, ρ => (evEs C es ρ).bnd fun ds => (M.of (setPar ts ds ρ)).bnd fun ρ' => .ret (.nx ρ')
  | .sto i ix e, ρ => (evE C e ρ).bnd fun d => (evE C ix ρ).bnd fun k => (ownAt ρ i).bnd fun o => (M.of (stoO o k d)).bnd fun o' => setO i (.own o') ρ
  | .stoT i ix e, ρ => (evE C e ρ).bnd fun d => (evE C ix ρ).bnd fun k τ => if isTin ρ i then (match stoD τ k d with
    | some τ' => some (.nx ρ, τ')
    | none => none) else none
  | .app i e, ρ => (evE C e ρ).bnd fun d => (lstAt ρ i).bnd fun ds => if lineOk (ds.length + 1) then setO i (.own (.lst (ds ++ [d]))) ρ else .fail
  | .extd i e, ρ => (evE C e ρ).bnd fun d => (M.of (lstD d)).bnd fun es => (lstAt ρ i).bnd fun ds => if lineOk (ds.length + es.length) then setO i (.own (.lst (ds ++ es))) ρ else .fail
  | .pop tg i, ρ => (lstAt ρ i).bnd fun ds => match ds.getLast? with
    | some d => (M.of (setTg tg d (ρ.set i (some (.own (.lst ds.dropLast)))))).bnd fun ρ' => .ret (.nx ρ')
    | none => .fail
  | .rais, _ => .fail
  | .expr e, ρ => (evE C e ρ).bnd fun _ => .ret (.nx ρ)
  | .ret e, ρ => (evE C e ρ).bnd fun d => .ret (.rt d)
  | .ite c a b, ρ => (evE C c ρ).bnd fun x => (M.of (truD x)).bnd fun k => if k then evSs a ρ else evSs b ρ
  | .loop tg ik src body, ρ => (evEs C src ρ).bnd fun xs => (M.of (walkD ik xs)).bnd fun items =>
    loopL (fun d ρ => (M.of (setTg tg d ρ)).bnd fun ρ' => evSs body ρ') items ρ
  | .while n c body, ρ => whileL (fun ρ => (evE C c ρ).bnd fun x => .of (truD x)) (fun ρ => evSs body ρ) n ρ
  | .cont, ρ => .ret (.ct ρ)
  | .pass, ρ => .ret (.nx ρ)
  | .frz i, ρ => (ownAt ρ i).bnd fun o => setO i (.dat o.data) ρ
def evSs : List S → En → M Out
  | [], ρ => .ret (.nx ρ)
  | s :: r, ρ => (evS s ρ).bnd fun o => match o with
    | .nx ρ' => evSs r ρ'
    | .ct ρ' => .ret (.ct ρ')
    | .rt x => .ret (.rt x)
end
end
/-! ### defs -/
structure Fn where
  name : Str
  ps : List Str
  N : List Str
  tin : Bool
  fresh : Bool
  body : List S
/-- what a run needs of a def -/
structure Fb where
  body : List S
  tin : Bool
  np : Nat
  nN : Nat
def Fn.fb (F : Fn) : Fb := ⟨F.body, F.tin, F.ps.length, F.N.length⟩
abbrev Tb := Nat → Option Fb
def env0 (F : Fb) (ds : List D) : En := (if F.tin then [some Ent.tin] else []) ++ ds.map (fun d => some (Ent.dat d)) ++ List.replicate (F.nN - F.np) none
def outD : Out → Option D
  | .rt d => some d
  | .nx _ => some .none
  | .ct _ => none
def callF (T : Tb) : Nat → Nat → List D → M D
  | 0, _, _ => .fail
  | n + 1, f, ds => match T f with
    | none => .fail
    | some F => if (if F.tin then ds.length + 1 else ds.length) = F.np then (evSs (callF T n) F.body (env0 F ds)).bnd fun o => .of (outD o) else .fail
end KN

set_option maxRecDepth 100000
set_option maxHeartbeats 1000000
namespace KN
open PySem L2
abbrev Fg := PySem.W.Frag

/-! ### data on the heap -/
def kD : Key → D
  | .inl i => .int i
  | .inr x => .str x
/-- a tuple without a dict of its own -/
def PlT (G : Hp) (a : Addr) (xs : List V) : Prop := ∃ o, G a = some (.frz o (.tup xs)) ∧ o.dict = none
theorem PlT.sq {K : Fg} {G : Hp} {a : Addr} {xs : List V} (h : PlT G a xs) : SqT K G a xs := by
  obtain ⟨o, h, _⟩ := h
  exact .inl (.inr ⟨o, h⟩)
theorem PlT.same {G H : Hp} (e : Same G H) {a : Addr} {xs : List V} (h : PlT G a xs) : PlT H a xs := by
  obtain ⟨o, h, q⟩ := h
  exact ⟨o, e _ _ h, q⟩
mutual
inductive DR (K : Fg) (G : Hp) : V → D → Prop
  | non : DR K G .non .none
  | bl (b : Bool) : DR K G (.bl b) (.bool b)
  | int (i : Int) : DR K G (.int i) (.int i)
  | str (x : Str) : DR K G (.str x) (.str x)
  | lst {a : Addr} {xs : List V} {ds : List D} : SqL K G a xs → DRs K G xs ds → DR K G (.ref a) (.list ds)
  | tup {a : Addr} {xs : List V} {ds : List D} : PlT G a xs → DRs K G xs ds → DR K G (.ref a) (.tuple ds)
  | dic {a : Addr} {o : Obj} {kvs : List (Key × V)} {ds : List (D × D)} : G a = some (.frz o (.dK kvs)) → DRk K G kvs ds → DR K G (.ref a) (.dict ds)
inductive DRs (K : Fg) (G : Hp) : List V → List D → Prop
  | nil : DRs K G [] []
  | cons {v : V} {vs : List V} {d : D} {ds : List D} : DR K G v d → DRs K G vs ds → DRs K G (v :: vs) (d :: ds)
inductive DRk (K : Fg) (G : Hp) : List (Key × V) → List (D × D) → Prop
  | nil : DRk K G [] []
  | cons {k : Key} {v : V} {vs : List (Key × V)} {d : D} {ds : List (D × D)} : DR K G v d → DRk K G vs ds → DRk K G ((k, v) :: vs) ((kD k, d) :: ds)
end
theorem Rd.same {G H : Hp} (e : Same G H) {a : Addr} {u : HO} (h : Rd G a u) : Rd H a u := by
  rcases h with h | ⟨o, h⟩
  · exact .inl (e _ _ h)
  · exact .inr ⟨o, e _ _ h⟩
theorem SqT.same {K : Fg} {G H : Hp} (e : Same G H) {a : Addr} {xs : List V} (h : SqT K G a xs) : SqT K H a xs := by
  rcases h with h | h
  · exact .inl (Rd.same e h)
  · exact .inr h
mutual
theorem DR.same {K : Fg} {G H : Hp} (e : Same G H) : ∀ {v : V} {d : D}, DR K G v d → DR K H v d
  | _, _, .non => .non
  | _, _, .bl b => .bl b
  | _, _, .int i => .int i
  | _, _, .str x => .str x
  | _, _, .lst h r => .lst (e.seq h) (DRs.same e r)
  | _, _, .tup h r => .tup (h.same e) (DRs.same e r)
  | _, _, .dic h r => .dic (e _ _ h) (DRk.same e r)
theorem DRs.same {K : Fg} {G H : Hp} (e : Same G H) : ∀ {v : List V} {d : List D}, DRs K G v d → DRs K H v d
  | _, _, .nil => .nil
  | _, _, .cons h r => .cons (DR.same e h) (DRs.same e r)
theorem DRk.same {K : Fg} {G H : Hp} (e : Same G H) : ∀ {v : List (Key × V)} {d : List (D × D)}, DRk K G v d → DRk K H v d
  | _, _, .nil => .nil
  | _, _, .cons h r => .cons (DR.same e h) (DRk.same e r)
end
mutual
theorem DR.dp {K : Fg} {G : Hp} : ∀ {v : V} {d : D}, DR K G v d → d.canLay0 = true → Dp K G v d
  | _, _, .non, _ => .non
  | _, _, .bl b, _ => .bl b
  | _, _, .int i, _ => .int i
  | _, _, .str x, _ => .str x
  | _, _, .lst h r, c => .lst h (DRs.dp r (by simpa [PyData.canLay0] using c))
  | _, _, .tup h r, c => .tup h.sq (DRs.dp r (by simpa [PyData.canLay0] using c))
  | _, _, .dic h r, c => by simp [PyData.canLay0] at c
theorem DRs.dp {K : Fg} {G : Hp} : ∀ {v : List V} {d : List D}, DRs K G v d → PyData.canLayAll0 d = true → DpAll K G v d
  | _, _, .nil, _ => .nil
  | _, _, .cons h r, c => by
    simp only [PyData.canLayAll0, Bool.and_eq_true] at c
    exact .cons (DR.dp h c.1) (DRs.dp r c.2)
end
theorem DRs.length {K : Fg} {G : Hp} : ∀ {v : List V} {d : List D}, DRs K G v d → v.length = d.length
  | _, _, .nil => rfl
  | _, _, .cons _ r => by rw [List.length_cons, List.length_cons, DRs.length r]
theorem DRs.append {K : Fg} {G : Hp} : ∀ {v w : List V} {d e : List D}, DRs K G v d → DRs K G w e → DRs K G (v ++ w) (d ++ e)
  | _, _, _, _, .nil, s => s
  | _, _, _, _, .cons h r, s => .cons h (DRs.append r s)
theorem DRs.get {K : Fg} {G : Hp} : ∀ {v : List V} {d : List D} {i : Nat} {x : D}, DRs K G v d → d[i]? = some x → ∃ u, v[i]? = some u ∧ DR K G u x
  | _, _, _, _, .nil, e => by simp at e
  | _, _, 0, _, .cons h _, e => by simp at e; subst e; exact ⟨_, rfl, h⟩
  | _, _, i + 1, x, .cons _ t, e => by
    obtain ⟨u, h1, h2⟩ := DRs.get (i := i) (x := x) t (by simpa using e)
    exact ⟨u, by simpa using h1, h2⟩
theorem DRs.set {K : Fg} {G : Hp} {x : V} {u : D} (r : DR K G x u) : ∀ {xs : List V} {us : List D} (i : Nat), DRs K G xs us → DRs K G (xs.set i x) (us.set i u)
  | _, _, _, .nil => .nil
  | _, _, 0, .cons _ t => .cons r t
  | _, _, i + 1, .cons q t => .cons q (DRs.set r i t)
theorem DRs.take {K : Fg} {G : Hp} : ∀ {xs : List V} {us : List D} (n : Nat), DRs K G xs us → DRs K G (xs.take n) (us.take n)
  | _, _, 0, _ => by simp; exact .nil
  | _, _, _ + 1, .nil => .nil
  | _, _, n + 1, .cons r t => .cons r (DRs.take n t)
theorem DRs.drop {K : Fg} {G : Hp} : ∀ {xs : List V} {us : List D} (n : Nat), DRs K G xs us → DRs K G (xs.drop n) (us.drop n)
  | _, _, 0, r => r
  | _, _, _ + 1, .nil => .nil
  | _, _, n + 1, .cons _ t => DRs.drop n t
theorem DRs.reverse {K : Fg} {G : Hp} : ∀ {xs : List V} {us : List D}, DRs K G xs us → DRs K G xs.reverse us.reverse
  | _, _, .nil => .nil
  | _, _, .cons r t => by
    rw [List.reverse_cons, List.reverse_cons]
    exact (DRs.reverse t).append (.cons r .nil)
theorem DRs.rep {K : Fg} {G : Hp} {xs : List V} {us : List D} (h : DRs K G xs us) : ∀ k : Nat, DRs K G (List.replicate k xs).flatten (List.replicate k us).flatten
  | 0 => .nil
  | k + 1 => by
    rw [List.replicate_succ, List.replicate_succ, List.flatten_cons, List.flatten_cons]
    exact h.append (DRs.rep h k)
theorem DRs.cut {K : Fg} {G : Hp} {xs : List V} {us : List D} (h : DRs K G xs us) (lo hi : Option Int) : DRs K G (cutV xs lo hi) (cutL us lo hi) := by
  unfold cutV cutL
  rw [h.length]
  exact (h.drop _).take _
theorem DRs.atI {K : Fg} {G : Hp} {v : List V} {d : List D} {i : Int} {x : D} (h : DRs K G v d) (e : L2.atI d i = some x) : ∃ u, L2.atI v i = some u ∧ DR K G u x := by
  unfold L2.atI at e ⊢
  rw [h.length]
  cases q : ixN d.length i with
  | none => rw [q] at e; cases e
  | some j =>
    rw [q] at e
    exact h.get e
theorem DRs.ints {K : Fg} {G : Hp} : ∀ {v : List V} {d : List D} {ns : List Int}, DRs K G v d → intsOf d = some ns → v = ns.map V.int
  | _, _, _, .nil, e => by cases e; rfl
  | _, _, ns, .cons (d := d) h r, e => by
    cases h with
    | int i =>
      unfold intsOf at e
      split at e
      · rename_i l hl
        cases e
        rw [DRs.ints r hl]
        rfl
      · cases e
    | _ => unfold intsOf at e; cases e
theorem DRs.strs {K : Fg} {G : Hp} : ∀ {v : List V} {d : List D} {ns : List Str}, DRs K G v d → strsOf d = some ns → v = ns.map V.str
  | _, _, _, .nil, e => by cases e; rfl
  | _, _, ns, .cons (d := d) h r, e => by
    cases h with
    | str i =>
      unfold strsOf at e
      split at e
      · rename_i l hl
        cases e
        rw [DRs.strs r hl]
        rfl
      · cases e
    | _ => unfold strsOf at e; cases e
theorem DRs.bls {K : Fg} {G : Hp} : ∀ {v : List V} {d : List D} {ns : List Bool}, DRs K G v d → blsOf d = some ns → v = ns.map V.bl
  | _, _, _, .nil, e => by cases e; rfl
  | _, _, ns, .cons (d := d) h r, e => by
    cases h with
    | bl i =>
      unfold blsOf at e
      split at e
      · rename_i l hl
        cases e
        rw [DRs.bls r hl]
        rfl
      · cases e
    | _ => unfold blsOf at e; cases e
theorem DRs.ofInts {K : Fg} {G : Hp} : ∀ ns : List Int, DRs K G (ns.map V.int) (ns.map PyData.int)
  | [] => .nil
  | n :: r => .cons (.int n) (DRs.ofInts r)
theorem DRs.ofStrs {K : Fg} {G : Hp} : ∀ ns : List Str, DRs K G (ns.map V.str) (ns.map PyData.str)
  | [] => .nil
  | n :: r => .cons (.str n) (DRs.ofStrs r)

/-- a list, a dict that is a def's own -/
inductive OwR (K : Fg) (G : Hp) : HO → Od → Prop
  | lst {vs : List V} {ds : List D} : DRs K G vs ds → OwR K G (.lst vs) (.lst ds)
  | dic {o : Obj} {kvs : List (Key × V)} {ds : List (D × D)} : DRk K G kvs ds → OwR K G (.frz o (.dK kvs)) (.dic ds)
theorem OwR.same {K : Fg} {G H : Hp} (e : Same G H) {o : HO} {d : Od} (h : OwR K G o d) : OwR K H o d := by
  cases h with
  | lst h => exact .lst (h.same e)
  | dic h => exact .dic (h.same e)
theorem OwR.ofL {K : Fg} {G : Hp} {o : HO} {ds : List D} (h : OwR K G o (.lst ds)) : ∃ vs, o = .lst vs ∧ DRs K G vs ds := by
  cases h with
  | lst h => exact ⟨_, rfl, h⟩
theorem OwR.ofD {K : Fg} {G : Hp} {o : HO} {ds : List (D × D)} (h : OwR K G o (.dic ds)) : ∃ od kvs, o = .frz od (.dK kvs) ∧ DRk K G kvs ds := by
  cases h with
  | dic h => exact ⟨_, _, rfl, h⟩
/-- laid to the frozen part it is data -/
theorem OwR.dr {K : Fg} {G G' : Hp} {a : Addr} (s : Same G G') {o : HO} {d : Od} (h : OwR K G o d) (e : G' a = some o) : DR K G' (.ref a) d.data := by
  cases h with
  | lst h => exact .lst (.inl (.inl e)) (h.same s)
  | dic h => exact .dic e (h.same s)
theorem DRk.length {K : Fg} {G : Hp} : ∀ {v : List (Key × V)} {d : List (D × D)}, DRk K G v d → v.length = d.length
  | _, _, .nil => rfl
  | _, _, .cons _ r => by rw [List.length_cons, List.length_cons, DRk.length r]
/-! ### states -/
structure Rel (K : Fg) (ta : Option Addr) (G : Hp) (σ : St) (H : Hp) (ρ : En) (τ : List D) : Prop where
  sub : Same G H
  tin : ∀ a, ta = some a → G a = none ∧ ∃ vs, H a = some (.lst vs) ∧ DRs K G vs τ
  dat : ∀ (i : Nat) (d : D), ρ[i]? = some (some (.dat d)) → ∃ v, σ[i]? = some (some v) ∧ DR K G v d
  own : ∀ (i : Nat) (ds : Od), ρ[i]? = some (some (.own ds)) → ∃ a o, σ[i]? = some (some (.ref a)) ∧ ta ≠ some a ∧ G a = none ∧ H a = some o ∧ OwR K G o ds
  apart : ∀ (i j : Nat) (ds es : Od) (a : Addr), i ≠ j → ρ[i]? = some (some (.own ds)) → ρ[j]? = some (some (.own es)) → σ[i]? = some (some (.ref a)) → σ[j]? ≠ some (some (.ref a))
  tn : ∀ (i : Nat), ρ[i]? = some (some .tin) → ∃ a, ta = some a ∧ σ[i]? = some (some (.ref a))
  len : ρ.length ≤ σ.length
structure Ext (ta : Option Addr) (G H G' H' : Hp) : Prop where
  g : Same G G'
  new : ∀ b o, G' b = some o → G b = some o ∨ H b = none
  keep : ∀ b o, ta ≠ some b → H b = some o → H' b = some o
  there : ∀ b o, H b = some o → ∃ o', H' b = some o'
theorem Ext.refl {ta : Option Addr} {G H : Hp} : Ext ta G H G H := ⟨fun _ _ h => h, fun _ _ h => .inl h, fun _ _ _ h => h, fun _ o h => ⟨o, h⟩⟩
theorem Ext.trans {ta : Option Addr} {G H G1 H1 G2 H2 : Hp} (a : Ext ta G H G1 H1) (b : Ext ta G1 H1 G2 H2) : Ext ta G H G2 H2 where
  g := a.g.trans b.g
  new := fun c o h => by
    rcases b.new c o h with q | q
    · exact a.new c o q
    · right
      cases r : H c with
      | none => rfl
      | some u =>
        obtain ⟨o', e⟩ := a.there c u r
        rw [q] at e; cases e
  keep := fun c o n h => b.keep c o n (a.keep c o n h)
  there := fun c o h => by
    obtain ⟨o', e⟩ := a.there c o h
    exact b.there c o' e
/-- a new object, of the frozen part -/
theorem Ext.laid {ta : Option Addr} {G H : Hp} {p : Addr} {o : HO} (s : Same G H) (hp : H p = none) : Ext ta G H (upd G p o) (upd H p o) where
  g := fun b u h => by rw [upd_ne (ne_of_none (s _ _ h) hp)]; exact h
  new := fun b u h => by
    by_cases e : b = p
    · subst e; exact .inr hp
    · rw [upd_ne e] at h; exact .inl h
  keep := fun b u _ h => by rw [upd_ne (ne_of_none h hp)]; exact h
  there := fun b u h => ⟨u, by rw [upd_ne (ne_of_none h hp)]; exact h⟩
/-- a new object, not of it -/
theorem Ext.fresh {ta : Option Addr} {G H : Hp} {p : Addr} {o : HO} (hp : H p = none) : Ext ta G H G (upd H p o) where
  g := fun b u h => h
  new := fun b u h => .inl h
  keep := fun b u _ h => by rw [upd_ne (ne_of_none h hp)]; exact h
  there := fun b u h => ⟨u, by rw [upd_ne (ne_of_none h hp)]; exact h⟩
theorem same_laid {G H : Hp} {p : Addr} {o : HO} (s : Same G H) (hp : H p = none) : Same (upd G p o) (upd H p o) := fun b u h => by
  by_cases e : b = p
  · subst e; rw [upd_same] at h ⊢; exact h
  · rw [upd_ne e] at h ⊢; exact s _ _ h
section
variable {K : Fg} {ta : Option Addr} {G H G' H' : Hp} {σ : St} {ρ : En} {τ τ' : List D}
/-- the state goes on: what the box holds then is told -/
theorem Rel.ext (R : Rel K ta G σ H ρ τ) (x : Ext ta G H G' H') (s : Same G' H') (ht : ∀ a, ta = some a → ∃ vs, H' a = some (.lst vs) ∧ DRs K G' vs τ') : Rel K ta G' σ H' ρ τ' where
  sub := s
  tin := fun a e => by
    obtain ⟨n, vs, h, _⟩ := R.tin a e
    refine ⟨?_, ht a e⟩
    cases q : G' a with
    | none => rfl
    | some o =>
      rcases x.new a o q with z | z
      · rw [n] at z; cases z
      · rw [h] at z; cases z
  dat := fun i d e => by
    obtain ⟨v, h1, h2⟩ := R.dat i d e
    exact ⟨v, h1, h2.same x.g⟩
  own := fun i ds e => by
    obtain ⟨a, vs, h1, h2, h3, h4, h5⟩ := R.own i ds e
    refine ⟨a, vs, h1, h2, ?_, x.keep _ _ h2 h4, h5.same x.g⟩
    cases q : G' a with
    | none => rfl
    | some o =>
      rcases x.new a o q with z | z
      · rw [h3] at z; cases z
      · rw [h4] at z; cases z
  apart := R.apart
  tn := R.tn
  len := R.len
/-- .. the box untouched -/
theorem Rel.ext' (R : Rel K ta G σ H ρ τ) (x : Ext ta G H G' H') (s : Same G' H') (hk : ∀ a, ta = some a → H' a = H a) : Rel K ta G' σ H' ρ τ :=
  R.ext x s fun a e => by
    obtain ⟨_, vs, h, r⟩ := R.tin a e
    exact ⟨vs, by rw [hk a e]; exact h, r.same x.g⟩
theorem Rel.laid (R : Rel K ta G σ H ρ τ) {p : Addr} {o : HO} (hp : H p = none) : Rel K ta (upd G p o) σ (upd H p o) ρ τ :=
  R.ext' (Ext.laid R.sub hp) (same_laid R.sub hp) fun a e => by
    obtain ⟨_, vs, h, _⟩ := R.tin a e
    rw [upd_ne (ne_of_none h hp)]
theorem Rel.fresh (R : Rel K ta G σ H ρ τ) {p : Addr} {o : HO} (hp : H p = none) : Rel K ta G σ (upd H p o) ρ τ :=
  R.ext' (Ext.fresh hp) (fun b u h => by rw [upd_ne (ne_of_none (R.sub _ _ h) hp)]; exact R.sub _ _ h) fun a e => by
    obtain ⟨_, vs, h, _⟩ := R.tin a e
    rw [upd_ne (ne_of_none h hp)]
end

/-! ### values -/
inductive Kd where
  | dat | fresh | peek
  deriving DecidableEq
/-- a list that is read: of the frozen part, or one that stands beside -/
def View (K : Fg) (ta : Option Addr) (G H : Hp) (v : V) (d : D) : Prop :=
  DR K G v d ∨ ∃ a o od, v = .ref a ∧ d = od.data ∧ ta ≠ some a ∧ H a = some o ∧ OwR K G o od
/-- a list that was just made (it stood not in H₀) -/
def Fresh (K : Fg) (ta : Option Addr) (H₀ G H : Hp) (v : V) (d : D) : Prop :=
  ∃ a o od, v = .ref a ∧ d = od.data ∧ H₀ a = none ∧ ta ≠ some a ∧ G a = none ∧ H a = some o ∧ OwR K G o od
theorem still_data (o : Od) : still o.data = false := by cases o <;> rfl
def Val (K : Fg) (ta : Option Addr) (H₀ G H : Hp) : Kd → V → D → Prop
  | .dat, v, d => DR K G v d
  | .fresh, v, d => DR K G v d ∧ still d = true ∨ Fresh K ta H₀ G H v d
  | .peek, v, d => View K ta G H v d
section
variable {K : Fg} {ta : Option Addr} {H₀ G H G' H' : Hp} {v : V} {d : D} {k : Kd}
theorem Fresh.view (h : Fresh K ta H₀ G H v d) : View K ta G H v d := by
  obtain ⟨a, vs, ds, h1, h2, _, h3, _, h4, h5⟩ := h
  exact .inr ⟨a, vs, ds, h1, h2, h3, h4, h5⟩
theorem Val.view (h : Val K ta H₀ G H k v d) : View K ta G H v d := by
  cases k with
  | dat => exact .inl h
  | fresh =>
    rcases h with h | h
    · exact .inl h.1
    · exact h.view
  | peek => exact h
theorem View.ext (h : View K ta G H v d) (x : Ext ta G H G' H') : View K ta G' H' v d := by
  rcases h with h | ⟨a, vs, ds, h1, h2, h3, h4, h5⟩
  · exact .inl (h.same x.g)
  · exact .inr ⟨a, vs, ds, h1, h2, h3, x.keep _ _ h3 h4, h5.same x.g⟩
end
inductive Views (K : Fg) (ta : Option Addr) (G H : Hp) : List V → List D → Prop
  | nil : Views K ta G H [] []
  | cons {v : V} {vs : List V} {d : D} {ds : List D} : View K ta G H v d → Views K ta G H vs ds → Views K ta G H (v :: vs) (d :: ds)
theorem Views.ext {K : Fg} {ta : Option Addr} {G H G' H' : Hp} (x : Ext ta G H G' H') : ∀ {vs : List V} {ds : List D}, Views K ta G H vs ds → Views K ta G' H' vs ds
  | _, _, .nil => .nil
  | _, _, .cons h r => .cons (h.ext x) (Views.ext x r)
/-- what a list, a tuple among the views is on the heap -/
theorem View.lst {K : Fg} {ta : Option Addr} {G H : Hp} {v : V} {ds : List D} (s : Same G H) (h : View K ta G H v (.list ds)) : ∃ a xs, v = .ref a ∧ SqL K H a xs ∧ DRs K G xs ds := by
  rcases h with h | ⟨a, o, od, h1, h2, h3, h4, h5⟩
  · cases h with
    | lst q r => exact ⟨_, _, rfl, s.seq q, r⟩
  · cases od with
    | lst es =>
      cases h2
      obtain ⟨vs, rfl, h6⟩ := h5.ofL
      exact ⟨a, vs, h1, .inl (.inl h4), h6⟩
    | dic es => cases h2
theorem View.dr {K : Fg} {ta : Option Addr} {G H : Hp} {v : V} {d : D} (h : View K ta G H v d) (n : still d = true) : DR K G v d := by
  rcases h with h | ⟨a, o, od, h1, h2, _⟩
  · exact h
  · rw [h2, still_data] at n; cases n
theorem View.tupP {K : Fg} {ta : Option Addr} {G H : Hp} {v : V} {ds : List D} (s : Same G H) (h : View K ta G H v (.tuple ds)) : ∃ a xs, v = .ref a ∧ PlT H a xs ∧ DRs K G xs ds := by
  cases h.dr rfl with
  | tup q r => exact ⟨_, _, rfl, q.same s, r⟩
theorem View.tup {K : Fg} {ta : Option Addr} {G H : Hp} {v : V} {ds : List D} (s : Same G H) (h : View K ta G H v (.tuple ds)) : ∃ a xs, v = .ref a ∧ SqT K H a xs ∧ DRs K G xs ds := by
  obtain ⟨a, xs, h1, h2, h3⟩ := h.tupP s
  exact ⟨a, xs, h1, h2.sq, h3⟩
theorem View.dic {K : Fg} {ta : Option Addr} {G H : Hp} {v : V} {ds : List (D × D)} (s : Same G H) (h : View K ta G H v (.dict ds)) : ∃ a od kvs, v = .ref a ∧ H a = some (.frz od (.dK kvs)) ∧ DRk K G kvs ds := by
  rcases h with h | ⟨a, o, od, h1, h2, h3, h4, h5⟩
  · cases h with
    | dic q r => exact ⟨_, _, _, rfl, s _ _ q, r⟩
  · cases od with
    | lst es => cases h2
    | dic es =>
      cases h2
      obtain ⟨od, kvs, rfl, h6⟩ := h5.ofD
      exact ⟨a, od, kvs, h1, h4, h6⟩
/-- all of it over H -/
theorem View.at {K : Fg} {ta : Option Addr} {G H : Hp} {v : V} {d : D} (s : Same G H) (h : View K ta G H v d) : DR K H v d := by
  rcases h with h | ⟨a, o, es, h1, h2, h3, h4, h5⟩
  · exact h.same s
  · subst h1 h2
    exact h5.dr s h4
end KN

set_option maxRecDepth 100000
set_option maxHeartbeats 1000000
namespace KN
open PySem L2 PyProof.Rows
section
variable {K : Fg} {ta : Option Addr} {G H G' H' : Hp} {v x : V} {d : D}
theorem View.int {i : Int} (h : View K ta G H x (.int i)) : x = .int i := by
  cases h.dr rfl; rfl
theorem View.str {i : Str} (h : View K ta G H x (.str i)) : x = .str i := by
  cases h.dr rfl; rfl
theorem View.bl {i : Bool} (h : View K ta G H x (.bool i)) : x = .bl i := by
  cases h.dr rfl; rfl
theorem View.non (h : View K ta G H x .none) : x = .non := by
  cases h.dr rfl; rfl
theorem lineOk_le {n : Nat} (h : lineOk n = true) : n ≤ sizeLine := by
  rw [sizeLine_eq]
  exact of_decide_eq_true h
theorem Val.new {o : HO} {p : Addr} {xs : List V} {ds : List D} (s : Same G H) (hp : H p = none) (r : DRs K G xs ds) : Val K none H G (upd H p (.lst xs)) .fresh (.ref p) (.list ds) :=
  .inr ⟨p, .lst xs, .lst ds, rfl, rfl, hp, by simp, s.free hp, upd_same, .lst r⟩
end

/-! ### readings by data -/
def rV2 (K : Fg) (f : D → D → Option D) (k : Kd) : R2 := fun x y H Q => ∃ G a b d, Same G H ∧ View K none G H x a ∧ View K none G H y b ∧ f a b = some d ∧
  ∀ v G' H', Ext none G H G' H' → Same G' H' → Val K none H G' H' k v d → Q v H'
def rV1 (K : Fg) (f : D → Option D) (k : Kd) : V → Hp → VK → Prop := fun x H Q => ∃ G a d, Same G H ∧ View K none G H x a ∧ f a = some d ∧
  ∀ v G' H', Ext none G H G' H' → Same G' H' → Val K none H G' H' k v d → Q v H'
def rVs (K : Fg) (f : List D → Option D) (k : Kd) : List V → Hp → VK → Prop := fun xs H Q => ∃ G as d, Same G H ∧ Views K none G H xs as ∧ f as = some d ∧
  ∀ v G' H', Ext none G H G' H' → Same G' H' → Val K none H G' H' k v d → Q v H'

section
variable {X : Cx}
/-- lists that are read, joined -/
theorem op_catR : OpR X (binaryOp .Add) (fun x y H Q => ∃ l b xs zs, x = .ref l ∧ y = .ref b ∧ SqL X.K H l xs ∧ SqL X.K H b zs ∧ xs.length + zs.length ≤ sizeLine ∧ ∀ p, H p = none → Q (.ref p) (upd H p (.lst (xs ++ zs)))) := by
  intro pins s σ H x y v u Q I rx ry h
  obtain ⟨l, b, xs, zs, rfl, rfl, hH, hB, hz, q⟩ := h
  cases rx
  cases ry
  obtain ⟨its, r, ⟨⟨c1, d1, t1, s1⟩, n, e, k1, k2, k3⟩, z⟩ := I.list hH
  obtain ⟨its2, r2, ⟨⟨c2, d2, t2, s2⟩, n2, e2, k4, k5, k6⟩, z2⟩ := I.list hB
  simp only at k1 k2 k3 k4 k5 k6
  subst k1 k2 k3 k4 k5 k6
  have hl := r.length
  have hl2 := r2.length
  have ea : its.toArray ++ its2.toArray = (its ++ its2).toArray := by simp
  refine concat_meets ⟨_, e, rfl⟩ ⟨_, e2, rfl⟩ noFill_list_add seq_list_add PySem.F.slot_list_add PySem.F.entry_list_add (PySem.F.args_list_add_2 _ _) (list_addW l b its.toArray its2.toArray n n2 none none s1 s2 (by rw [List.size_toArray, List.size_toArray]; omega)) ⟨e, e2, ?_⟩
  rw [ea]
  exact ⟨.ref _, _, I.lnew (t' := s.toks) (r.append r2) (by rw [List.length_append]; omega), rfl, q _ I.fresh⟩
theorem int_rmul_listG (a : Int) (t : Tok) (l : Addr) (items : Array Value) (n : Nat) (dd : Option Addr) (sl : Array (Option Value)) :
    Meets (Builtin.«int.__rmul__» ⟨[.int a t, .ref l], []⟩) (fun _ R s => s.heap.get? l = some { cls := .type "list", dict := dd, data := .seq items n, slots := sl } ∧ R (.ok (.ret Value.notImplemented)) s) :=
  .of_wp fun prog w A R s h => by obtain ⟨hp, g, d, tk, os⟩ := s; obtain ⟨hl, h⟩ := h; wp_walk using AutoSeq1.wpAny_loadPart' hl; exact ⟨_, rfl, h⟩
theorem list_mulG (l : Addr) (items : Array Value) (n : Nat) (dd : Option Addr) (sl : Array (Option Value)) (x : Int) (u : Tok) (hc0 : ¬(!Builtin.List.listFitsIndex x) = true) (hc1 : ¬items.size * x.toNat > (2 ^ 63 - 1) / 8) (hc2 : ¬Builtin.List.listTooLong (items.size * x.toNat) = true) :
    Meets (Builtin.«list.__mul__» ⟨[.ref l, .int x u], []⟩) (fun _ R s => s.heap.get? l = some { cls := .type "list", dict := dd, data := .seq items n, slots := sl } ∧ R (.ok (.ret (Value.ref s.heap.objs.size))) { s with heap := s.heap.push { cls := Value.type "list", data := Data.seq (List.foldl (fun x1 x2 => x1 ++ x2) #[] (List.replicate (if items.isEmpty = true then 0 else x.toNat) items)) }, toks := s.toks }) :=
  .of_wp fun prog w A R s h => by
    obtain ⟨hp, g, d, tk, os⟩ := s; obtain ⟨hl, h⟩ := h
    have hsz := AutoListH.joined_fits hc2
    have f1 := AutoSeq1.idx_int
    wp_walk using AutoSeq1.wpAny_loadPart' hl; refine wpAny_ite_false (decide_eq_false (Nat.not_lt.mpr hsz)) ?_; wp_walk using AutoSeq1.wpAny_loadPart' hl; exact ⟨_, rfl, h⟩
theorem op_repR : OpR X (binaryOp .Mult) (fun x y H Q => ∃ l k xs, x = .ref l ∧ y = .int k ∧ SqL X.K H l xs ∧ -(2 ^ 63) ≤ k ∧ k < 2 ^ 63 ∧ xs.length * k.toNat ≤ sizeLine ∧
    ∀ p, H p = none → Q (.ref p) (upd H p (.lst (List.replicate k.toNat xs).flatten))) := by
  intro pins s σ H x y v u Q I rx ry h
  obtain ⟨l, k, xs, rfl, rfl, hH, h1, h2, hz, q⟩ := h
  cases rx
  obtain ⟨t, rfl⟩ := ry
  obtain ⟨its, r, ⟨⟨c1, d1, t1, s1⟩, n, e, k1, k2, k3⟩, z⟩ := I.list hH
  simp only at k1 k2 k3
  subst k1 k2 k3
  have hl := r.length
  have hlen : its.toArray.size * k.toNat ≤ sizeLine := by rw [List.size_toArray, ← hl]; exact hz
  have hcap : ¬ its.toArray.size * k.toNat > (2 ^ 63 - 1) / 8 := by
    have : (sizeLine : Nat) ≤ (2 ^ 63 - 1) / 8 := by decide
    omega
  have hfit : ¬ (!Builtin.List.listFitsIndex k) = true := by
    rw [fitsIndex_both h1 h2]
    exact Bool.false_ne_true
  have hlong : ¬ Builtin.List.listTooLong (its.toArray.size * k.toNat) = true := by
    rw [notLongL hlen]
    exact Bool.false_ne_true
  have hnew : List.foldl (fun x1 x2 => x1 ++ x2) #[] (List.replicate (if its.toArray.isEmpty = true then 0 else k.toNat) its.toArray) = (List.replicate k.toNat its).flatten.toArray := by
    have f0 : ∀ m : Nat, List.foldl (fun x1 x2 => x1 ++ x2) #[] (List.replicate m its.toArray) = (List.replicate m its).flatten.toArray := fun m => by
      have := foldl_rep its m []
      rw [List.nil_append] at this
      exact this
    rw [f0]
    cases its with
    | nil => simp
    | cons a r' => rw [if_neg (by simp)]
  refine wpAny_binaryOp_repeat_ref (T := "list") (U := "int") (by decide) ⟨_, e, rfl⟩ (fun s' => typeIs_int s' k t) noFill_list_mul F.fills_int_mul F.slot_int_rmul repeat_list F.slot_int_index.lookup
    (call_meets F.slot_int_rmul (typeIs_int s k t) F.entry_int_rmul (F.args_int_rmul_2 _ _) (int_rmul_listG k t l its.toArray n none s1)
      ⟨e, rfl, ⟨_, e, rfl⟩, call_meets F.slot_list_mul ⟨_, e, rfl⟩ F.entry_list_mul (F.args_list_mul_2 _ _) (list_mulG l its.toArray n none s1 k t hfit hcap hlong) ⟨e, ?_⟩⟩)
  rw [hnew]
  exact ⟨.ref _, _, I.lnew (t' := s.toks) (r.rep k.toNat) (by rw [PyProof.Rows.lm_len_rep_flat, Nat.mul_comm]; exact hz), rfl, q _ I.fresh⟩

/-! ### tuples that are made: no dict of their own -/
abbrev tupO (us : List Value) : Obj := { cls := .type "tuple", data := .seq us.toArray }
theorem Inv.ltup {pins : List (Addr × Obj)} {s : Shared} {σ : L2.St} {H : Hp} {zs : List V} {us : List Value} {t' : Nat} (I : L2.Inv X pins σ H s) (r : Vals zs us) (hz : zs.length ≤ sizeLine) :
    L2.Inv X pins σ (upd H s.heap.objs.size (.frz (tupO us) (.tup zs))) { s with heap := s.heap.push (tupO us), toks := t' } :=
  I.laid (o := .frz (tupO us) (.tup zs)) (fun b ob q => Heap.get?_push_of_some _ q) (Nat.le_refl _) ⟨Heap.get?_push_size _ rfl, hz, us, r, IsTup.new _ _⟩
def tTupP (t : TA) : TE := fun σ H Q => t σ H fun xs H1 => xs.length ≤ sizeLine ∧ ∀ o p, o.dict = none → H1 p = none → Q (.ref p) (upd H1 p (.frz o (.tup xs)))
theorem pe_tupP {es : List Expr} {t : TA} {pos : Pos} {k : Nat} (h : PA X es t) : PE X (.Tuple es k pos) (tTupP t) := by
  refine ⟨fun pins s σ H Q I hq => wpAny_Tuple_spliced (thn (h.run pos pins s σ H _ I hq) fun us s1 ⟨xs, H1, I1, r, z, q⟩ => ⟨by rw [← r.length]; exact z, ?_⟩)⟩
  exact ⟨.ref _, _, Inv.ltup (t' := s1.toks) I1 r z, rfl, q (tupO us) _ rfl (I1.hok.fresh (Nat.le_refl _))⟩
theorem call_tupP : CallR X (.type "tuple") (fun xs H Q => ∃ p ys, xs = [.ref p] ∧ SqL X.K H p ys ∧ ∀ o l, o.dict = none → H l = none → Q (.ref l) (upd H l (.frz o (.tup ys)))) := by
  intro pins s σ H xs us Q I r h
  obtain ⟨p, ys, rfl, hq, q⟩ := h
  rw [Vals.ref1 r]
  obtain ⟨its, r', pl, hz⟩ := I.list hq
  refine call_tuple_list pl.isList (fun h' kp => ?_) (by rw [List.size_toArray, ← r'.length]; exact hz)
  have J : L2.Inv X pins σ H { s with heap := h' } := I.kept (t' := s.toks) kp
  exact ⟨.ref _, _, Inv.ltup (t' := s.toks) J r' hz, rfl, q (tupO its) _ rfl (J.hok.fresh (Nat.le_refl _))⟩
theorem op_catP : OpR X (binaryOp .Add) (fun x y H Q => ∃ a b xs ys, x = .ref a ∧ y = .ref b ∧ SqT X.K H a xs ∧ SqT X.K H b ys ∧ xs.length + ys.length ≤ sizeLine ∧ (xs = [] → Q (.ref b) H) ∧ (xs ≠ [] → ys = [] → Q (.ref a) H) ∧
    (xs ≠ [] → ys ≠ [] → ∀ o p, o.dict = none → H p = none → Q (.ref p) (upd H p (.frz o (.tup (xs ++ ys)))))) := by
  intro pins s σ H x y v u Q I rx ry h
  obtain ⟨a, b, xs, ys, rfl, rfl, ha, hb, hz, q0, q1, q2⟩ := h
  cases rx
  cases ry
  obtain ⟨i1, r1, p1, _⟩ := I.tuple ha
  obtain ⟨i2, r2, p2, _⟩ := I.tuple hb
  by_cases hx : xs = []
  · subst hx
    cases r1
    exact cat_tup0 p1 p2 ⟨.ref b, H, I, rfl, q0 rfl⟩
  · have hl : i1.length + i2.length ≤ sizeLine := by rw [← r1.length, ← r2.length]; exact hz
    refine HT.cat_tup p1 p2 (fun z => hx (r1.nil_iff.mp z)) (fun z => ⟨.ref a, H, I, rfl, q1 hx (r2.nil_iff.mp z)⟩) (fun z => ?_) hl
    exact ⟨.ref _, _, Inv.ltup (t' := s.toks) I (r1.append r2) (by rw [List.length_append]; exact hz), rfl, q2 hx (fun w => z (r2.nil_iff.mpr w)) (tupO _) _ rfl (I.hok.fresh (Nat.le_refl _))⟩
theorem op_repP : OpR X (binaryOp .Mult) (fun x y H Q => ∃ l k xs, x = .ref l ∧ y = .int k ∧ SqT X.K H l xs ∧ xs ≠ [] ∧ 2 ≤ k ∧ k ≤ 1000 ∧ xs.length ≤ 1000 ∧ ∀ o p, o.dict = none → H p = none → Q (.ref p) (upd H p (.frz o (.tup (List.replicate k.toNat xs).flatten)))) := by
  intro pins s σ H x y v u Q I rx ry h
  obtain ⟨l, k, xs, rfl, rfl, hT, hne, h1, h2, hz, q⟩ := h
  cases rx
  obtain ⟨t, rfl⟩ := ry
  obtain ⟨its, r, ⟨⟨c0, dd, dt, sl⟩, ho, hc, n, hd⟩, hs⟩ := I.tuple hT
  simp only at hc hd
  subst hc hd
  have hle : its.length = xs.length := r.length.symm
  have hn : its ≠ [] := fun e => hne (List.eq_nil_of_length_eq_zero (by rw [← hle, e]; rfl))
  have hi : its.toArray.isEmpty = false := by cases its <;> first | exact absurd rfl hn | rfl
  have hsz : its.toArray.size = xs.length := by rw [List.size_toArray, hle]
  have a1 : ((xs.length : Nat) : Int) * k ≤ 1000 * k := Int.mul_le_mul_of_nonneg_right (by omega) (by omega)
  have a2 : k.toNat * xs.length ≤ 1000 * 1000 := Nat.mul_le_mul (by omega) hz
  have flen : (List.replicate k.toNat its).flatten.length ≤ sizeLine := by
    rw [PyProof.Rows.lm_len_rep_flat, hle, sizeLine_eq]
    omega
  have g0 : (decide (k < -(2 ^ 63)) || decide (k ≥ 2 ^ 63)) = false := by
    rw [decide_eq_false (by omega), decide_eq_false (by omega)] <;> rfl
  have g1 : (its.toArray.isEmpty || k == 1) = false := by
    rw [hi, Bool.false_or]
    exact beq_eq_false_iff_ne.mpr (by omega)
  have g2 : (decide (k ≤ 0) || its.toArray.isEmpty) = false := by
    rw [hi, Bool.or_false]
    exact decide_eq_false (by omega)
  have g4 : Builtin.Tuple.tupleTooMany (((its.toArray.size : Nat) : Int) * k) = false := by
    unfold Builtin.Tuple.tupleTooMany
    rw [sizeLine_eq, hsz]
    exact decide_eq_false (by omega)
  refine wpAny_binaryOp_repeat_ref (T := "tuple") (U := "int") (by decide) ⟨_, ho, rfl⟩ (fun s' => typeIs_int s' k t) noFill_tuple_mul F.fills_int_mul F.slot_int_rmul repeat_tuple F.slot_int_index.lookup
    (call_meets F.slot_int_rmul (typeIs_int s k t) F.entry_int_rmul (F.args_int_rmul_2 _ _) (int_rmul_tuple k t l its.toArray n dd sl) ⟨ho, rfl, ⟨_, ho, rfl⟩, ?_⟩)
  refine call_meets F.slot_tuple_mul ⟨_, ho, rfl⟩ F.entry_tuple_mul (F.args_tuple_mul_2 _ _) (tuple_mulW l its.toArray n dd sl k t g0 g1 g2 (by rw [hsz]; omega) g4 (by rw [size_rep, List.size_toArray]; exact flen)) ⟨ho, ?_⟩
  rw [size_rep]
  exact ⟨.ref _, _, Inv.ltup (t' := s.toks) I (r.rep k.toNat) (by rw [PyProof.Rows.lm_len_rep_flat, sizeLine_eq]; omega), rfl, q (tupO _) _ rfl (I.hok.fresh (Nat.le_refl _))⟩
def rSlP (K : Fg) : V → Option Int → Option Int → Hp → VK → Prop := fun x lo hi H Q => ∃ a xs, x = .ref a ∧ SqT K H a xs ∧
  (HT.sIx xs.length 0 lo = 0 ∧ HT.sIx xs.length xs.length hi = xs.length → Q (.ref a) H) ∧ (¬ (HT.sIx xs.length 0 lo = 0 ∧ HT.sIx xs.length xs.length hi = xs.length) → ∀ o p, o.dict = none → H p = none → Q (.ref p) (upd H p (.frz o (.tup (cutV xs lo hi)))))
theorem sl_tupP : SlR X (rSlP X.K) := by
  intro pins s σ H x v vl vu lo hi sl Q I rx hs pl pu h
  obtain ⟨a, xs, rfl, hx, q1, q2⟩ := h
  by_cases hw : HT.sIx xs.length 0 lo = 0 ∧ HT.sIx xs.length xs.length hi = xs.length
  · exact sl_tupA pins s σ H _ v vl vu lo hi sl Q I rx hs pl pu ⟨a, xs, rfl, hx, q1, fun z => absurd hw z⟩
  · cases rx
    obtain ⟨its, r, ht, hz⟩ := I.tuple hx
    have hln : its.toArray.size = xs.length := by rw [List.size_toArray]; exact r.length.symm
    refine ⟨"tuple", _, PyProof.Rows.slot_tuple_getitem.lookup, ht.typeIs, HT.getItem_tuple_cut ht hs pl pu (by rw [hln]; exact hw) ?_ (by rw [hln]; exact hz)⟩
    rw [hln]
    have rr := (r.drop (HT.sIx xs.length 0 lo)).take (HT.sIx xs.length xs.length hi - HT.sIx xs.length 0 lo)
    exact ⟨.ref _, _, Inv.ltup (t' := s.toks) I rr (Nat.le_trans (cutV_length xs lo hi) hz), rfl, q2 hw (tupO _) _ rfl (I.hok.fresh (Nat.le_refl _))⟩
theorem laidT {G H : Hp} {p : Addr} {o : Obj} {xs : List V} {ds : List D} {K : Fg} (sm : Same G H) (hp : H p = none) (ho : o.dict = none) (h : DRs K G xs ds) : DR K (upd G p (.frz o (.tup xs))) (.ref p) (.tuple ds) :=
  .tup ⟨o, upd_same, ho⟩ (h.same (Ext.laid (ta := none) sm hp).g)
/-- a scalar comes out -/
theorem scal_out {K : Fg} {G H : Hp} {v : V} {d : D} {k : Kd} {Q : VK} (sm : Same G H) (q : ∀ v G' H', Ext none G H G' H' → Same G' H' → Val K none H G' H' k v d → Q v H') (h : DR K G v d) (n : still d = true) (hk : k ≠ .peek := by decide) : Q v H := by
  refine q v G H Ext.refl sm ?_
  cases k with
  | dat => exact h
  | fresh => exact .inl ⟨h, n⟩
  | peek => exact absurd rfl hk
theorem op_binD (op : Operator) : OpR X (binaryOp op) (rV2 X.K (binD op) .fresh) := by
  intro pins s σ H x y v u Q I rx ry h
  obtain ⟨G, a, b, d, sm, va, vb, e, q⟩ := h
  cases op with
  | Add =>
    cases a with
    | int i =>
      cases b with
      | int j =>
        cases e
        exact op_add pins s σ H x y v u Q I rx ry ⟨i, j, va.int, vb.int, scal_out sm q (.int _) rfl⟩
      | _ => cases e
    | str i =>
      cases b with
      | str j =>
        simp only [binD] at e
        split at e
        · rename_i hz
          cases e
          exact op_add_str pins s σ H x y v u Q I rx ry ⟨i, j, va.str, vb.str, lineOk_le hz, scal_out sm q (.str _) rfl⟩
        · cases e
      | _ => cases e
    | list i =>
      cases b with
      | list j =>
        simp only [binD] at e
        split at e
        · rename_i hz
          cases e
          obtain ⟨p1, xs, e1, r1, d1⟩ := va.lst sm
          obtain ⟨p2, ys, e2, r2, d2⟩ := vb.lst sm
          refine op_catR pins s σ H x y v u Q I rx ry ⟨p1, p2, xs, ys, e1, e2, r1, r2, by rw [d1.length, d2.length]; exact lineOk_le hz, fun p hp => ?_⟩
          exact q _ G _ (Ext.fresh hp) (fun b u h => by rw [upd_ne (ne_of_none (sm _ _ h) hp)]; exact sm _ _ h) (Val.new (o := .tup []) sm hp (d1.append d2))
        · cases e
      | _ => cases e
    | tuple i =>
      cases b with
      | tuple j =>
        simp only [binD] at e
        split at e
        · rename_i hz
          cases e
          obtain ⟨p1, xs, e1, r1, d1⟩ := va.tup sm
          obtain ⟨p2, ys, e2, r2, d2⟩ := vb.tup sm
          have w1 : DR X.K G x (.tuple i) := va.dr rfl
          have w2 : DR X.K G y (.tuple j) := vb.dr rfl
          refine op_catP pins s σ H x y v u Q I rx ry ⟨p1, p2, xs, ys, e1, e2, r1, r2, by rw [d1.length, d2.length]; exact lineOk_le hz, fun z => ?_, fun _ z => ?_, fun _ _ o p ho hp => ?_⟩
          · subst z
            cases d1
            rw [← e2]
            exact scal_out sm q w2 rfl
          · subst z
            cases d2
            rw [← e1, List.append_nil] at *
            exact scal_out sm q w1 rfl
          · exact q _ _ _ (Ext.laid sm hp) (same_laid sm hp) (.inl ⟨laidT sm hp ho (d1.append d2), rfl⟩)
        · cases e
      | _ => cases e
    | _ => cases e
  | Sub =>
    cases a with
    | int i =>
      cases b with
      | int j =>
        cases e
        exact op_sub pins s σ H x y v u Q I rx ry ⟨i, j, va.int, vb.int, scal_out sm q (.int _) rfl⟩
      | _ => cases e
    | _ => cases e
  | Mult =>
    cases a with
    | int i =>
      cases b with
      | int j =>
        simp only [binD] at e
        split at e
        · rename_i hz
          cases e
          refine op_mul pins s σ H x y v u Q I rx ry ⟨i, j, va.int, vb.int, ?_, scal_out sm q (.int _) rfl⟩
          simp only [mulOk, Bool.or_eq_true, Bool.and_eq_true, decide_eq_true_eq] at hz
          exact hz
        · cases e
      | _ => cases e
    | list i =>
      cases b with
      | int j =>
        simp only [binD] at e
        split at e
        · rename_i hz
          cases e
          simp only [Bool.and_eq_true, decide_eq_true_eq] at hz
          obtain ⟨⟨h1, h2⟩, h3⟩ := hz
          obtain ⟨p1, xs, e1, r1, d1⟩ := va.lst sm
          refine op_repR pins s σ H x y v u Q I rx ry ⟨p1, j, xs, e1, vb.int, r1, h1, h2, by rw [d1.length]; exact lineOk_le h3, fun p hp => ?_⟩
          exact q _ G _ (Ext.fresh hp) (fun b u h => by rw [upd_ne (ne_of_none (sm _ _ h) hp)]; exact sm _ _ h) (Val.new (o := .tup []) sm hp (d1.rep _))
        · cases e
      | _ => cases e
    | tuple i =>
      cases b with
      | int j =>
        simp only [binD] at e
        split at e
        · rename_i hz
          cases e
          simp only [Bool.and_eq_true, decide_eq_true_eq] at hz
          obtain ⟨⟨⟨h0, h1⟩, h2⟩, h3⟩ := hz
          obtain ⟨p1, xs, e1, r1, d1⟩ := va.tup sm
          refine op_repP pins s σ H x y v u Q I rx ry ⟨p1, j, xs, e1, vb.int, r1, fun z => ?_, h1, h2, by rw [d1.length]; exact h3, fun o p ho hp => ?_⟩
          · subst z; cases d1; simp at h0
          · exact q _ _ _ (Ext.laid sm hp) (same_laid sm hp) (.inl ⟨laidT sm hp ho (d1.rep _), rfl⟩)
        · cases e
      | _ => cases e
    | _ => cases e
  | Mod =>
    cases a with
    | int i =>
      cases b with
      | int j =>
        simp only [binD] at e
        split at e
        · rename_i hz
          cases e
          exact op_mod pins s σ H x y v u Q I rx ry ⟨i, j, va.int, vb.int, hz, scal_out sm q (.int _) rfl⟩
        · cases e
      | _ => cases e
    | _ => cases e
  | FloorDiv =>
    cases a with
    | int i =>
      cases b with
      | int j =>
        simp only [binD] at e
        split at e
        · rename_i hz
          cases e
          simp only [Bool.and_eq_true, decide_eq_true_eq] at hz
          exact op_fdiv pins s σ H x y v u Q I rx ry ⟨i, j, va.int, vb.int, hz, scal_out sm q (.int _) rfl⟩
        · cases e
      | _ => cases e
    | _ => cases e
  | Pow =>
    cases a with
    | int i =>
      cases b with
      | int j =>
        simp only [binD] at e
        split at e
        · rename_i hz
          cases e
          simp only [Bool.and_eq_true, decide_eq_true_eq] at hz
          exact op_pow pins s σ H x y v u Q I rx ry ⟨i, j, va.int, vb.int, ⟨hz.1.1, hz.1.2, hz.2⟩, scal_out sm q (.int _) rfl⟩
        · cases e
      | _ => cases e
    | _ => cases e
  | LShift =>
    cases a with
    | int i =>
      cases b with
      | int j =>
        simp only [binD] at e
        split at e
        · rename_i hz
          cases e
          simp only [Bool.and_eq_true, decide_eq_true_eq] at hz
          exact op_shl pins s σ H x y v u Q I rx ry ⟨i, j, va.int, vb.int, ⟨hz.1.1, hz.1.2, hz.2⟩, scal_out sm q (.int _) rfl⟩
        · cases e
      | _ => cases e
    | _ => cases e
  | BitAnd =>
    cases a with
    | int i =>
      cases b with
      | int j =>
        cases e
        exact op_and pins s σ H x y v u Q I rx ry ⟨i, j, va.int, vb.int, scal_out sm q (.int _) rfl⟩
      | _ => cases e
    | _ => cases e
  | BitOr =>
    cases a with
    | int i =>
      cases b with
      | int j =>
        cases e
        exact op_or pins s σ H x y v u Q I rx ry ⟨i, j, va.int, vb.int, scal_out sm q (.int _) rfl⟩
      | _ => cases e
    | _ => cases e
  | _ => cases a <;> cases b <;> cases e
end
end KN

set_option maxRecDepth 100000
set_option maxHeartbeats 1000000
namespace KN
open PySem L2 PyProof.Rows

/-! ### sorted rows are unique -/
theorem perm_sorted_eq {α : Type} {le : α → α → Prop} (anti : ∀ a b, le a b → le b a → a = b) (rfl' : ∀ a, le a a) : ∀ {l m : List α}, l.Perm m → l.Pairwise le → m.Pairwise le → l = m
  | [], m, p, _, _ => (List.Perm.nil_eq p)
  | a :: r, [], p, _, _ => absurd p.length_eq (by simp)
  | a :: r, b :: q, p, h1, h2 => by
    have hab : a = b := by
      have m1 : a ∈ b :: q := p.subset List.mem_cons_self
      have m2 : b ∈ a :: r := p.symm.subset List.mem_cons_self
      have l1 : le b a := by
        rcases List.mem_cons.mp m1 with z | z
        · rw [z]; exact rfl' _
        · exact List.rel_of_pairwise_cons h2 z
      have l2 : le a b := by
        rcases List.mem_cons.mp m2 with z | z
        · rw [z]; exact rfl' _
        · exact List.rel_of_pairwise_cons h1 z
      exact anti _ _ l2 l1
    subst hab
    rw [perm_sorted_eq anti rfl' p.cons_inv (List.pairwise_cons.mp h1).2 (List.pairwise_cons.mp h2).2]
theorem cps_inj {x y : Str} (h : x.cps.toList = y.cps.toList) : x = y := Str.ext' (Array.toList_inj.mp h)
/-! ### keys of dicts -/
theorem key_of_drk {k : Key} {x : D} (h : isKey x = true) (e : ∀ j, x ≠ kD j) : False := by
  cases x with
  | int i => exact e (.inl i) rfl
  | str i => exact e (.inr i) rfl
  | _ => cases h
theorem isKey_kD {x : D} (h : isKey x = true) : ∃ k, x = kD k := by
  cases x with
  | int i => exact ⟨.inl i, rfl⟩
  | str i => exact ⟨.inr i, rfl⟩
  | _ => cases h
theorem kD_isKey (k : Key) : isKey (kD k) = true := by cases k <;> rfl
theorem eqK_kD (j k : Key) : eqK (kD j) (kD k) = decide (j = k) := by
  cases j with
  | inl a => cases k with
    | inl b =>
      show decide (a = b) = _
      exact (decide_eq_decide.mpr ⟨fun h => by rw [h], fun h => Sum.inl.inj h⟩)
    | inr b => rfl
  | inr a => cases k with
    | inl b => rfl
    | inr b =>
      show decide (a = b) = _
      exact (decide_eq_decide.mpr ⟨fun h => by rw [h], fun h => Sum.inr.inj h⟩)
theorem DRk.look {K : Fg} {G : Hp} (k : Key) : ∀ {vs : List (Key × V)} {ds : List (D × D)}, DRk K G vs ds → (valV vs k = none ∧ lookK ds (kD k) = none) ∨ ∃ v d, valV vs k = some v ∧ lookK ds (kD k) = some d ∧ DR K G v d
  | _, _, .nil => .inl ⟨rfl, rfl⟩
  | _, _, .cons (k := j) (v := v) (vs := vs) (d := d) (ds := ds) h r => by
    have e1 : valV ((j, v) :: vs) k = if j = k then some v else valV vs k := by
      unfold valV
      rw [List.find?_cons]
      by_cases hj : j = k
      · simp [hj]
      · simp [hj]
    have e2 : lookK ((kD j, d) :: ds) (kD k) = if j = k then some d else lookK ds (kD k) := by
      show (if eqK (kD j) (kD k) then some d else lookK ds (kD k)) = _
      rw [eqK_kD]
      by_cases hj : j = k <;> simp [hj]
    rw [e1, e2]
    by_cases hj : j = k
    · rw [if_pos hj, if_pos hj]
      exact .inr ⟨v, d, rfl, rfl, h⟩
    · rw [if_neg hj, if_neg hj]
      exact DRk.look k r
theorem V_kD {K : Fg} {G : Hp} {v : V} {k : Key} (h : DR K G v (kD k)) : v = kV k := by
  cases k <;> cases h <;> rfl
theorem kV_DR {K : Fg} {G : Hp} (k : Key) : DR K G (kV k) (kD k) := by cases k <;> constructor
theorem still_kD (k : Key) : still (kD k) = true := by cases k <;> rfl

section
variable {X : Cx}
theorem bl_out {K : Fg} {G H : Hp} {b : Bool} {Q : VK} (sm : Same G H) (q : ∀ v G' H', Ext none G H G' H' → Same G' H' → Val K none H G' H' .dat v (.bool b) → Q v H') : Q (.bl b) H := q _ G H Ext.refl sm (.bl b)
theorem op_cmpD (op : CmpOp) (hu : X.A.units + 64 < cLine) : OpR X (compareOp op) (rV2 X.K (cmpD op) .dat) := by
  intro pins s σ H x y v u Q I rx ry h
  obtain ⟨G, a, b, d, sm, va, vb, e, q⟩ := h
  cases op with
  | Eq =>
    simp only [cmpD] at e
    split at e
    · rename_i hz
      cases e
      simp only [Bool.and_eq_true] at hz
      exact op_eqD hu pins s σ H x y v u Q I rx ry ⟨a, b, (va.at sm).dp (SeqAt.canLay_of_shaped hz.1), (vb.at sm).dp (SeqAt.canLay_of_shaped hz.2), hz.1, hz.2, bl_out sm q⟩
    · cases e
  | NotEq =>
    simp only [cmpD] at e
    split at e
    · rename_i hz
      cases e
      simp only [Bool.and_eq_true] at hz
      exact op_neD hu pins s σ H x y v u Q I rx ry ⟨a, b, (va.at sm).dp (SeqAt.canLay_of_shaped hz.1), (vb.at sm).dp (SeqAt.canLay_of_shaped hz.2), hz.1, hz.2, bl_out sm q⟩
    · cases e
  | Lt =>
    have e : _ = some d := e
    simp only [cmpD, ltD] at e
    split at e
    · rename_i hz
      cases e
      simp only [Bool.and_eq_true] at hz
      obtain ⟨⟨h1, h2⟩, h3, h4⟩ := hz
      obtain ⟨as, r1⟩ := Dp.reads I a x v ((va.at sm).dp (SeqAt.canLay_of_shaped h3)) rx
      obtain ⟨bs, r2⟩ := Dp.reads I b y u ((vb.at sm).dp (SeqAt.canLay_of_shaped h4)) ry
      refine PySem.W.lt_data r1 r2 h1 ?_ (SeqAt.room_of_shaped h3 hu) ⟨.bl _, H, I, rfl, bl_out sm q⟩
      intro z; subst z; cases h2
    · cases e
  | LtE =>
    have e : _ = some d := e
    simp only [cmpD, ltD] at e
    split at e
    · rename_i hz
      cases e
      simp only [Bool.and_eq_true] at hz
      obtain ⟨⟨h1, h2⟩, h3, h4⟩ := hz
      obtain ⟨as, r1⟩ := Dp.reads I a x v ((va.at sm).dp (SeqAt.canLay_of_shaped h4)) rx
      obtain ⟨bs, r2⟩ := Dp.reads I b y u ((vb.at sm).dp (SeqAt.canLay_of_shaped h3)) ry
      refine PySem.W.le_data r1 r2 (by rw [PySem.W.alike_comm]; exact h1) ?_ (SeqAt.room_of_shaped h4 hu) ⟨.bl _, H, I, rfl, bl_out sm q⟩
      intro z; subst z; cases b <;> first | (simp [PySem.W.alike] at h1; done) | (simp [ordD] at h2; done)
    · cases e
  | Gt =>
    have e : _ = some d := e
    simp only [cmpD, ltD] at e
    split at e
    · rename_i hz
      cases e
      simp only [Bool.and_eq_true] at hz
      obtain ⟨⟨h1, h2⟩, h3, h4⟩ := hz
      obtain ⟨as, r1⟩ := Dp.reads I a x v ((va.at sm).dp (SeqAt.canLay_of_shaped h4)) rx
      obtain ⟨bs, r2⟩ := Dp.reads I b y u ((vb.at sm).dp (SeqAt.canLay_of_shaped h3)) ry
      refine PySem.W.gt_data r1 r2 (by rw [PySem.W.alike_comm]; exact h1) ?_ (SeqAt.room_of_shaped h4 hu) ⟨.bl _, H, I, rfl, bl_out sm q⟩
      intro z; subst z; cases b <;> first | (simp [PySem.W.alike] at h1; done) | (simp [ordD] at h2; done)
    · cases e
  | GtE =>
    have e : _ = some d := e
    simp only [cmpD, ltD] at e
    split at e
    · rename_i hz
      cases e
      simp only [Bool.and_eq_true] at hz
      obtain ⟨⟨h1, h2⟩, h3, h4⟩ := hz
      obtain ⟨as, r1⟩ := Dp.reads I a x v ((va.at sm).dp (SeqAt.canLay_of_shaped h3)) rx
      obtain ⟨bs, r2⟩ := Dp.reads I b y u ((vb.at sm).dp (SeqAt.canLay_of_shaped h4)) ry
      refine PySem.W.ge_data r1 r2 h1 ?_ (SeqAt.room_of_shaped h3 hu) ⟨.bl _, H, I, rfl, bl_out sm q⟩
      intro z; subst z; cases h2
    · cases e
  | Is =>
    cases b with
    | none =>
      cases e
      have hx : decide (x = V.non) = isNone a := by
        cases va.at sm <;> first | rfl | (exact decide_eq_false (fun z => nomatch z))
      exact op_isN pins s σ H x y v u Q I rx ry ⟨vb.non, by rw [hx]; exact bl_out sm q⟩
    | _ => cases a <;> cases e
  | IsNot =>
    cases b with
    | none =>
      cases e
      have hx : decide (x = V.non) = isNone a := by
        cases va.at sm <;> first | rfl | (exact decide_eq_false (fun z => nomatch z))
      exact op_notN pins s σ H x y v u Q I rx ry ⟨vb.non, by rw [hx]; exact bl_out sm q⟩
    | _ => cases a <;> cases e
  | In =>
    cases b with
    | list ys =>
      have e : inSeq false a ys = some d := by cases a <;> exact e
      unfold inSeq at e
      split at e
      · rename_i hz
        cases e
        simp only [Bool.and_eq_true, decide_eq_true_eq] at hz
        obtain ⟨⟨h1, h2⟩, h3⟩ := hz
        obtain ⟨as, r1⟩ := Dp.reads I a x v ((va.at sm).dp h1) rx
        obtain ⟨bs, r2⟩ := Dp.reads I (.list ys) y u ((vb.at sm).dp (by simpa [PyData.canLay0] using h3)) ry
        exact SeqAt.in_list_reads r2 r1 h3 h1 (by omega) ⟨.bl _, H, I, rfl, bl_out sm q⟩
      · cases e
    | tuple ys =>
      have e : inSeq false a ys = some d := by cases a <;> exact e
      unfold inSeq at e
      split at e
      · rename_i hz
        cases e
        simp only [Bool.and_eq_true, decide_eq_true_eq] at hz
        obtain ⟨⟨h1, h2⟩, h3⟩ := hz
        obtain ⟨as, r1⟩ := Dp.reads I a x v ((va.at sm).dp h1) rx
        obtain ⟨bs, r2⟩ := Dp.reads I (.tuple ys) y u ((vb.at sm).dp (by simpa [PyData.canLay0] using h3)) ry
        exact SeqAt.in_tuple_reads r2 r1 h3 h1 (by omega) ⟨.bl _, H, I, rfl, bl_out sm q⟩
      · cases e
    | dict ys =>
      have e : (if isKey a then some (PyData.bool (hasK ys a)) else none) = some d := by cases a <;> exact e
      split at e
      · rename_i hz
        cases e
        obtain ⟨k, rfl⟩ := isKey_kD hz
        obtain ⟨p, od, kvs, rfl, hp, dr⟩ := vb.dic sm
        have hx : x = kV k := V_kD (va.dr (still_kD k))
        subst hx
        cases ry
        have hs : (valV kvs k).isSome = hasK ys (kD k) := by
          unfold hasK
          rcases dr.look k with ⟨h1, h2⟩ | ⟨w, z, h1, h2, _⟩ <;> rw [h1, h2] <;> rfl
        refine d_in (by omega) I (.inl ⟨kvs, k, .inr ⟨od, hp⟩, rfl, rfl⟩) rx fun s' I' => ⟨.bl _, H, I', rfl, ?_⟩
        rw [hs]
        exact bl_out sm q
      · cases e
    | str z =>
      cases a with
      | str w =>
        simp only [cmpD] at e
        split at e
        · rename_i c hc
          cases e
          have hw : w = ⟨#[c]⟩ := by
            unfold strOne at hc
            split at hc
            · rename_i c' hl
              cases hc
              exact cps_inj hl
            · cases hc
          exact op_in_sign pins s σ H x y v u Q I rx ry ⟨c, z, by rw [va.str, hw], vb.str, bl_out sm q⟩
        · cases e
      | _ => cases e
    | _ => cases a <;> cases e
  | NotIn =>
    cases b with
    | list ys =>
      have e : inSeq true a ys = some d := by cases a <;> exact e
      unfold inSeq at e
      split at e
      · rename_i hz
        cases e
        simp only [Bool.and_eq_true, decide_eq_true_eq] at hz
        obtain ⟨⟨h1, h2⟩, h3⟩ := hz
        obtain ⟨as, r1⟩ := Dp.reads I a x v ((va.at sm).dp h1) rx
        obtain ⟨bs, r2⟩ := Dp.reads I (.list ys) y u ((vb.at sm).dp (by simpa [PyData.canLay0] using h3)) ry
        exact SeqAt.notIn_list_reads r2 r1 h3 h1 (by omega) ⟨.bl _, H, I, rfl, bl_out sm q⟩
      · cases e
    | tuple ys =>
      have e : inSeq true a ys = some d := by cases a <;> exact e
      unfold inSeq at e
      split at e
      · rename_i hz
        cases e
        simp only [Bool.and_eq_true, decide_eq_true_eq] at hz
        obtain ⟨⟨h1, h2⟩, h3⟩ := hz
        obtain ⟨as, r1⟩ := Dp.reads I a x v ((va.at sm).dp h1) rx
        obtain ⟨bs, r2⟩ := Dp.reads I (.tuple ys) y u ((vb.at sm).dp (by simpa [PyData.canLay0] using h3)) ry
        exact SeqAt.notIn_tuple_reads r2 r1 h3 h1 (by omega) ⟨.bl _, H, I, rfl, bl_out sm q⟩
      · cases e
    | dict ys =>
      have e : (if isKey a then some (PyData.bool (!hasK ys a)) else none) = some d := by cases a <;> exact e
      split at e
      · rename_i hz
        cases e
        obtain ⟨k, rfl⟩ := isKey_kD hz
        obtain ⟨p, od, kvs, rfl, hp, dr⟩ := vb.dic sm
        have hx : x = kV k := V_kD (va.dr (still_kD k))
        subst hx
        cases ry
        have hs : (valV kvs k).isSome = hasK ys (kD k) := by
          unfold hasK
          rcases dr.look k with ⟨h1, h2⟩ | ⟨w, z, h1, h2, _⟩ <;> rw [h1, h2] <;> rfl
        refine d_notIn (by omega) I (.inl ⟨kvs, k, .inr ⟨od, hp⟩, rfl, rfl⟩) rx fun s' I' => ⟨.bl _, H, I', rfl, ?_⟩
        rw [hs]
        exact bl_out sm q
      · cases e
    | str z =>
      cases a with
      | str w =>
        simp only [cmpD] at e
        split at e
        · rename_i c hc
          cases e
          have hw : w = ⟨#[c]⟩ := by
            unfold strOne at hc
            split at hc
            · rename_i c' hl
              cases hc
              exact cps_inj hl
            · cases hc
          exact op_notIn_sign pins s σ H x y v u Q I rx ry ⟨c, z, by rw [va.str, hw], vb.str, bl_out sm q⟩
        · cases e
      | _ => cases e
    | _ => cases a <;> cases e

/-! ### truth -/
theorem tru_of {K : Fg} {G H : Hp} {v : V} {d : D} {k : Bool} (sm : Same G H) (h : View K none G H v d) (e : truD d = some k) : TruV K v H k := by
  cases d with
  | none => rw [h.non]; cases e; rfl
  | bool b => rw [h.bl]; cases e; rfl
  | int i => rw [h.int]; cases e; rfl
  | str z =>
    rw [h.str]
    simp only [truD] at e
    split at e
    · rename_i hz
      cases e
      exact ⟨lineOk_le hz, rfl⟩
    · cases e
  | list xs =>
    cases e
    obtain ⟨a, ys, rfl, r, ds⟩ := h.lst sm
    refine .inl ⟨ys, r, ?_⟩
    cases ds <;> rfl
  | tuple xs =>
    cases e
    obtain ⟨a, ys, rfl, r, ds⟩ := h.tup sm
    refine .inr (.inl ⟨ys, r, ?_⟩)
    cases ds <;> rfl
  | dict _ => cases e

/-! ### builtins -/
def biName : Bi → Str
  | .len => "len" | .list => "list" | .tuple => "tuple" | .int => "int" | .abs => "abs" | .sum => "sum" | .max => "max" | .min => "min" | .all => "all" | .any => "any" | .sorted => "sorted" | .dict => "dict"
def biVal : Bi → Value
  | .len => .builtin "len" | .list => .type "list" | .tuple => .type "tuple" | .int => .type "int" | .abs => .builtin "abs" | .sum => .builtin "sum" | .max => .builtin "max" | .min => .builtin "min" | .all => .builtin "all" | .any => .builtin "any" | .sorted => .builtin "sorted" | .dict => .type "dict"
theorem bi_boot (f : Bi) : bootBuiltins (biName f) = some (biVal f) := by cases f <;> decide +kernel
theorem sum_tup {prog : Program} {w : World} {A : Around} {E : Value → Shared → Prop} {s : Shared} {l : Addr} {its : List Value} {ns : List Int} {Q : Value → Shared → Prop} (hh : A.handled = none) (hl : s.heap.IsTuple l its.toArray) (hi : IntsAre its ns)
    (h : ∀ h' tk t', (∀ b o, s.heap.get? b = some o → h'.get? b = some o) → Q (.int ns.sum t') { s with heap := h', toks := tk }) : wpAny (model prog w) A (call (.builtin "sum") [.ref l]) Q E s := by
  obtain ⟨xs, e⟩ := hi.allInts.items
  have hn : numsOf (intItems xs).toList = ns := by rw [← e]; exact hi.numsOf
  rw [nums_intItems] at hn
  rw [e] at hl
  have hlt : l < s.heap.objs.size := by obtain ⟨o, ho, _⟩ := hl; exact Heap.lt_size ho
  refine call_sum_walkG (wpAny_pyIter_tuple hl ?_)
  refine ⟨_, _, _, _, _, _, numAt xs, rfl, Walks.tuple (A := A.in1) hh s.heap.objs.size l (Nat.ne_of_lt hlt) (intItems xs), ⟨⟨_, Heap.get?_push_size _ rfl, rfl, rfl⟩, hl.push _⟩, fun b hb => ?_, (fun _ _ => intItems_at), fun h' tk t' hk => ?_⟩
  · rw [Heap.size_push]
    rcases List.mem_cons.mp hb with e | e
    · subst e; exact Nat.lt_succ_self _
    · have e : b = l := by simpa using e
      subst e; exact Nat.lt_succ_of_lt hlt
  · have hs : (intItems xs).size = xs.size := by simp [intItems]
    rw [hs]
    have h2 := h h' tk t' fun b o q => hk b o (fun z => by
      have e : b = s.heap.objs.size := by simpa using z
      subst e
      exact absurd (Heap.lt_size q) (Nat.lt_irrefl _)) (Heap.get?_push_of_some _ q)
    rw [preSum_eq, List.take_of_length_le (by simp), hn]
    exact h2
theorem cr_sumT (hc : X.calm = true) : CallR X (.builtin "sum") (fun vs H Q => ∃ (a : Addr) (ns : List Int), vs = [V.ref a] ∧ SqT X.K H a (ns.map V.int) ∧ Q (.int ns.sum) H) := by
  intro pins s σ H vs us Q I r h
  obtain ⟨a, ns, rfl, hs, q⟩ := h
  obtain ⟨its, rv, hl, _⟩ := I.tuple hs
  rw [Vals.ref1 r]
  exact sum_tup (I.ok.hd hc) hl rv.ints fun h' tk t' hk => ⟨.int _, H, I.kept hk, ⟨_, rfl⟩, q⟩
end
end KN

set_option maxRecDepth 100000
set_option maxHeartbeats 1000000
namespace KN
open PySem PySem.SeqAt PySem.Calls L2 PyProof.Rows PySem.W
/-! ### rows of tuples, empty ones among them, can be sorted -/
section
variable {prog : Program} {w : World} {A : Around} {E : Value → Shared → Prop} {s : Shared}
theorem lt_tups {l b : Addr} {us zs : Array Value} {e r : Nat → Bool} {Q : Value → Shared → Prop} (hl : s.heap.IsTuple l us) (hb : s.heap.IsTuple b zs)
    (he : ∀ j (h1 : j < us.size) (h2 : j < zs.size), EqAt A.in1 s us[j] zs[j] (e j)) (hr : ∀ j (h1 : j < us.size) (h2 : j < zs.size), e j = false → RcLt A.in1 s us[j] zs[j] (r j))
    (h : Q (.bool (firstLt e r (decide (us.size < zs.size)) (List.range (min us.size zs.size)))) s) : wpAny (model prog w) A (call (.builtin "tuple.__lt__") [.ref l, .ref b]) Q E s := by
  obtain ⟨⟨c1, d1, t1, s1⟩, o1, hc, n, hd⟩ := id hl
  obtain ⟨⟨c2, d2, t2, s2⟩, o2, hc2, n2, hd2⟩ := id hb
  simp only at hc hd hc2 hd2
  subst hc hd hc2 hd2
  exact call_meets PySem.F.slot_tuple_lt ⟨_, o1, rfl⟩ PySem.F.entry_tuple_lt (PySem.F.args_tuple_lt_2 _ _) (tuple_ltAt l b us zs n n2 d1 d2 s1 s2 e r) ⟨o1, o2, he, hr, h⟩
theorem one_tups {da db : PyData} {a b : Value} {as bs : List Addr} {Q : Bool → Shared → Prop} (ht : ∃ xs, da = .tuple xs) (ra : Reads s.heap a da as) (rb : Reads s.heap b db bs) (h : alike da db = true)
    (hu : A.units + min da.depth db.depth < cLine) (hq : Q (dataLt da db) s) : wpAny (model prog w) A (oneLt' true a b) Q E s := by
  obtain ⟨xs, rfl⟩ := ht
  cases db with
  | tuple ys =>
    have hal : alikeAll xs ys = true := by simpa [alike] using h
    cases ra with
    | @tuple l o vs n _ as₁ h1 h2 h3 h4 =>
      cases rb with
      | @tuple l' o' vs' n' _ bs₁ k1 k2 k3 k4 =>
        have n1 : vs.size = xs.length := by simpa using SeqAt.ReadsAll.length _ _ _ h4
        have n2 : vs'.size = ys.length := by simpa using SeqAt.ReadsAll.length _ _ _ k4
        rw [dataLt_tuple, ← firstLt_toks xs ys hal, ← n1, ← n2] at hq
        rw [oneLt'_eq]
        simp only [if_true]
        refine wpAny_bind (wpAny_cRoomFor (by omega) ?_)
        refine wpAny_bind (wpAny_callSpecialIfBound?_slot (T := "tuple") ⟨_, h1, h2⟩ PySem.F.slot_tuple_lt (lt_tups (e := pairEq xs ys) (r := fun j => dataLt (xs.getD j .none) (ys.getD j .none)) ⟨_, h1, h2, _, h3⟩ ⟨_, k1, k2, _, k3⟩ (fun j j1 j2 => ?_) (fun j j1 j2 hj => ?_) ?_))
        · have := eqAt_alikeAll xs ys A.in1 s vs.toList vs'.toList _ _ h4 k4 hal (SeqAt.room_in hu) j (by simpa using j1) (by simpa using j2)
          simpa using this
        · have := rcLt_alikeAll xs ys A.in1 s vs.toList vs'.toList _ _ h4 k4 hal (SeqAt.room_in hu) j (by simpa using j1) (by simpa using j2) hj
          simpa using this
        · exact wpAny_truthy_bool hq
  | _ => exact absurd h (by simp [alike])
def headOf : PyData → Option PyData
  | .tuple (x :: _) => some x
  | _ => none
theorem first_of {M : Model} {v : Value} {d : PyData} {as : List Addr} {Q : Option Value → Shared → Prop} (r : Reads s.heap v d as) (ht : ∃ xs, d = .tuple xs) (h : ∀ o, o.isSome = (headOf d).isSome → Q o s) : wpAny M A (firstOfTuple' v) Q E s := by
  obtain ⟨xs, rfl⟩ := ht
  rw [kas_first_eq]
  cases r with
  | @tuple l o vs n _ as₁ h1 h2 h3 h4 =>
    refine wpAny_bind ((looks_reads (M := M) (Reads.tuple h1 h2 h3 h4)).here ?_)
    rw [if_neg (by simp [dataType])]
    refine wpAny_bind (listItems_at h1 h3 (wpAny_pure (h _ ?_)))
    have n1 : vs.size = xs.length := by simpa using SeqAt.ReadsAll.length _ _ _ h4
    cases xs with
    | nil => rw [Array.getElem?_eq_none (by rw [n1]; exact Nat.zero_le _)]; rfl
    | cons x r => rw [Array.getElem?_eq_getElem (by rw [n1]; exact Nat.succ_pos _)]; rfl
theorem firsts_of {M : Model} : ∀ {vs : List Value} {ds : List PyData} {Q : List (Option Value) → Shared → Prop}, EachIs (fun v d => ∃ as, Reads s.heap v d as) vs ds → (∀ d ∈ ds, ∃ xs, d = .tuple xs) →
    (∀ os : List (Option Value), os.map (·.isSome) = ds.map (fun d => (headOf d).isSome) → Q os s) → wpAny M A (vs.mapM firstOfTuple') Q E s
  | _, _, Q, .nil, _, h => by
    rw [List.mapM_nil]
    exact wpAny_pure (h [] rfl)
  | _, _, Q, .cons (b := d) ⟨as, r⟩ t, ht, h => by
    rw [List.mapM_cons]
    refine wpAny_bind (first_of r (ht d List.mem_cons_self) fun o ho => wpAny_bind (firsts_of t (fun d hd => ht d (List.mem_cons_of_mem _ hd)) fun os hos => wpAny_pure (h _ ?_)))
    rw [List.map_cons, List.map_cons, ho, hos]
theorem types_of {M : Model} : ∀ {vs : List Value} {ds : List PyData} {Q : List Value → Shared → Prop}, EachIs (fun v d => ∃ as, Reads s.heap v d as) vs ds → (∀ d ∈ ds, ∃ xs, d = .tuple xs) →
    Q (vs.map fun _ => Value.type "tuple") s → wpAny M A (vs.mapM typeOf) Q E s
  | _, _, Q, .nil, _, h => by
    rw [List.mapM_nil]
    exact wpAny_pure h
  | _, _, Q, .cons (b := d) ⟨as, r⟩ t, ht, h => by
    rw [List.mapM_cons]
    obtain ⟨xs, rfl⟩ := ht _ List.mem_cons_self
    exact wpAny_bind ((looks_reads (M := M) r).here (wpAny_bind (types_of (Q := fun bs s' => wpAny M A (pure (_ :: bs)) Q E s') t (fun d hd => ht d (List.mem_cons_of_mem _ hd)) (wpAny_pure h))))
/-- tuples, one of them empty at least -/
theorem sorts_mixed {vs : List Value} {ds : List PyData} (e : EachIs (fun v d => ∃ as, Reads s.heap v d as) vs ds) (hal : AllAlike ds) (ht : ∀ d ∈ ds, ∃ xs, d = .tuple xs) (hm : PyData.tuple [] ∈ ds) (hu : ∀ d, d ∈ ds → A.units + d.depth < cLine) :
    SortsAt prog w A s (dataKind s.heap ds) vs := by
  have room : ∀ {d d' : PyData}, d ∈ ds → A.units + min d.depth d'.depth < cLine := fun {d d'} hd => Nat.lt_of_le_of_lt (Nat.add_le_add_left (Nat.min_le_left _ _) _) (hu d hd)
  refine ⟨fun v hv => ?_, ?_⟩
  · obtain ⟨d, hd, as, r⟩ := e.left v hv
    exact ⟨_, dataKind_some hal hd r⟩
  · have hfst : ∀ os : List (Option Value), os.map (·.isSome) = ds.map (fun d => (headOf d).isSome) → (os.toArray.all (·.isSome)) = false := fun os ho => by
      rw [List.all_toArray]
      cases q : os.all (·.isSome) with
      | false => rfl
      | true =>
        have h1 : (ds.map (fun d => (headOf d).isSome)).all id = true := by
          rw [← ho, List.all_map]
          exact q
        have := List.all_eq_true.mp h1 _ (List.mem_map.mpr ⟨_, hm, rfl⟩)
        simp [headOf] at this
    have kindOf : ∀ (kd : SortKind), (∀ os : List (Option Value), os.map (·.isSome) = ds.map (fun d => (headOf d).isSome) → ((os.toArray[0]?.bind id).isSome = true ∧ kd = general') ∨ ((os.toArray[0]?.bind id).isSome = false ∧ kd = oneType')) → 2 ≤ vs.length →
        ∀ (E : Value → Shared → Prop) {Q : SortKind → Shared → Prop}, Q kd s → wpAny (model prog w) A (keyKind' vs.toArray) Q E s := fun kd hk h2 E Q hq => by
      rw [kat_kind_eq, List.mapM_toArray, map_eq_pure_bind]
      refine wpAny_bind (wpAny_bind (firsts_of e ht fun os ho => wpAny_pure ?_))
      rw [if_neg (by rw [hfst os ho]; simp)]
      rcases hk os ho with ⟨h1, rfl⟩ | ⟨h1, rfl⟩
      · rw [if_pos h1]
        exact wpAny_pure hq
      · rw [if_neg (by rw [h1]; simp)]
        rw [oneTypeOnly'_eq, List.mapM_toArray, map_eq_pure_bind]
        refine wpAny_bind (wpAny_bind (wpAny_bind (types_of e ht (wpAny_pure ?_))))
        obtain ⟨v₁, rest, rfl⟩ : ∃ v₁ rest, vs = v₁ :: rest := by
          cases vs with
          | nil => simp at h2
          | cons a b => exact ⟨a, b, rfl⟩
        have hall : ((List.map (fun _ => Value.type "tuple") (v₁ :: rest)).toArray.all fun x => x == Value.type "tuple") = true := by
          simp only [List.all_toArray, List.all_map, List.all_eq_true]
          intro _ _
          rfl
        have h0 : (List.map (fun _ => Value.type "tuple") (v₁ :: rest)).toArray[0]? = some (Value.type "tuple") := by simp
        rw [h0]
        simp only [hall, if_true]
        exact wpAny_pure (wpAny_pure hq)
    cases ds with
    | nil => cases hm
    | cons d₀ ds₀ =>
      obtain ⟨x₀, e₀⟩ := ht d₀ List.mem_cons_self
      cases x₀ with
      | nil =>
        refine ⟨oneType', ?_, kindOf _ fun os ho => .inr ⟨?_, rfl⟩⟩
        · intro E x y a b Q ha hb hq
          obtain ⟨d, as, hd, ra, rfl⟩ := dataKind_inv ha
          obtain ⟨d', as', hd', rb, rfl⟩ := dataKind_inv hb
          rw [keyLt'_oneType]
          exact one_tups (ht d hd) ra rb (hal d hd d' hd') (room hd) hq
        · cases os with
          | nil => rfl
          | cons o r =>
            rw [List.map_cons, List.map_cons] at ho
            have := (List.cons.inj ho).1
            rw [e₀] at this
            cases o with
            | none => rfl
            | some _ => simp [headOf] at this
      | cons x r₀ =>
        refine ⟨general', ?_, kindOf _ fun os ho => .inl ⟨?_, rfl⟩⟩
        · intro E x y a b Q ha hb hq
          obtain ⟨d, as, hd, ra, rfl⟩ := dataKind_inv ha
          obtain ⟨d', as', hd', rb, rfl⟩ := dataKind_inv hb
          show wpAny (model prog w) A (oneLt' false x y) Q E s
          refine oneLt_alike (fun z => nomatch z) ra rb (hal d hd d' hd') ?_ (room hd) hq
          obtain ⟨xs, rfl⟩ := ht d hd
          exact fun z => nomatch z
        · cases os with
          | nil => cases ho
          | cons o r =>
            rw [List.map_cons, List.map_cons] at ho
            have := (List.cons.inj ho).1
            rw [e₀] at this
            cases o with
            | none => simp [headOf] at this
            | some _ => rfl
/-- all that the check of alike rows lets through -/
theorem sorts_ok {vs : List Value} {ds : List PyData} (e : EachIs (fun v d => ∃ as, Reads s.heap v d as) vs ds) (h : allAlike ds = true) (hu : A.units + 60 < cLine) : SortsAt prog w A s (dataKind s.heap ds) vs := by
  have h' : ∀ d ∈ ds, ordD d = true ∧ d.depth ≤ 40 ∧ ∀ d' ∈ ds, alike d d' = true := fun d hd => by
    have := List.all_eq_true.mp h d hd
    simp only [Bool.and_eq_true, decide_eq_true_eq, List.all_eq_true] at this
    exact ⟨this.1.1, this.1.2.2, this.2⟩
  have hal : AllAlike ds := fun d hd d' hd' => (h' d hd).2.2 d' hd'
  have hr : ∀ d, d ∈ ds → A.units + d.depth < cLine := fun d hd => by have := (h' d hd).2.1; omega
  by_cases hm : PyData.tuple [] ∈ ds
  · refine sorts_mixed e hal (fun d hd => ?_) hm hr
    have := hal _ hm d hd
    cases d <;> first | exact ⟨_, rfl⟩ | simp [alike] at this
  · refine SortsAt.data e hal ?_ hr
    by_cases ht : ∃ xs, PyData.tuple xs ∈ ds
    · obtain ⟨xs, hx⟩ := ht
      refine .inl fun d hd => ?_
      have := hal _ hx d hd
      cases d with
      | tuple ys =>
        cases ys with
        | nil => exact absurd hd hm
        | cons y r => exact ⟨y, r, rfl⟩
      | _ => simp [alike] at this
    · refine .inr fun d hd => ⟨fun z => ?_, fun xs z => ht ⟨xs, z ▸ hd⟩⟩
      have := (h' d hd).1
      rw [z] at this
      cases this
end
/-! ### the sorted row is sortD's -/
theorem ord_trans {a b c : PyData} (h1 : dataLt a b = true) (h2 : dataLt b c = true) : dataLt a c = true := lex_trans _ _ _ h1 h2
theorem insD_perm (x : D) : ∀ l, (insD x l).Perm (x :: l)
  | [] => List.Perm.refl _
  | y :: r => by
    unfold insD
    split
    · exact ((insD_perm x r).cons y).trans (List.Perm.swap x y r)
    · exact List.Perm.refl _
theorem sortD_perm : ∀ l, (sortD l).Perm l
  | [] => List.Perm.refl _
  | x :: r => (insD_perm x (sortD r)).trans ((sortD_perm r).cons x)
def nlt (a b : D) : Prop := dataLt b a = false
theorem nlt_trans {a b c : D} (h1 : nlt a b) (h2 : nlt b c) : nlt a c := by
  unfold nlt at *
  cases q : dataLt c a with
  | false => rfl
  | true =>
    rcases lex_negTrans _ (keyToks b) _ q with z | z
    · exact absurd z (by rw [show PyProof.Rows.lexLt itemOrd (keyToks c) (keyToks b) = dataLt c b from rfl, h2]; simp)
    · exact absurd z (by rw [show PyProof.Rows.lexLt itemOrd (keyToks b) (keyToks a) = dataLt b a from rfl, h1]; simp)
theorem nlt_of {a b : D} (h : dataLt a b = true) : nlt a b := by
  unfold nlt
  cases q : dataLt b a with
  | false => rfl
  | true => exact absurd (ord_trans h q) (by rw [show dataLt a a = false from lex_irrefl _]; simp)
theorem insD_sorted (x : D) : ∀ l : List D, l.Pairwise nlt → (insD x l).Pairwise nlt
  | [], _ => List.pairwise_singleton _ _
  | y :: r, h => by
    obtain ⟨h1, h2⟩ := List.pairwise_cons.mp h
    unfold insD
    split
    · rename_i hy
      refine List.pairwise_cons.mpr ⟨fun z hz => ?_, insD_sorted x r h2⟩
      rcases List.mem_cons.mp ((insD_perm x r).mem_iff.mp hz) with e | e
      · rw [e]; exact nlt_of hy
      · exact h1 z e
    · rename_i hy
      have hxy : nlt x y := by
        unfold nlt
        cases q : dataLt y x with
        | false => rfl
        | true => exact absurd q hy
      refine List.pairwise_cons.mpr ⟨fun z hz => ?_, h⟩
      rcases List.mem_cons.mp hz with e | e
      · rw [e]; exact hxy
      · exact nlt_trans hxy (h1 z e)
theorem sortD_sorted : ∀ l, (sortD l).Pairwise nlt
  | [] => List.Pairwise.nil
  | x :: r => insD_sorted x _ (sortD_sorted r)
mutual
/-- alike data with the same signs are the same -/
theorem toks_inj : ∀ {a b : D}, alike a b = true → ∀ {r q}, keyToks a ++ r = keyToks b ++ q → a = b ∧ r = q
  | .none, b, h, r, q, e => by
    cases b <;> first | (simp [alike] at h; done) | exact ⟨rfl, by simpa [keyToks] using e⟩
  | .bool x, b, h, r, q, e => by
    cases b with
    | bool y => cases x <;> cases y <;> simp [keyToks] at e <;> exact ⟨rfl, e⟩
    | _ => simp [alike] at h
  | .int x, b, h, r, q, e => by
    cases b with
    | int y => simp [keyToks] at e; exact ⟨by rw [e.1], e.2⟩
    | _ => simp [alike] at h
  | .str x, b, h, r, q, e => by
    cases b with
    | str y => simp [keyToks] at e; exact ⟨by cases x; cases y; simp_all, e.2⟩
    | _ => simp [alike] at h
  | .list xs, b, h, r, q, e => by
    cases b with
    | list ys =>
      have := toksAll_inj (xs := xs) (ys := ys) (by simpa [alike] using h) (by simpa [keyToks] using e)
      exact ⟨by rw [this.1], this.2⟩
    | _ => simp [alike] at h
  | .tuple xs, b, h, r, q, e => by
    cases b with
    | tuple ys =>
      have := toksAll_inj (xs := xs) (ys := ys) (by simpa [alike] using h) (by simpa [keyToks] using e)
      exact ⟨by rw [this.1], this.2⟩
    | _ => simp [alike] at h
  | .dict _, b, h, r, q, e => by cases b <;> simp [alike] at h
theorem toksAll_inj : ∀ {xs ys : List D}, alikeAll xs ys = true → ∀ {r q}, keyToksAll xs ++ r = keyToksAll ys ++ q → xs = ys ∧ r = q
  | [], [], _, r, q, e => by simpa [keyToksAll] using e
  | [], y :: ys, _, r, q, e => by simp [keyToksAll] at e
  | x :: xs, [], _, r, q, e => by simp [keyToksAll] at e
  | x :: xs, y :: ys, h, r, q, e => by
    simp only [alikeAll, Bool.and_eq_true] at h
    simp only [keyToksAll, List.cons_append, List.append_assoc, List.cons.injEq, true_and] at e
    obtain ⟨h1, h2⟩ := toks_inj h.1 e
    obtain ⟨h3, h4⟩ := toksAll_inj h.2 h2
    exact ⟨by rw [h1, h3], h4⟩
end
theorem nlt_anti {a b : D} (h : alike a b = true) (h1 : nlt a b) (h2 : nlt b a) : a = b := by
  have e : keyToks a = keyToks b := lex_total _ _ h2 h1
  exact (toks_inj h (r := []) (q := []) (by rw [e])).1
theorem perm_sorted_on {α : Type} {le : α → α → Prop} : ∀ {l m : List α}, (∀ a ∈ l, ∀ b ∈ l, le a b → le b a → a = b) → (∀ a, le a a) → l.Perm m → l.Pairwise le → m.Pairwise le → l = m
  | [], m, _, _, p, _, _ => (List.Perm.nil_eq p)
  | a :: r, [], _, _, p, _, _ => absurd p.length_eq (by simp)
  | a :: r, b :: q, anti, rf, p, h1, h2 => by
    have m1 : a ∈ b :: q := p.subset List.mem_cons_self
    have m2 : b ∈ a :: r := p.symm.subset List.mem_cons_self
    have l1 : le b a := by
      rcases List.mem_cons.mp m1 with z | z
      · rw [z]; exact rf _
      · exact List.rel_of_pairwise_cons h2 z
    have l2 : le a b := by
      rcases List.mem_cons.mp m2 with z | z
      · rw [z]; exact rf _
      · exact List.rel_of_pairwise_cons h1 z
    have hab : a = b := anti a List.mem_cons_self b m2 l2 l1
    subst hab
    rw [perm_sorted_on (fun x hx y hy => anti x (List.mem_cons_of_mem _ hx) y (List.mem_cons_of_mem _ hy)) rf (List.Perm.cons_inv p) (List.pairwise_cons.mp h1).2 (List.pairwise_cons.mp h2).2]
theorem nlt_refl (a : D) : nlt a a := lex_irrefl _
theorem sortD_uniq {l m : List D} (hal : ∀ a ∈ l, ∀ b ∈ l, alike a b = true) (p : m.Perm l) (h : m.Pairwise nlt) : m = sortD l :=
  perm_sorted_on (fun a ha b hb h1 h2 => nlt_anti (hal a (p.mem_iff.mp ha) b (p.mem_iff.mp hb)) h1 h2) nlt_refl (p.trans (sortD_perm l).symm) h (sortD_sorted l)
theorem merge_eq {l : List D} (hal : ∀ a ∈ l, ∀ b ∈ l, alike a b = true) : l.mergeSort (dataLe false fun d => d) = sortD l := by
  have le : ∀ a b, dataLe false (fun d : D => d) a b = !dataLt b a := fun a b => rfl
  refine sortD_uniq hal (List.mergeSort_perm _ _) ?_
  have := List.pairwise_mergeSort (le := dataLe false fun d : D => d) (fun a b c h1 h2 => ?_) (fun a b => ?_) l
  · refine this.imp fun {a b} h => ?_
    rw [le] at h
    unfold nlt
    simpa using h
  · rw [le] at *
    have := nlt_trans (a := a) (b := b) (c := c) (by unfold nlt; simpa using h1) (by unfold nlt; simpa using h2)
    unfold nlt at this
    rw [this]; rfl
  · rw [le, le]
    cases q : dataLt b a with
    | false => rfl
    | true =>
      have := nlt_of q
      unfold nlt at this
      rw [this]; rfl
end KN

set_option maxRecDepth 100000
set_option maxHeartbeats 1000000
namespace KN
open PySem PySem.SeqAt PySem.Calls L2 PyProof.Rows PySem.W
section
variable {prog : Program} {w : World} {A : Around} {E : Value → Shared → Prop} {s : Shared}
/-- sorted(x), by what the collecting of x gives -/
theorem sorted_gen {x : Value} {vs : List Value} {ds : List D} {R : Value → D → Prop} {Q : Value → Shared → Prop} (ha : argsOk "sorted" ⟨[x], []⟩)
    (hcol : ∀ (Q' : List Value → Shared → Prop) (E' : Value → Shared → Prop), (∀ h' tk, s.heap.objs.size ≤ h'.objs.size → (∀ b o, s.heap.get? b = some o → h'.get? b = some o) → Q' vs { s with heap := h', toks := tk }) → wpAny (model prog w) A.in1 (collect x) Q' E' s)
    (e : EachIs R vs ds) (er : EachIs (fun v d => ∃ as, Reads s.heap v d as) vs ds) (hal : allAlike ds = true) (hL : ds.length ≤ sizeLine) (hu : A.units + 62 < cLine)
    (h : ∀ (p : Addr) (out : List Value) (h' : Heap) (tk c : Nat), s.heap.objs.size ≤ p → (∀ b o, s.heap.get? b = some o → h'.get? b = some o) → h'.get? p = some (seqObj "list" out.toArray c) → EachIs R out (sortD ds) → out.length = ds.length → Q (.ref p) { s with heap := h', toks := tk }) :
    wpAny (model prog w) A (call (.builtin "sorted") [x]) Q E s := by
  have em : ds.map (fun d : D => d) = ds := List.map_id' ds
  have h2 : ∀ d ∈ ds, ∀ d' ∈ ds, alike d d' = true := fun d hd d' hd' => by
    have := List.all_eq_true.mp hal d hd
    simp only [Bool.and_eq_true, List.all_eq_true] at this
    exact this.2 d' hd'
  have hlen : vs.length = ds.length := e.length
  refine call_function_entry_kw kind_sorted plain_sorted entry_sorted ha ?_
  unfold Builtin.«sorted»
  refine wpAny_bind (m := checkCount "sorted" 1 1 _) (wpAny_pure ?_)
  refine wpAny_bind (hcol _ _ fun h1 tk hge kp => ?_)
  refine wpAny_bind (wpAny_newList ?_ (by rw [hlen]; exact hL))
  have hoL : (h1.push (seqObj "list" vs.toArray 0)).get? h1.objs.size = some (seqObj "list" vs.toArray 0) := Heap.get?_push_size _ rfl
  have keep : ∀ b o, s.heap.get? b = some o → b ≠ h1.objs.size ∧ (h1.push (seqObj "list" vs.toArray 0)).get? b = some o := fun b o q =>
    ⟨Nat.ne_of_lt (Heap.lt_size (kp b o q)), Heap.get?_push_of_some _ (kp b o q)⟩
  have er' : EachIs (fun v d => ∃ as, Reads (sortingHeap (h1.push (seqObj "list" vs.toArray 0)) h1.objs.size vs) v d as) vs ds :=
    er.mono fun _ _ ⟨as, r⟩ => ⟨as, PyProof.Rows.Reads.keeps (fun b o q => sortingHeap_old (keep b o q).1 (keep b o q).2) r⟩
  refine wpAny_bind (wpAny_holding (wpAny_call_entry_kw slot_list_sort ⟨_, hoL, rfl⟩ entry_list_sort ?body (args_list_sort _)))
  have S : SortsAt prog w A.in1.in1 { ({ s with heap := h1.push (seqObj "list" vs.toArray 0), toks := tk } : Shared) with heap := sortingHeap (h1.push (seqObj "list" vs.toArray 0)) h1.objs.size vs } (dataKind (sortingHeap (h1.push (seqObj "list" vs.toArray 0)) h1.objs.size vs) ds) vs :=
    sorts_ok er' hal (show A.units + 1 + 1 + 60 < cLine by omega)
  refine list_sort_vals (s := { s with heap := h1.push (seqObj "list" vs.toArray 0), toks := tk }) hoL S (by rw [hlen]; exact hL) ?_
  refine ⟨_, rfl, wpAny_pure ⟨_, rfl, ?_⟩⟩
  obtain ⟨c, hat⟩ := sortedHeap_at (out := (sortVals (dataKind (sortingHeap (h1.push (seqObj "list" vs.toArray 0)) h1.objs.size vs) ds) false vs vs).toArray) hoL
  have sv := sortVals_data (enc := fun d : D => d) false e er' (by rw [em]; exact h2)
  rw [em, merge_eq h2] at sv
  refine h h1.objs.size _ _ tk c hge (fun b o q => ?_) hat sv ?_
  · rw [sortedHeap_old (keep b o q).1 (Heap.lt_size (keep b o q).2)]
    exact (keep b o q).2
  · rw [sortVals_length false rfl]; exact hlen
/-- a list, a tuple collected -/
theorem collect_two {l : Addr} {vs : List Value} {Q : List Value → Shared → Prop} (hl : s.heap.IsList l vs.toArray ∨ s.heap.IsTuple l vs.toArray)
    (h : ∀ h' tk, s.heap.objs.size ≤ h'.objs.size → (∀ b o, s.heap.get? b = some o → h'.get? b = some o) → Q vs { s with heap := h', toks := tk }) (hsz : vs.length ≤ sizeLine) : wpAny (model prog w) A (collect (.ref l)) Q E s := by
  have fin : Q vs { s with heap := (s.heap.push (seqObj "list" #[] 0)).update s.heap.objs.size (Obj.mapSeq (· ++ vs.toArray)) } := by
    refine h _ s.toks (by rw [Heap.size_update, Heap.size_push]; exact Nat.le_succ _) fun b o e => ?_
    rw [Heap.get?_update_ne _ _ _ _ (Nat.ne_of_lt (Heap.lt_size e))]
    exact Heap.get?_push_of_some _ e
  rcases hl with hl | hl
  · exact collect_list hl fin hsz
  · obtain ⟨o, ho, hc, n, hd⟩ := id hl
    have at1 : (s.heap.push (seqObj "list" #[] 0)).get? l = some o := Heap.get?_push_of_some _ ho
    have at2 : (s.heap.push (seqObj "list" #[] 0)).get? s.heap.objs.size = some (seqObj "list" #[] 0) := Heap.get?_push_size _ rfl
    unfold collect
    refine wpAny_bind (wpAny_runValue (codeAny_builtin entry_proto_collect' ?_))
    show wpAny _ _ (newList [] >>= fun a => again (.builtin "list.__iadd__" ⟨[a, .ref l], []⟩)) _ _ s
    refine wpAny_bind (wpAny_newList (wpAny_pure ⟨Code.quiet_builtin _ (by decide +kernel), codeAny_builtin entry_list_iadd' ?_⟩))
    show wpAny _ _ (Builtin.List.listExtendWith (.ref s.heap.objs.size) (.ref l) (.ref s.heap.objs.size)) _ _ _
    unfold Builtin.List.listExtendWith
    refine wpAny_bind (wpAny_typeOf (T := "tuple") ⟨o, at1, hc⟩ ?_)
    rw [if_pos (by rw [show (Value.type "tuple" == Value.type "tuple") = true from rfl]; simp)]
    refine wpAny_bind (listItems_at at1 hd (wpAny_bind (listItems_at (xs := #[]) (n := 0) at2 rfl ?_)))
    rw [if_neg (by simp)]
    refine wpAny_bind (listUpdate_at (xs := #[]) (n := 0) at2 rfl ?_ (Nat.zero_le _) ?_)
    · refine wpAny_pure ?_
      refine wpAny_bind (wpAny_load (get?_update_seq at2 _) ?_)
      show wpAny _ _ (pure ((#[] : Array Value) ++ vs.toArray).toList) Q E _
      rw [show ((#[] : Array Value) ++ vs.toArray).toList = vs by simp]
      exact wpAny_pure fin
    · show (#[] ++ vs.toArray).size ≤ sizeLine + 1
      simp only [Array.size_append, List.size_toArray, List.length_nil]
      omega
end
/-! ### over the layer -/
theorem each_of {K : Fg} {G : Hp} : ∀ {xs : List V} {ds : List D} {us : List Value}, DRs K G xs ds → Vals xs us → EachIs (fun u d => ∃ x, RelV x u ∧ DR K G x d) us ds
  | _, _, _, .nil, .nil => .nil
  | _, _, _, .cons h r, .cons q t => .cons ⟨_, q, h⟩ (each_of r t)
theorem of_each {K : Fg} {G : Hp} : ∀ {us : List Value} {ds : List D}, EachIs (fun u d => ∃ x, RelV x u ∧ DR K G x d) us ds → ∃ xs, Vals xs us ∧ DRs K G xs ds
  | _, _, .nil => ⟨[], .nil, .nil⟩
  | _, _, .cons ⟨x, h1, h2⟩ r => by
    obtain ⟨xs, h3, h4⟩ := of_each r
    exact ⟨x :: xs, .cons h1 h3, .cons h2 h4⟩
theorem each_reads {h : Heap} : ∀ {us : List Value} {ds : List D} {as : List Addr}, ReadsAll h us ds as → EachIs (fun v d => ∃ as, Reads h v d as) us ds
  | _, _, _, .nil => .nil
  | _, _, _, .cons h r => .cons ⟨_, h⟩ (each_reads r)
theorem lay_all : ∀ {xs : List D}, (∀ x ∈ xs, x.canLay0 = true ∧ x.depth ≤ 40) → PyData.canLayAll0 xs = true ∧ PyData.depthAll xs ≤ 40
  | [], _ => ⟨rfl, Nat.zero_le _⟩
  | x :: r, h => by
    obtain ⟨i1, i2⟩ := lay_all (xs := r) fun y hy => h y (List.mem_cons_of_mem _ hy)
    have := h x List.mem_cons_self
    refine ⟨by simp [PyData.canLayAll0, this.1, i1], ?_⟩
    simp only [PyData.depthAll]
    omega
theorem alike_lay {xs : List D} (h : allAlike xs = true) : PyData.canLayAll0 xs = true ∧ PyData.depthAll xs ≤ 40 := lay_all fun x hx => by
  have := List.all_eq_true.mp h x hx
  simp only [Bool.and_eq_true, decide_eq_true_eq] at this
  exact this.1.2
theorem readsAll_get {h : Heap} : ∀ {us : List Value} {ds : List D} {as : List Addr} {i : Nat} {v : Value}, PyData.canLayAll0 ds = true → ReadsAll h us ds as → us[i]? = some v → ∃ d as', ds[i]? = some d ∧ d.canLay0 = true ∧ Reads h v d as'
  | _, _, _, i, _, _, .nil, e => by simp at e
  | _, _, _, 0, v, c, .cons h1 h2, e => by
    simp only [PyData.canLayAll0, Bool.and_eq_true] at c
    simp at e
    subst e
    exact ⟨_, _, rfl, c.1, h1⟩
  | _, _, _, i + 1, v, c, .cons h1 h2, e => by
    simp only [PyData.canLayAll0, Bool.and_eq_true] at c
    obtain ⟨d, as, h3, h4⟩ := readsAll_get (i := i) c.2 h2 (by simpa using e)
    exact ⟨d, as, by simpa using h3, h4⟩
section
variable {X : Cx}
theorem sort_out {pins : List (Addr × Obj)} {σ : L2.St} {H G : Hp} {s : Shared} {u : Value} {xs : List V} {us : List Value} {ds : List D} {Q : VK} (I : L2.Inv X pins σ H s) (hu : X.A.units + 64 < cLine) (sm : Same G H) (dr : DRs X.K G xs ds) (rv : Vals xs us) (hal : allAlike ds = true) (hz : xs.length ≤ sizeLine) (ha : argsOk "sorted" ⟨[u], []⟩)
    (hcol : ∀ (Q' : List Value → Shared → Prop) (E' : Value → Shared → Prop), (∀ h' tk, s.heap.objs.size ≤ h'.objs.size → (∀ b o, s.heap.get? b = some o → h'.get? b = some o) → Q' us { s with heap := h', toks := tk }) → wpAny (model X.prog X.w) X.A.in1 (collect u) Q' E' s)
    (q : ∀ ys p, DRs X.K G ys (sortD ds) → H p = none → Q (.ref p) (upd H p (.lst ys))) : wpAny (model X.prog X.w) X.A (call (.builtin "sorted") [u]) (EP X pins σ Q) X.xe s := by
  obtain ⟨lay, _⟩ := alike_lay hal
  obtain ⟨as, rd⟩ := Dp.readsAll I ds xs us ((dr.same sm).dp lay) rv
  have dl := dr.length
  refine sorted_gen (R := fun u d => ∃ x, RelV x u ∧ DR X.K G x d) ha hcol (each_of dr rv) (each_reads rd) hal (by omega) (by omega) fun p out h' tk c hp kp hat ev hl => ?_
  obtain ⟨ys, h1, h2⟩ := of_each ev
  have hn : H p = none := I.hok.fresh hp
  have hly : ys.length ≤ sizeLine := by rw [h1.length, hl]; omega
  exact ⟨.ref p, _, I.laid kp hp (show ObjOk X.prog X.w _ h' p (.lst ys) from ⟨hly, out, c, h1, hat⟩), rfl, q ys p h2 hn⟩
theorem cr_sortD (hu : X.A.units + 64 < cLine) : CallR X (.builtin "sorted") (fun vs H Q => ∃ (a : Addr) (xs : List V) (G : Hp) (ds : List D), vs = [V.ref a] ∧ (SqL X.K H a xs ∨ SqT X.K H a xs) ∧ Same G H ∧ DRs X.K G xs ds ∧ allAlike ds = true ∧
    ∀ ys p, DRs X.K G ys (sortD ds) → H p = none → Q (.ref p) (upd H p (.lst ys))) := by
  intro pins s σ H vs us Q I r h
  obtain ⟨a, xs, G, ds, rfl, hs, sm, dr, hal, q⟩ := h
  rw [Vals.ref1 r]
  rcases hs with hs | hs
  · obtain ⟨its, rv, pl, hz⟩ := I.list hs
    exact sort_out I hu sm dr rv hal hz (args_sorted1 _) (fun Q' E' f => collect_two (.inl pl.isList) f (by rw [← rv.length]; exact hz)) q
  · obtain ⟨its, rv, pl, hz⟩ := I.tuple hs
    exact sort_out I hu sm dr rv hal hz (args_sorted1 _) (fun Q' E' f => collect_two (.inr pl) f (by rw [← rv.length]; exact hz)) q
/-! ### the least, the greatest -/
theorem minD_eq (x : D) : ∀ xs, KN.minD x xs = PySem.W.minD x xs := fun xs => by
  induction xs generalizing x with
  | nil => rfl
  | cons y r ih => exact ih _
theorem maxD_eq (x : D) : ∀ xs, KN.maxD x xs = PySem.W.maxD x xs := fun xs => by
  induction xs generalizing x with
  | nil => rfl
  | cons y r ih => exact ih _
theorem alike_all {xs : List D} (h : allAlike xs = true) : AlikeAll xs := by
  have h : ∀ x ∈ xs, ordD x = true ∧ ∀ y ∈ xs, alike x y = true := fun x hx => by
    have := List.all_eq_true.mp h x hx
    simp only [Bool.and_eq_true, List.all_eq_true] at this
    exact ⟨this.1.1, this.2⟩
  exact ⟨fun x hx y hy => (h x hx).2 y hy, fun x hx z => by have := (h x hx).1; rw [z] at this; cases this⟩
mutual
/-- a value reads as one datum (no dicts) -/
theorem reads_uniq {h : Heap} : ∀ {d e : D} {v : Value} {as bs : List Addr}, d.canLay0 = true → Reads h v d as → Reads h v e bs → d = e
  | .none, e, _, _, _, _, r, q => by cases r; cases q; rfl
  | .bool _, e, _, _, _, _, r, q => by cases r; cases q; rfl
  | .int _, e, _, _, _, _, r, q => by cases r; cases q; rfl
  | .str _, e, _, _, _, _, r, q => by cases r; cases q; rfl
  | .list xs, e, _, _, _, c, r, q => by
    cases r with
    | list h1 h2 h3 h4 =>
      cases q with
      | list k1 k2 k3 k4 =>
        rw [h1] at k1; cases k1
        rw [h3] at k3; cases k3
        rw [readsAll_uniq (by simpa [PyData.canLay0] using c) h4 k4]
      | tuple k1 k2 k3 k4 =>
        rw [h1] at k1; cases k1
        rw [h2] at k2; exact absurd (Value.type.inj k2) (by decide)
      | dict k1 k2 k3 k4 =>
        rw [h1] at k1; cases k1
        rw [h2] at k2; exact absurd (Value.type.inj k2) (by decide)
  | .tuple xs, e, _, _, _, c, r, q => by
    cases r with
    | tuple h1 h2 h3 h4 =>
      cases q with
      | tuple k1 k2 k3 k4 =>
        rw [h1] at k1; cases k1
        rw [h3] at k3; cases k3
        rw [readsAll_uniq (by simpa [PyData.canLay0] using c) h4 k4]
      | list k1 k2 k3 k4 =>
        rw [h1] at k1; cases k1
        rw [h2] at k2; exact absurd (Value.type.inj k2) (by decide)
      | dict k1 k2 k3 k4 =>
        rw [h1] at k1; cases k1
        rw [h2] at k2; exact absurd (Value.type.inj k2) (by decide)
  | .dict _, e, _, _, _, c, r, q => by simp [PyData.canLay0] at c
theorem readsAll_uniq {h : Heap} : ∀ {d e : List D} {v : List Value} {as bs : List Addr}, PyData.canLayAll0 d = true → ReadsAll h v d as → ReadsAll h v e bs → d = e
  | [], e, _, _, _, _, r, q => by cases r; cases q; rfl
  | x :: xs, e, _, _, _, c, r, q => by
    simp only [PyData.canLayAll0, Bool.and_eq_true] at c
    cases r with
    | cons h1 h2 =>
      cases q with
      | cons k1 k2 => rw [reads_uniq c.1 h1 k1, readsAll_uniq c.2 h2 k2]
end
theorem pick_out {pins : List (Addr × Obj)} {σ : L2.St} {H G : Hp} {s : Shared} {xs : List V} {us : List Value} {ds : List D} {Q : VK} {m : D} (I : L2.Inv X pins σ H s) (sm : Same G H) (dr : DRs X.K G xs ds) (rv : Vals xs us) (lay : PyData.canLayAll0 ds = true) (rd : ∃ as, ReadsAll s.heap us ds as)
    (q : ∀ v, DR X.K G v m → Q v H) : ∀ (i : Nat) v h' tk bs, us.toArray[i]? = some v → Reads h' v m bs → (∀ b o, s.heap.get? b = some o → h'.get? b = some o) → EP X pins σ Q v { s with heap := h', toks := tk } := by
  intro i v h' tk bs hi hr kp
  obtain ⟨as, rd⟩ := rd
  have hi' : us[i]? = some v := by simpa using hi
  obtain ⟨d, as', hrd⟩ := readsAll_get lay rd hi'
  have e : d = m := reads_uniq hrd.2.1 (PyProof.Rows.Reads.keeps kp hrd.2.2) hr
  subst e
  obtain ⟨x, hx1, hx2⟩ := dr.get hrd.1
  obtain ⟨u', hu1, hu2⟩ := rv.get hx1
  rw [hi'] at hu1
  cases hu1
  exact ⟨x, H, I.kept kp, hu2, q x hx2⟩
theorem cr_minD (hc : X.calm = true) (hu : X.A.units + 64 < cLine) : CallR X (.builtin "min") (fun vs H Q => ∃ (a : Addr) (xs : List V) (G : Hp) (d : D) (ds : List D), vs = [V.ref a] ∧ (SqL X.K H a xs ∨ SqT X.K H a xs) ∧ Same G H ∧ DRs X.K G xs (d :: ds) ∧ allAlike (d :: ds) = true ∧
    ∀ v, DR X.K G v (KN.minD d ds) → Q v H) := by
  intro pins s σ H vs us Q I r h
  obtain ⟨a, xs, G, d, ds, rfl, hs, sm, dr, hal, q⟩ := h
  rw [Vals.ref1 r]
  rw [minD_eq] at q
  obtain ⟨lay, dep⟩ := alike_lay hal
  rcases hs with hs | hs
  · obtain ⟨its, rv, pl, hz⟩ := I.list hs
    obtain ⟨as, rd⟩ := Dp.readsAll I _ xs its ((dr.same sm).dp lay) rv
    exact min_list_data (I.ok.hd hc) pl.isList (by simpa using rd) (alike_all hal) (by omega) (pick_out I sm dr rv lay ⟨as, rd⟩ q)
  · obtain ⟨its, rv, pl, hz⟩ := I.tuple hs
    obtain ⟨as, rd⟩ := Dp.readsAll I _ xs its ((dr.same sm).dp lay) rv
    exact min_tuple_data (I.ok.hd hc) pl (by simpa using rd) (alike_all hal) (by omega) (pick_out I sm dr rv lay ⟨as, rd⟩ q)
theorem cr_maxD (hc : X.calm = true) (hu : X.A.units + 64 < cLine) : CallR X (.builtin "max") (fun vs H Q => ∃ (a : Addr) (xs : List V) (G : Hp) (d : D) (ds : List D), vs = [V.ref a] ∧ (SqL X.K H a xs ∨ SqT X.K H a xs) ∧ Same G H ∧ DRs X.K G xs (d :: ds) ∧ allAlike (d :: ds) = true ∧
    ∀ v, DR X.K G v (KN.maxD d ds) → Q v H) := by
  intro pins s σ H vs us Q I r h
  obtain ⟨a, xs, G, d, ds, rfl, hs, sm, dr, hal, q⟩ := h
  rw [Vals.ref1 r]
  rw [maxD_eq] at q
  obtain ⟨lay, dep⟩ := alike_lay hal
  rcases hs with hs | hs
  · obtain ⟨its, rv, pl, hz⟩ := I.list hs
    obtain ⟨as, rd⟩ := Dp.readsAll I _ xs its ((dr.same sm).dp lay) rv
    exact max_list_data (I.ok.hd hc) pl.isList (by simpa using rd) (alike_all hal) (by omega) (pick_out I sm dr rv lay ⟨as, rd⟩ q)
  · obtain ⟨its, rv, pl, hz⟩ := I.tuple hs
    obtain ⟨as, rd⟩ := Dp.readsAll I _ xs its ((dr.same sm).dp lay) rv
    exact max_tuple_data (I.ok.hd hc) pl (by simpa using rd) (alike_all hal) (by omega) (pick_out I sm dr rv lay ⟨as, rd⟩ q)
end
end KN

set_option maxRecDepth 100000
set_option maxHeartbeats 4000000
namespace KN
open PySem L2 PyProof.Rows
/-! ### sorted, each once: the data -/
theorem nodup_perm {α : Type} : ∀ {l m : List α}, l.Nodup → m.Nodup → (∀ x, x ∈ l ↔ x ∈ m) → l.Perm m
  | [], m, _, _, h => by
    cases m with
    | nil => exact .nil
    | cons y r => exact absurd ((h y).2 List.mem_cons_self) (by simp)
  | x :: r, m, h1, h2, h => by
    obtain ⟨m1, m2, rfl⟩ := List.append_of_mem ((h x).1 List.mem_cons_self)
    have p : (m1 ++ x :: m2).Perm (x :: (m1 ++ m2)) := List.perm_middle
    have n2 := (p.nodup_iff).1 h2
    obtain ⟨a1, a2⟩ := List.nodup_cons.1 h1
    obtain ⟨b1, b2⟩ := List.nodup_cons.1 n2
    refine .trans (.cons x (nodup_perm a2 b2 fun y => ?_)) p.symm
    have e := h y
    rw [p.mem_iff, List.mem_cons, List.mem_cons] at e
    constructor
    · intro hy
      rcases e.1 (.inr hy) with rfl | z
      · exact absurd hy a1
      · exact z
    · intro hy
      rcases e.2 (.inr hy) with rfl | z
      · exact absurd hy b1
      · exact z
theorem eqK_iff {x y : D} (hx : isKey x = true) : eqK x y = true ↔ x = y := by
  cases x with
  | int i => cases y <;> simp [eqK]
  | str i => cases y <;> simp [eqK]
  | _ => cases hx
theorem dedD_mem : ∀ (l : List D), (∀ x ∈ l, isKey x = true) → ∀ x, x ∈ dedD l ↔ x ∈ l
  | [], _, x => Iff.rfl
  | y :: r, hk, x => by
    have hr : ∀ x ∈ r, isKey x = true := fun x hx => hk x (List.mem_cons_of_mem _ hx)
    unfold dedD
    split
    · rename_i h
      obtain ⟨z, hz, e⟩ := List.any_eq_true.1 h
      have e := (eqK_iff (hr z hz)).1 e
      subst e
      rw [dedD_mem r hr x, List.mem_cons]
      exact ⟨.inr, fun h => h.elim (fun e => e ▸ hz) id⟩
    · rw [List.mem_cons, List.mem_cons, dedD_mem r hr x]
theorem dedD_nodup : ∀ l : List D, (∀ x ∈ l, isKey x = true) → (dedD l).Nodup
  | [], _ => .nil
  | y :: r, hk => by
    have hr : ∀ x ∈ r, isKey x = true := fun x hx => hk x (List.mem_cons_of_mem _ hx)
    unfold dedD
    split
    · exact dedD_nodup r hr
    · rename_i h
      refine List.nodup_cons.2 ⟨fun z => h (List.any_eq_true.2 ⟨y, (dedD_mem r hr y).1 z, (eqK_iff (hk y List.mem_cons_self)).2 rfl⟩), dedD_nodup r hr⟩
theorem lt_ii (a b : Int) : PySem.W.dataLt (.int a) (.int b) = decide (a < b) := PySem.W.dataLt_int a b
theorem lt_ss (a b : Str) : PySem.W.dataLt (.str a) (.str b) = decide (a.cps.toList < b.cps.toList) := PySem.W.dataLt_str a b
theorem rising_pw : ∀ (p : Str) (l : List Str), risingS p l = true → (p :: l).Pairwise (fun a b => ¬ b.cps.toList < a.cps.toList)
  | p, [], _ => List.pairwise_singleton _ _
  | p, x :: r, h => by
    have h : (!PySem.Spec.ltCps x.cps.toList p.cps.toList && risingS x r) = true := h
    simp only [ltCps_eq, Bool.and_eq_true, Bool.not_eq_true', decide_eq_false_iff_not] at h
    have ih := rising_pw x r h.2
    refine List.pairwise_cons.mpr ⟨fun z hz => ?_, ih⟩
    rcases List.mem_cons.mp hz with e | e
    · rw [e]; exact h.1
    · exact List.not_lt.mpr (List.le_trans (List.not_lt.mp h.1) (List.not_lt.mp (List.rel_of_pairwise_cons ih e)))
theorem sortedS_pw : ∀ {l : List Str}, sortedS l = true → l.Pairwise (fun a b => ¬ b.cps.toList < a.cps.toList)
  | [], _ => List.Pairwise.nil
  | p :: r, h => rising_pw p r h
theorem map_nodup {α β : Type} {f : α → β} (hf : ∀ a b, f a = f b → a = b) : ∀ {l : List α}, l.Nodup → (l.map f).Nodup
  | [], _ => .nil
  | x :: r, h => by
    obtain ⟨h1, h2⟩ := List.nodup_cons.1 h
    refine List.nodup_cons.2 ⟨fun z => ?_, map_nodup hf h2⟩
    obtain ⟨y, hy, e⟩ := List.mem_map.1 z
    rw [hf _ _ e] at hy
    exact h1 hy
theorem sset_of {α : Type} {f : α → D} (hf : ∀ a b, f a = f b → a = b) (hk : ∀ a, isKey (f a) = true) (hal : ∀ a b, PySem.W.alike (f a) (f b) = true) {ys xs : List α} (h1 : (ys.map f).Pairwise nlt) (h2 : ys.Nodup) (h3 : ∀ x, x ∈ ys ↔ x ∈ xs) :
    ys.map f = sortD (dedD (xs.map f)) := by
  have kx : ∀ x ∈ xs.map f, isKey x = true := fun x hx => by obtain ⟨a, _, rfl⟩ := List.mem_map.1 hx; exact hk a
  refine sortD_uniq (fun a ha b hb => ?_) (nodup_perm (map_nodup hf h2) (dedD_nodup _ kx) fun x => ?_) h1
  · obtain ⟨a', _, rfl⟩ := List.mem_map.1 ((dedD_mem _ kx a).1 ha)
    obtain ⟨b', _, rfl⟩ := List.mem_map.1 ((dedD_mem _ kx b).1 hb)
    exact hal a' b'
  · rw [dedD_mem _ kx]
    constructor
    · intro h
      obtain ⟨a, ha, rfl⟩ := List.mem_map.1 h
      exact List.mem_map.2 ⟨a, (h3 a).1 ha, rfl⟩
    · intro h
      obtain ⟨a, ha, rfl⟩ := List.mem_map.1 h
      exact List.mem_map.2 ⟨a, (h3 a).2 ha, rfl⟩
theorem sset_ints {ys xs : List Int} (h1 : ys.Pairwise (· ≤ ·)) (h2 : ys.Nodup) (h3 : ∀ x, x ∈ ys ↔ x ∈ xs) : ys.map PyData.int = sortD (dedD (xs.map .int)) :=
  sset_of (fun a b e => by cases e; rfl) (fun _ => rfl) (fun _ _ => by simp [PySem.W.alike]) (List.pairwise_map.2 (h1.imp fun {a b} h => by unfold nlt; rw [lt_ii]; exact decide_eq_false (by omega))) h2 h3
theorem sset_strs {ys xs : List Str} (h1 : sortedS ys = true) (h2 : ys.Nodup) (h3 : ∀ x, x ∈ ys ↔ x ∈ xs) : ys.map PyData.str = sortD (dedD (xs.map .str)) :=
  sset_of (fun a b e => by cases e; rfl) (fun _ => rfl) (fun _ _ => by simp [PySem.W.alike]) (List.pairwise_map.2 ((sortedS_pw h1).imp fun {a b} h => by unfold nlt; rw [lt_ss]; exact decide_eq_false h)) h2 h3
theorem intsOf_eq : ∀ {xs : List D} {ns : List Int}, intsOf xs = some ns → xs = ns.map .int
  | [], ns, e => by cases e; rfl
  | x :: r, ns, e => by
    cases x with
    | int i =>
      simp only [intsOf] at e
      split at e
      · rename_i l hl
        cases e
        rw [intsOf_eq hl]; rfl
      · cases e
    | _ => cases e
theorem strsOf_eq : ∀ {xs : List D} {ns : List Str}, strsOf xs = some ns → xs = ns.map .str
  | [], ns, e => by cases e; rfl
  | x :: r, ns, e => by
    cases x with
    | str i =>
      simp only [strsOf] at e
      split at e
      · rename_i l hl
        cases e
        rw [strsOf_eq hl]; rfl
      · cases e
    | _ => cases e
end KN

set_option maxRecDepth 100000
set_option maxHeartbeats 1000000
namespace KN
open PySem L2 PyProof.Rows
/-! ### a dict just made is locked at once -/
def lk (Q : VK) : VK := fun v H => Q v H ∨ ∃ d kvs, v = .ref d ∧ H d = some (.dK kvs) ∧ ∀ od, Q v (upd H d (.frz od (.dK kvs)))
section
variable {X : Cx}
theorem ep_lk {pins : List (Addr × Obj)} {σ : L2.St} {Q : VK} {u : Value} {s : Shared} (h : EP X pins σ (lk Q) u s) : EP X pins σ Q u s := by
  obtain ⟨v, H', I, r, q⟩ := h
  rcases q with q | ⟨d, kvs, rfl, hd, q⟩
  · exact ⟨v, H', I, r, q⟩
  · obtain ⟨od, I'⟩ := I.lock hd (by simp [Mut])
    exact ⟨_, _, I', r, q od⟩
theorem cr_lk {f : Value} {r : List V → Hp → VK → Prop} (h : CallR X f r) : CallR X f (fun xs H Q => r xs H (lk Q)) := fun pins s σ H xs us Q I rs q =>
  thn (h pins s σ H xs us (lk Q) I rs q) fun _ _ e => ep_lk e
theorem pe_lk {e : Expr} {t : TE} (h : PE X e t) : PE X e (fun σ H Q => t σ H (lk Q)) :=
  ⟨fun pins s σ H Q I q => thn (h.run pins s σ H (lk Q) I q) fun _ _ e => ep_lk e⟩
/-! ### pairs to a dict -/
theorem drk_any {K : Fg} {G : Hp} (k : Key) : ∀ {vs : List (Key × V)} {ds : List (D × D)}, DRk K G vs ds → (vs.any fun p => decide (p.1 = k)) = ds.any fun p => eqK p.1 (kD k)
  | _, _, .nil => rfl
  | _, _, .cons h r => by
    rw [List.any_cons, List.any_cons, drk_any k r, eqK_kD]
theorem drk_map {K : Fg} {G : Hp} (k : Key) {v : V} {d : D} (hv : DR K G v d) : ∀ {vs : List (Key × V)} {ds : List (D × D)}, DRk K G vs ds →
    DRk K G (vs.map fun p => if p.1 = k then (p.1, v) else p) (ds.map fun p => if eqK p.1 (kD k) then (p.1, d) else p)
  | _, _, .nil => .nil
  | _, _, .cons (k := j) h r => by
    rw [List.map_cons, List.map_cons]
    simp only [eqK_kD]
    by_cases e : j = k
    · simp only [e, if_true, decide_true]
      exact .cons hv (by simpa only [eqK_kD] using drk_map k hv r)
    · simp only [e, if_false, decide_false, Bool.false_eq_true]
      exact .cons h (by simpa only [eqK_kD] using drk_map k hv r)
theorem drk_app {K : Fg} {G : Hp} : ∀ {vs us : List (Key × V)} {ds es : List (D × D)}, DRk K G vs ds → DRk K G us es → DRk K G (vs ++ us) (ds ++ es)
  | _, _, _, _, .nil, q => q
  | _, _, _, _, .cons h r, q => .cons h (drk_app r q)
theorem putK_dr {K : Fg} {G : Hp} (k : Key) {v : V} {d : D} (hv : DR K G v d) {vs : List (Key × V)} {ds : List (D × D)} (h : DRk K G vs ds) : DRk K G (putK vs k v) (putKD ds (kD k) d) := by
  unfold putK putKD
  rw [drk_any k h]
  split
  · exact drk_map k hv h
  · exact drk_app h (.cons hv .nil)
theorem mergeK_dr {K : Fg} {G : Hp} : ∀ {us : List (Key × V)} {es : List (D × D)} {vs : List (Key × V)} {ds : List (D × D)}, DRk K G us es → DRk K G vs ds → DRk K G (mergeK vs us) (mergeKD ds es)
  | _, _, _, _, .nil, h => h
  | _, _, _, _, .cons (k := k) (v := v) (vs := us) hv r, h => by
    have := mergeK_dr r (putK_dr k hv h)
    exact this
/-- each member a pair -/
theorem pairs_dr {K : Fg} {G : Hp} : ∀ {xs : List V} {ds : List D} {kvs : List (D × D)}, DRs K G xs ds → pairsD ds = some kvs →
    ∃ (ps : List Addr) (ks : List (Key × V)), xs = ps.map V.ref ∧ Paired (fun p kv => PlT G p [kV kv.1, kv.2]) ps ks ∧ DRk K G ks kvs
  | _, _, _, .nil, e => by cases e; exact ⟨[], [], rfl, .nil, .nil⟩
  | _, _, _, .cons (d := d) h r, e => by
    simp only [pairsD] at e
    split at e
    · rename_i p l hp hl
      cases e
      obtain ⟨ps, ks, rfl, h1, h2⟩ := pairs_dr r hl
      unfold pairD at hp
      split at hp
      · rename_i k v
        split at hp
        · rename_i hk
          cases hp
          obtain ⟨j, rfl⟩ := isKey_kD hk
          cases h with
          | @tup a xs _ hs dr =>
            cases dr with
            | cons d1 dr =>
              cases dr with
              | cons d2 dr =>
                cases dr
                rw [V_kD d1] at hs
                exact ⟨a :: ps, (j, _) :: ks, rfl, .cons hs h1, .cons d2 h2⟩
        · cases hp
      · cases hp
    · cases e
theorem sqt_pairs {K : Fg} {G H : Hp} (s : Same G H) : ∀ {ps : List Addr} {ks : List (Key × V)}, Paired (fun p kv => PlT G p [kV kv.1, kv.2]) ps ks → Paired (fun p kv => SqT K H p [kV kv.1, kv.2]) ps ks
  | _, _, .nil => .nil
  | _, _, .cons h r => .cons (h.same s).sq (sqt_pairs s r)
/-- a new dict comes out -/
theorem dict_out {K : Fg} {G H : Hp} {ks : List (Key × V)} {ds : List (D × D)} {Q : VK} (sm : Same G H) (q : ∀ v G' H', Ext none G H G' H' → Same G' H' → Val K none H G' H' .fresh v (.dict ds) → Q v H') (h : DRk K G ks ds) : ∀ p, H p = none → lk Q (.ref p) (upd H p (.dK ks)) := fun p hp => by
  refine .inr ⟨p, ks, rfl, upd_same, fun od => ?_⟩
  rw [upd_upd]
  exact q _ G _ (Ext.fresh hp) (fun b u h => by rw [upd_ne (ne_of_none (sm _ _ h) hp)]; exact sm _ _ h) (.inr ⟨p, .frz od (.dK ks), .dic ds, rfl, rfl, hp, by simp, sm.free hp, upd_same, .dic h⟩)
end
end KN

set_option maxRecDepth 100000
set_option maxHeartbeats 1000000
namespace KN
open PySem L2 PyProof.Rows
section
variable {X : Cx} {pins : List (Addr × Obj)} {σ : L2.St} {H : Hp} {s : Shared}
theorem two_pairs (I : L2.Inv X pins σ H s) : ∀ {ps : List Addr} {kvs : List (Key × V)}, Paired (fun p kv => SqT X.K H p [kV kv.1, kv.2]) ps kvs →
    ∃ (qs : List (Value × Value)) (prs : List (Key × Value)), KV kvs prs ∧ qs.length = ps.length ∧ prs.length = ps.length ∧
      ∀ (j : Nat) (k v : Value), qs[j]? = some (k, v) → ∃ b key, ps[j]? = some b ∧ s.heap.IsTuple b #[k, v] ∧ prs[j]? = some (key, v) ∧ keyIs key k = true
  | _, _, .nil => ⟨[], [], .nil, rfl, rfl, fun j k v e => by simp at e⟩
  | _, _, .cons (a := p) (b := kv) h t => by
    obtain ⟨qs, prs, h1, h2, h3, h4⟩ := two_pairs I t
    obtain ⟨its, rv, pl, _⟩ := I.tuple h
    cases rv with
    | cons ra rv =>
      cases rv with
      | cons rb rv =>
        cases rv
        rename_i u v
        refine ⟨(u, v) :: qs, (kv.1, v) :: prs, .cons ⟨rfl, rb⟩ h1, by simp [h2], by simp [h3], fun j k v' e => ?_⟩
        cases j with
        | zero =>
          simp only [List.getElem?_cons_zero, Option.some.injEq, Prod.mk.injEq] at e
          obtain ⟨rfl, rfl⟩ := e
          exact ⟨p, kv.1, rfl, pl, rfl, kV_is (P := X.prog) (w := X.w) ra⟩
        | succ j =>
          obtain ⟨b, key, g1, g2⟩ := h4 j k v' (by simpa using e)
          exact ⟨b, key, by simpa using g1, g2.1, by simpa using g2.2.1, g2.2.2⟩
end
section
variable {X : Cx}
theorem call_dictT (hcalm : X.calm = true) : CallR X (.type "dict") (fun xs H Q => ∃ (a : Addr) (ps : List Addr) (kvs : List (Key × V)), xs = [.ref a] ∧ PlT H a (ps.map V.ref) ∧ Paired (fun p kv => SqT X.K H p [kV kv.1, kv.2]) ps kvs ∧
    ∀ p, H p = none → Q (.ref p) (upd H p (.dK (mergeK [] kvs)))) := by
  intro pins s σ H xs us Q I r q
  obtain ⟨a, ps, kvs, rfl, ⟨o, ho, hod⟩, hp, q⟩ := q
  rw [Vals.ref1 r]
  obtain ⟨go, hz, its, rv, o', go', hc, n, hd⟩ := I.hok a _ ho
  rw [go] at go'
  cases go'
  have ei := refs_at rv
  subst ei
  rw [List.length_map] at hz
  obtain ⟨qs, prs, rel, l1, l2, hq⟩ := two_pairs I hp
  refine PySem.call_dict_pairs (knd := mixKind X.prog X.w) (kvs := prs) (PySem.PairArg.tuple a (ps.map Value.ref).toArray (fun j => ps.getD j 0) qs) (I.ok.hd hcalm) ⟨⟨o, n, go, hc, hod, hd⟩, by simp [l1], fun j k v e => ?_⟩ ⟨by omega, fun i key v e => ?_⟩ (by omega) fun h' tk hd' kp => ?_
  · obtain ⟨b, key, g1, g2, _⟩ := hq j k v e
    have : ps.getD j 0 = b := by rw [List.getD_eq_getElem?_getD, g1]; rfl
    show _ = some (Value.ref (ps.getD j 0)) ∧ PairAt s.heap (ps.getD j 0) k v
    rw [this]
    exact ⟨by simp [g1], .inl g2⟩
  · obtain ⟨b, k, g1, g2, g3, g4⟩ := hq i key v e
    exact ⟨k, g3, g4⟩
  · have hm : (s.heap.objs.size == sysModules) = false := beq_eq_false_iff_ne.mpr (Nat.ne_of_gt I.big)
    have hlen : (mergeK [] kvs).length ≤ sizeLine := by
      have := length_mergeK kvs []
      rw [List.length_nil, Nat.zero_add, rel.length] at this
      omega
    exact ⟨.ref _, _, I.laid (t' := tk) (o := .dK (mergeK [] kvs)) (fun b o e => kp b o (by simp) e) (Nat.le_refl _) ⟨hlen, hm, merged [] prs, KV.merge rel .nil, hd'⟩, rfl, q _ (I.hok.fresh (Nat.le_refl _))⟩
end
end KN

set_option maxRecDepth 100000
set_option maxHeartbeats 2000000
namespace KN
open PySem L2 PyProof.Rows
section
variable {X : Cx}
/-- the signs of a text -/
def signsV (z : Str) : List V := z.cps.toList.map fun c => V.str ⟨#[c]⟩
theorem vals_get : ∀ {vs : List V} {us : List Value}, us.length = vs.length → (∀ (j : Nat) u, us[j]? = some u → ∃ v, vs[j]? = some v ∧ RelV v u) → Vals vs us
  | [], [], _, _ => .nil
  | [], _ :: _, h, _ => by cases h
  | _ :: _, [], h, _ => by cases h
  | v :: vs, u :: us, h, f => by
    obtain ⟨v', e, r⟩ := f 0 u rfl
    cases e
    exact .cons r (vals_get (by simpa using h) fun j u' e => f (j + 1) u' e)
theorem signs_vals {z : Str} {acc : Array Value} (h : ItemsOf (SignAt z) acc z.cps.size) : Vals (signsV z) acc.toList := by
  refine vals_get (by unfold signsV; rw [List.length_map, Array.length_toList, Array.length_toList]; exact h.1) fun j u e => ?_
  rw [Array.getElem?_toList] at e
  obtain ⟨c, t, h1, rfl⟩ := h.2 j u e
  refine ⟨.str ⟨#[c]⟩, ?_, ⟨t, rfl⟩⟩
  unfold signsV
  rw [List.getElem?_map, Array.getElem?_toList, h1]
  rfl
theorem signs_len {z : Str} : (signsV z).length = z.cps.size := by unfold signsV; rw [List.length_map, Array.length_toList]
theorem call_tupleS (hc : X.calm = true) : CallR X (.type "tuple") (fun xs H Q => ∃ z, xs = [V.str z] ∧ z.length ≤ sizeLine ∧ ∀ o l, o.dict = none → H l = none → Q (.ref l) (upd H l (.frz o (.tup (signsV z))))) := by
  intro pins s σ H xs us Q I r h
  obtain ⟨z, rfl, hz, q⟩ := h
  obtain ⟨u, rfl, ru⟩ := r.one
  obtain ⟨t, rfl⟩ := ru
  refine call_tuple_str (I.ok.hd hc) z t (fun h' tk acc hk ha => ?_) hz
  have J : L2.Inv X pins σ H { s with heap := h', toks := tk } := I.kept (t' := tk) hk
  have rv := signs_vals ha
  have := Inv.ltup (t' := tk) J rv (by rw [signs_len]; exact hz)
  exact ⟨.ref _, _, by rw [show (tupO acc.toList) = { cls := .type "tuple", data := .seq acc } by unfold tupO; rw [Array.toArray_toList]] at this; exact this, rfl, q _ _ rfl (J.hok.fresh (Nat.le_refl _))⟩
theorem call_listS (hc : X.calm = true) : CallR X (.type "list") (fun xs H Q => ∃ z, xs = [V.str z] ∧ z.length ≤ sizeLine ∧ ∀ l, H l = none → Q (.ref l) (upd H l (.lst (signsV z)))) := by
  intro pins s σ H xs us Q I r h
  obtain ⟨z, rfl, hz, q⟩ := h
  obtain ⟨u, rfl, ru⟩ := r.one
  obtain ⟨t, rfl⟩ := ru
  refine call_list_str (I.ok.hd hc) z t (fun h' tk acc c' hk hD ha => ?_) hz
  exact ⟨.ref s.heap.objs.size, upd H s.heap.objs.size (.lst (signsV z)), I.laid (t' := tk) hk (Nat.le_refl _)
    (show ObjOk X.prog X.w _ _ _ (.lst (signsV z)) from ⟨by rw [signs_len]; exact hz, acc.toList, c', signs_vals ha, by rw [Array.toArray_toList]; exact hD⟩), rfl, q _ (I.hok.fresh (Nat.le_refl _))⟩
theorem drs_signs {K : Fg} {G : Hp} (z : Str) : DRs K G (signsV z) (z.cps.toList.map fun c => PyData.str ⟨#[c]⟩) := by
  unfold signsV
  generalize z.cps.toList = l
  induction l with
  | nil => exact .nil
  | cons c r ih => exact .cons (.str _) ih
/-! sorted(d): its keys -/
theorem keys_strs {K : Fg} {G : Hp} : ∀ {kvs : List (Key × V)} {ds : List (D × D)} {ns : List Str}, DRk K G kvs ds → ds.map (·.1) = ns.map PyData.str → kvs.map (·.1) = ns.map Sum.inr
  | _, _, ns, .nil, e => by
    cases ns with
    | nil => rfl
    | cons _ _ => cases e
  | _, _, ns, .cons (k := k) h r, e => by
    cases ns with
    | nil => cases e
    | cons n ns =>
      simp only [List.map_cons, List.cons.injEq] at e ⊢
      refine ⟨?_, keys_strs r e.2⟩
      cases k with
      | inl i => cases e.1
      | inr i => cases e.1; rfl
theorem keys_ints {K : Fg} {G : Hp} : ∀ {kvs : List (Key × V)} {ds : List (D × D)} {ns : List Int}, DRk K G kvs ds → ds.map (·.1) = ns.map PyData.int → kvs.map (·.1) = ns.map Sum.inl
  | _, _, ns, .nil, e => by
    cases ns with
    | nil => rfl
    | cons _ _ => cases e
  | _, _, ns, .cons (k := k) h r, e => by
    cases ns with
    | nil => cases e
    | cons n ns =>
      simp only [List.map_cons, List.cons.injEq] at e ⊢
      refine ⟨?_, keys_ints r e.2⟩
      cases k with
      | inl i => cases e.1; rfl
      | inr i => cases e.1
theorem drs_strs {K : Fg} {G : Hp} : ∀ ns : List Str, DRs K G (ns.map V.str) (ns.map PyData.str)
  | [] => .nil
  | _ :: r => .cons (.str _) (drs_strs r)
theorem drs_ints {K : Fg} {G : Hp} : ∀ ns : List Int, DRs K G (ns.map V.int) (ns.map PyData.int)
  | [] => .nil
  | _ :: r => .cons (.int _) (drs_ints r)
theorem cr_sortDk (hc : X.calm = true) : CallR X (.builtin "sorted") (fun vs H Q => ∃ (a : Addr) (kvs : List (Key × V)) (G : Hp) (ds : List (D × D)), vs = [V.ref a] ∧ Rd H a (.dK kvs) ∧ DRk X.K G kvs ds ∧ keysOk (ds.map (·.1)) = true ∧
    ∀ ys p, DRs X.K G ys (sortD (ds.map (·.1))) → H p = none → Q (.ref p) (upd H p (.lst ys))) := by
  intro pins s σ H vs us Q I r h
  obtain ⟨a, kvs, G, ds, rfl, hd, dr, hk, q⟩ := h
  unfold keysOk at hk
  simp only [Bool.and_eq_true, decide_eq_true_eq, Bool.or_eq_true] at hk
  obtain ⟨h64, hk⟩ := hk
  rw [List.length_map] at h64
  rcases hk with hk | hk
  · obtain ⟨ns, hn⟩ := Option.isSome_iff_exists.1 hk
    have e := intsOf_eq hn
    refine call_sortedDI hc pins s σ H _ us Q I r ⟨a, kvs, ns, rfl, hd, keys_ints dr e, by have := congrArg List.length e; simp at this; omega, fun ys p pm pw hp => q _ p ?_ hp⟩
    rw [e, ← sortD_uniq (l := ns.map PyData.int) (m := ys.map PyData.int) (fun a ha b hb => ?_) (pm.map _) (List.pairwise_map.2 (pw.imp fun {a b} h => by unfold nlt; rw [lt_ii]; exact decide_eq_false (by omega)))]
    · exact drs_ints ys
    · obtain ⟨a', _, rfl⟩ := List.mem_map.1 ha
      obtain ⟨b', _, rfl⟩ := List.mem_map.1 hb
      simp [PySem.W.alike]
  · obtain ⟨ns, hn⟩ := Option.isSome_iff_exists.1 hk
    have e := strsOf_eq hn
    refine call_sortedD hc pins s σ H _ us Q I r ⟨a, kvs, ns, rfl, hd, keys_strs dr e, by have := congrArg List.length e; simp at this; omega, fun ys p pm pw hp => q _ p ?_ hp⟩
    rw [e, ← sortD_uniq (l := ns.map PyData.str) (m := ys.map PyData.str) (fun a ha b hb => ?_) (pm.map _) (List.pairwise_map.2 ((sortedS_pw pw).imp fun {a b} h => by unfold nlt; rw [lt_ss]; exact decide_eq_false h))]
    · exact drs_strs ys
    · obtain ⟨a', _, rfl⟩ := List.mem_map.1 ha
      obtain ⟨b', _, rfl⟩ := List.mem_map.1 hb
      simp [PySem.W.alike]
end
end KN

set_option maxRecDepth 100000
set_option maxHeartbeats 1000000
namespace KN
open PySem L2 PyProof.Rows
section
variable {X : Cx}
theorem fresh_out {K : Fg} {G H : Hp} {xs : List V} {ds : List D} {Q : VK} (sm : Same G H) (q : ∀ v G' H', Ext none G H G' H' → Same G' H' → Val K none H G' H' .fresh v (.list ds) → Q v H') (h : DRs K G xs ds) : ∀ p, H p = none → Q (.ref p) (upd H p (.lst xs)) := fun p hp =>
  q _ G _ (Ext.fresh hp) (fun b u h => by rw [upd_ne (ne_of_none (sm _ _ h) hp)]; exact sm _ _ h) (Val.new (o := .tup []) sm hp h)
theorem tup_out {K : Fg} {G H : Hp} {xs : List V} {ds : List D} {k : Kd} {Q : VK} (sm : Same G H) (q : ∀ v G' H', Ext none G H G' H' → Same G' H' → Val K none H G' H' k v (.tuple ds) → Q v H') (h : DRs K G xs ds) (hk : k ≠ .peek := by decide) : ∀ (o : Obj) p, o.dict = none → H p = none → Q (.ref p) (upd H p (.frz o (.tup xs))) := fun o p ho hp => by
  refine q _ _ _ (Ext.laid (ta := none) (o := .frz o (.tup xs)) sm hp) (same_laid sm hp) ?_
  cases k with
  | dat => exact laidT sm hp ho h
  | fresh => exact .inl ⟨laidT sm hp ho h, rfl⟩
  | peek => exact absurd rfl hk
theorem alike_still {xs : List D} {m : D} (h : xs.all still = true) (hm : m ∈ xs) : still m = true := List.all_eq_true.mp h m hm
theorem pick_end {K : Fg} {G H : Hp} {v : V} {d : D} {Q : VK} (sm : Same G H) (q : ∀ v G' H', Ext none G H G' H' → Same G' H' → Val K none H G' H' .fresh v d → Q v H') (h : DR K G v d) (n : still d = true) : Q v H := q v G H Ext.refl sm (.inl ⟨h, n⟩)
theorem minD_mem : ∀ (x : D) (xs : List D), minD x xs ∈ x :: xs
  | x, [] => List.mem_cons_self
  | x, y :: r => by
    have := minD_mem (if PySem.W.dataLt y x then y else x) r
    rcases List.mem_cons.mp this with h | h
    · show minD _ r ∈ _
      rw [h]
      split
      · exact List.mem_cons_of_mem _ List.mem_cons_self
      · exact List.mem_cons_self
    · exact List.mem_cons_of_mem _ (List.mem_cons_of_mem _ h)
theorem maxD_mem : ∀ (x : D) (xs : List D), maxD x xs ∈ x :: xs
  | x, [] => List.mem_cons_self
  | x, y :: r => by
    have := maxD_mem (if PySem.W.dataLt x y then y else x) r
    rcases List.mem_cons.mp this with h | h
    · show maxD _ r ∈ _
      rw [h]
      split
      · exact List.mem_cons_of_mem _ List.mem_cons_self
      · exact List.mem_cons_self
    · exact List.mem_cons_of_mem _ (List.mem_cons_of_mem _ h)
theorem drk_keys {K : Fg} {G : Hp} : ∀ {vs : List (Key × V)} {ds : List (D × D)}, DRk K G vs ds → DRs K G (vs.map fun kv => kV kv.1) (ds.map (·.1))
  | _, _, .nil => .nil
  | _, _, .cons h r => .cons (kV_DR _) (drk_keys r)
theorem drk_vals {K : Fg} {G : Hp} : ∀ {vs : List (Key × V)} {ds : List (D × D)}, DRk K G vs ds → DRs K G (vs.map fun kv => kv.2) (ds.map (·.2))
  | _, _, .nil => .nil
  | _, _, .cons h r => .cons h (drk_vals r)
theorem cr_bi (f : Bi) (hc : X.calm = true) (hu : X.A.units + 64 < cLine) : CallR X (biVal f) (rVs X.K (biD f) .fresh) := by
  intro pins s σ H xs us Q I r h
  obtain ⟨G, as, d, sm, va, e, q⟩ := h
  cases va with
  | nil => cases f <;> cases e
  | cons v1 vr =>
    cases vr with
    | nil =>
      rename_i x a
      cases f with
      | len =>
        cases a with
        | list ys =>
          cases e
          obtain ⟨p, zs, rfl, rd, ds⟩ := v1.lst sm
          refine call_len_seq pins s σ H _ us Q I r ⟨p, zs, rfl, .inl rd, ?_⟩
          rw [ds.length]
          exact scal_out sm q (.int _) rfl
        | tuple ys =>
          cases e
          obtain ⟨p, zs, rfl, rd, ds⟩ := v1.tup sm
          refine call_len_seq pins s σ H _ us Q I r ⟨p, zs, rfl, .inr rd, ?_⟩
          rw [ds.length]
          exact scal_out sm q (.int _) rfl
        | str z =>
          simp only [biD] at e
          split at e
          · rename_i hz
            cases e
            exact call_len_str pins s σ H _ us Q I r ⟨z, by rw [v1.str], lineOk_le hz, scal_out sm q (.int _) rfl⟩
          · cases e
        | dict ys =>
          cases e
          obtain ⟨p, od, kvs, rfl, hp, dr⟩ := v1.dic sm
          rw [Vals.ref1 r]
          refine d_len I (.inr ⟨od, hp⟩) fun t s' I' => ⟨.int kvs.length, H, I', ⟨t, rfl⟩, ?_⟩
          rw [dr.length]
          exact scal_out sm q (.int _) rfl
        | _ => cases e
      | list =>
        cases a with
        | list ys =>
          cases e
          obtain ⟨p, zs, rfl, rd, ds⟩ := v1.lst sm
          exact call_list_of pins s σ H _ us Q I r ⟨p, zs, rfl, .inl rd, fresh_out sm q ds⟩
        | tuple ys =>
          cases e
          obtain ⟨p, zs, rfl, rd, ds⟩ := v1.tup sm
          exact call_list_of pins s σ H _ us Q I r ⟨p, zs, rfl, .inr rd, fresh_out sm q ds⟩
        | dict ys =>
          cases e
          obtain ⟨p, od, kvs, rfl, hp, dr⟩ := v1.dic sm
          exact call_listD hc pins s σ H _ us Q I r ⟨p, kvs, rfl, .inr ⟨od, hp⟩, fresh_out sm q (drk_keys dr)⟩
        | str z =>
          simp only [biD] at e
          split at e
          · rename_i hz
            cases e
            exact call_listS hc pins s σ H _ us Q I r ⟨z, by rw [v1.str], lineOk_le hz, fresh_out sm q (drs_signs z)⟩
          · cases e
        | _ => cases e
      | tuple =>
        cases a with
        | list ys =>
          cases e
          obtain ⟨p, zs, rfl, rd, ds⟩ := v1.lst sm
          exact call_tupP pins s σ H _ us Q I r ⟨p, zs, rfl, rd, tup_out sm q ds⟩
        | tuple ys =>
          cases e
          have w1 : DR X.K G x (.tuple ys) := v1.dr rfl
          obtain ⟨p, zs, rfl, rd, ds⟩ := v1.tup sm
          exact call_tuple_of pins s σ H _ us Q I r ⟨p, zs, rfl, .inr ⟨rd, scal_out sm q w1 rfl⟩⟩
        | str z =>
          simp only [biD] at e
          split at e
          · rename_i hz
            cases e
            exact call_tupleS hc pins s σ H _ us Q I r ⟨z, by rw [v1.str], lineOk_le hz, tup_out sm q (drs_signs z)⟩
          · cases e
        | _ => cases e
      | int =>
        cases a with
        | int i => cases e; exact call_int1 pins s σ H _ us Q I r (.inl ⟨i, by rw [v1.int], scal_out sm q (.int _) rfl⟩)
        | bool i => cases e; exact call_int1 pins s σ H _ us Q I r (.inr ⟨i, by rw [v1.bl], scal_out sm q (.int _) rfl⟩)
        | _ => cases e
      | abs =>
        cases a with
        | int i => cases e; exact call_abs pins s σ H _ us Q I r ⟨i, by rw [v1.int], scal_out sm q (.int _) rfl⟩
        | _ => cases e
      | sum =>
        cases a with
        | list ys =>
          simp only [biD] at e
          split at e
          · rename_i ns hn
            cases e
            obtain ⟨p, zs, rfl, rd, ds⟩ := v1.lst sm
            exact cr_sum hc pins s σ H _ us Q I r ⟨p, ns, rfl, (by rw [← ds.ints hn]; exact rd), scal_out sm q (.int _) rfl⟩
          · cases e
        | tuple ys =>
          simp only [biD] at e
          split at e
          · rename_i ns hn
            cases e
            obtain ⟨p, zs, rfl, rd, ds⟩ := v1.tup sm
            exact cr_sumT hc pins s σ H _ us Q I r ⟨p, ns, rfl, by rw [← ds.ints hn]; exact rd, scal_out sm q (.int _) rfl⟩
          · cases e
        | _ => cases e
      | max =>
        cases a with
        | list ys =>
          cases ys with
          | nil => cases e
          | cons y0 ys =>
            simp only [biD] at e
            split at e
            · rename_i hz
              simp only [Bool.and_eq_true] at hz
              cases e
              obtain ⟨p, zs, rfl, rd, ds⟩ := v1.lst sm
              exact cr_maxD hc hu pins s σ H _ us Q I r ⟨p, zs, G, y0, ys, rfl, .inl rd, sm, ds, hz.1, fun v hv => pick_end sm q hv (alike_still hz.2 (maxD_mem y0 ys))⟩
            · cases e
        | tuple ys =>
          cases ys with
          | nil => cases e
          | cons y0 ys =>
            simp only [biD] at e
            split at e
            · rename_i hz
              simp only [Bool.and_eq_true] at hz
              cases e
              obtain ⟨p, zs, rfl, rd, ds⟩ := v1.tup sm
              exact cr_maxD hc hu pins s σ H _ us Q I r ⟨p, zs, G, y0, ys, rfl, .inr rd, sm, ds, hz.1, fun v hv => pick_end sm q hv (alike_still hz.2 (maxD_mem y0 ys))⟩
            · cases e
        | _ => cases e
      | min =>
        cases a with
        | list ys =>
          cases ys with
          | nil => cases e
          | cons y0 ys =>
            simp only [biD] at e
            split at e
            · rename_i hz
              simp only [Bool.and_eq_true] at hz
              cases e
              obtain ⟨p, zs, rfl, rd, ds⟩ := v1.lst sm
              exact cr_minD hc hu pins s σ H _ us Q I r ⟨p, zs, G, y0, ys, rfl, .inl rd, sm, ds, hz.1, fun v hv => pick_end sm q hv (alike_still hz.2 (minD_mem y0 ys))⟩
            · cases e
        | tuple ys =>
          cases ys with
          | nil => cases e
          | cons y0 ys =>
            simp only [biD] at e
            split at e
            · rename_i hz
              simp only [Bool.and_eq_true] at hz
              cases e
              obtain ⟨p, zs, rfl, rd, ds⟩ := v1.tup sm
              exact cr_minD hc hu pins s σ H _ us Q I r ⟨p, zs, G, y0, ys, rfl, .inr rd, sm, ds, hz.1, fun v hv => pick_end sm q hv (alike_still hz.2 (minD_mem y0 ys))⟩
            · cases e
        | _ => cases e
      | all =>
        cases a with
        | list ys =>
          simp only [biD] at e
          split at e
          · rename_i ns hn
            cases e
            obtain ⟨p, zs, rfl, rd, ds⟩ := v1.lst sm
            exact cr_all hc pins s σ H _ us Q I r ⟨p, ns, rfl, (by rw [← ds.bls hn]; exact rd), scal_out sm q (.bl _) rfl⟩
          · cases e
        | _ => cases e
      | any =>
        cases a with
        | list ys =>
          simp only [biD] at e
          split at e
          · rename_i ns hn
            cases e
            obtain ⟨p, zs, rfl, rd, ds⟩ := v1.lst sm
            exact cr_any hc pins s σ H _ us Q I r ⟨p, ns, rfl, (by rw [← ds.bls hn]; exact rd), scal_out sm q (.bl _) rfl⟩
          · cases e
        | _ => cases e
      | sorted =>
        have key : ∀ (p : Addr) (zs : List V) (ys : List D), (SqL X.K H p zs ∨ SqT X.K H p zs) → DRs X.K G zs ys → sortL ys = some d → x = .ref p → wpAny (model X.prog X.w) X.A (call (.builtin "sorted") us) (EP X pins σ Q) X.xe s := fun p zs ys rd ds e hx => by
          subst hx
          unfold sortL at e
          split at e
          · rename_i hz
            simp only [Bool.and_eq_true] at hz
            cases e
            exact cr_sortD hu pins s σ H _ us Q I r ⟨p, zs, G, ys, rfl, rd, sm, ds, hz.1, fun zs' p' h1 h2 => fresh_out sm q h1 p' h2⟩
          · cases e
        cases a with
        | list ys =>
          obtain ⟨p, zs, hx, rd, ds⟩ := v1.lst sm
          exact key p zs ys (.inl rd) ds e hx
        | tuple ys =>
          obtain ⟨p, zs, hx, rd, ds⟩ := v1.tup sm
          exact key p zs ys (.inr rd) ds e hx
        | dict ys =>
          simp only [biD] at e
          split at e
          · rename_i hk
            cases e
            obtain ⟨p, od, kvs, rfl, hp, dr⟩ := v1.dic sm
            exact cr_sortDk hc pins s σ H _ us Q I r ⟨p, kvs, G, ys, rfl, .inr ⟨od, hp⟩, dr, hk, fun zs l d2 hl => fresh_out sm q d2 l hl⟩
          · cases e
        | _ => cases e
      | dict =>
        cases a with
        | list ys =>
          simp only [biD] at e
          split at e
          · rename_i kvs hk
            cases e
            obtain ⟨p, zs, rfl, rd, ds⟩ := v1.lst sm
            obtain ⟨ps, ks, rfl, h1, h2⟩ := pairs_dr ds hk
            exact cr_lk (call_dictP hc) pins s σ H _ us Q I r ⟨p, ps, ks, rfl, rd, sqt_pairs sm h1, dict_out sm q (mergeK_dr h2 .nil)⟩
          · cases e
        | tuple ys =>
          simp only [biD] at e
          split at e
          · rename_i kvs hk
            cases e
            obtain ⟨p, zs, rfl, rd, ds⟩ := v1.tupP sm
            obtain ⟨ps, ks, rfl, h1, h2⟩ := pairs_dr ds hk
            exact cr_lk (call_dictT hc) pins s σ H _ us Q I r ⟨p, ps, ks, rfl, rd, sqt_pairs sm h1, dict_out sm q (mergeK_dr h2 .nil)⟩
          · cases e
        | _ => cases e
    | cons v2 vr2 =>
      rename_i x a x2 xs2 a2 as2
      cases vr2 with
      | nil =>
        cases f with
        | max =>
          cases a with
          | int i =>
            cases a2 with
            | int j => cases e; exact call_max2 hc pins s σ H _ us Q I r ⟨i, j, by rw [v1.int, v2.int], scal_out sm q (.int _) rfl⟩
            | _ => cases e
          | _ => first | (simp [biD] at e; done) | cases e
        | min =>
          cases a with
          | int i =>
            cases a2 with
            | int j => cases e; exact call_min2 hc pins s σ H _ us Q I r ⟨i, j, by rw [v1.int, v2.int], scal_out sm q (.int _) rfl⟩
            | _ => cases e
          | _ => first | (simp [biD] at e; done) | cases e
        | _ => cases a <;> first | (simp [biD] at e; done) | cases e
      | cons _ _ => cases f <;> simp [biD] at e

/-! ### isinstance -/
theorem ty_of {K : Fg} {H : Hp} {v : V} {d : D} (h : DR K H v d) : TyX K H v (.type (tyD d)) := by
  cases h with
  | non => exact .base .non
  | bl b => exact .base (.bl b)
  | int i => exact .base (.int i)
  | str x => exact .base (.str x)
  | lst r _ =>
    rcases r with (r | ⟨o, r⟩) | ⟨o, its, n, h1, h2, _⟩
    · exact .base (.lst r)
    · exact .base (.frz r)
    · exact .kList h1 h2
  | tup r _ =>
    obtain ⟨o, r, _⟩ := r
    exact .fTuple r
  | dic r _ => exact .fDict r
theorem kit_any {K : Fg} {t : String} : ∀ {ts : List String} {b : Bool}, kitAnyB t ts = some b → PySem.W.kitAny K (.type t) (ts.map Value.type) = some b
  | [], _, h => by cases h; exact kitAny_nil
  | c :: cs, b, h => by
    unfold kitAnyB at h
    split at h
    · rename_i e
      cases h
      exact kitAny_cons (kit_ty e) (fun z => nomatch z) fun _ => rfl
    · rename_i e
      exact kitAny_cons (kit_ty e) (fun _ => kit_any h) fun z => nomatch z
    · cases h
theorem clsV_all : ∀ ts : List String, Paired ClsV (ts.map V.ty) (ts.map Value.type)
  | [] => .nil
  | t :: r => .cons (.ty t) (clsV_all r)

/-! ### items, slices -/
theorem ix_D : IxR X (rV2 X.K getD .dat) := by
  intro ve se pins s σ H x y v u Q I rx ry h hs
  obtain ⟨G, a, b, d, sm, va, vb, e, q⟩ := h
  cases a with
  | list xs =>
    cases b with
    | int i =>
      obtain ⟨p, ys, rfl, rd, ds⟩ := va.lst sm
      obtain ⟨w, h1, h2⟩ := ds.atI e
      exact ix_list ve se pins s σ H _ y v u Q I rx ry ⟨p, ys, i, w, rfl, vb.int, rd, h1, q _ G H Ext.refl sm h2⟩ hs
    | _ => cases e
  | tuple xs =>
    cases b with
    | int i =>
      obtain ⟨p, ys, rfl, rd, ds⟩ := va.tup sm
      obtain ⟨w, h1, h2⟩ := ds.atI e
      exact ix_tup ve se pins s σ H _ y v u Q I rx ry ⟨p, ys, i, w, rfl, vb.int, rd, h1, q _ G H Ext.refl sm h2⟩ hs
    | _ => cases e
  | str z =>
    cases b with
    | int i =>
      simp only [getD] at e
      split at e
      · rename_i hz
        split at e
        · rename_i c hc
          cases e
          exact ix_str ve se pins s σ H x y v u Q I rx ry ⟨z, i, c, va.str, vb.int, lineOk_le hz, hc, q _ G H Ext.refl sm (.str _)⟩ hs
        · cases e
      · cases e
    | _ => cases e
  | dict kvs =>
    have e : (if isKey b then lookK kvs b else none) = some d := by cases b <;> exact e
    split at e
    · rename_i hk
      obtain ⟨k, rfl⟩ := isKey_kD hk
      obtain ⟨p, od, ks, rfl, hp, dr⟩ := va.dic sm
      have hx : y = kV k := V_kD (vb.dr (still_kD k))
      subst hx
      cases rx
      obtain ⟨z, hd, vs, rel, dd⟩ := dk_rd I.hok (.inr ⟨od, hp⟩)
      rcases dr.look k with ⟨h1, h2⟩ | ⟨w, d', h1, h2, h3⟩
      · rw [h2] at e; cases e
      · rw [h2] at e
        cases e
        obtain ⟨w', hw, rw'⟩ := RelO.some_of (v := w) (o := valueAt vs k) (by rw [← h1]; exact rel.val k)
        exact subscriptTail_builtinR (x := w') dd.typeIs PySem.F.slot_dict_getitem.lookup (wpAny_getItem_of (kV_is ry) dd.mapOf hw ⟨rfl, ⟨w, H, I.tok _, rw', q _ G H Ext.refl sm h3⟩⟩) hs
    · cases e
  | _ => cases b <;> cases e
def rSlD (K : Fg) : V → Option Int → Option Int → Hp → VK → Prop := fun x lo hi H Q => rV1 K (fun a => sliceD a lo hi) .fresh x H Q
theorem sl_D : SlR X (rSlD X.K) := by
  intro pins s σ H x v vl vu lo hi sl Q I rx hs pl pu h
  obtain ⟨G, a, d, sm, va, e, q⟩ := h
  cases a with
  | list xs =>
    cases e
    obtain ⟨p, ys, rfl, rd, ds⟩ := va.lst sm
    exact sl_list pins s σ H _ v vl vu lo hi sl Q I rx hs pl pu ⟨p, ys, rfl, rd, fresh_out sm q (ds.cut lo hi)⟩
  | tuple xs =>
    cases e
    have w1 : DR X.K G x (.tuple xs) := va.dr rfl
    obtain ⟨p, ys, rfl, rd, ds⟩ := va.tup sm
    refine sl_tupP pins s σ H _ v vl vu lo hi sl Q I rx hs pl pu ⟨p, ys, rfl, rd, fun z => ?_, fun _ => tup_out sm q (ds.cut lo hi)⟩
    have e : cutL xs lo hi = xs := by
      unfold cutL
      rw [← ds.length, z.1, z.2, ds.length, List.drop_zero, Nat.sub_zero, List.take_length]
    rw [e] at q
    exact scal_out sm q w1 rfl
  | str z =>
    simp only [sliceD] at e
    split at e
    · rename_i hz
      cases e
      exact sl_str pins s σ H x v vl vu lo hi sl Q I rx hs pl pu ⟨z, va.str, lineOk_le hz, scal_out sm q (.str _) rfl⟩
    · cases e
  | _ => cases e
end
end KN

set_option maxRecDepth 100000
set_option maxHeartbeats 1000000
namespace PySem
/-- enumerate(v) of one argument, v a list, a tuple, a text -/
theorem meets_enum1 {v : Value} {o : Obj} {H : Heap → Prop} (B : Begins v o H) :
    Meets (Builtin.«enumerate.__new__» ⟨[.type "enumerate", v], []⟩) (fun _ R s => H s.heap ∧
      R (.ok (.ret (.ref (s.heap.push o).objs.size))) { s with heap := (s.heap.push o).push { cls := .type "enumerate", data := .fields #[.none, .bool false, .ref s.heap.objs.size, rawInt 0, .none, .none] } }) :=
  .of_wp fun prog w A R s h => by
    obtain ⟨hp, g, d, tk, os⟩ := s; obtain ⟨h1, h⟩ := h
    have hsub := sub_enumerate
    have q1 : ∀ {A' : Around} {E : Value → Shared → Prop} {Q : Value → Shared → Prop}, Q (.ref hp.objs.size) ⟨hp.push o, g, d, tk, os⟩ → wpAny (model prog w) A' (pyIter v) Q E ⟨hp, g, d, tk, os⟩ :=
      fun q => B.iter prog w _ _ ⟨hp, g, d, tk, os⟩ _ h1 q
    wp_walk using q1
    refine wpAny_stack_any fun st => wpAny_pure ?_
    split
    · rename_i c _ _ _ _ _
      cases (c == Value.type "enumerate")
      · wp_walk using q1
        exact ⟨_, rfl, h⟩
      · wp_walk using q1
        exact ⟨_, rfl, h⟩
    · wp_walk using q1
      exact ⟨_, rfl, h⟩
theorem enum1_begins {prog : Program} {w : World} {A : Around} {E : Value → Shared → Prop} {s : Shared} {v : Value} {o : Obj} {H : Heap → Prop} {Q : Value → Shared → Prop} (B : Begins v o H) (h1 : H s.heap)
    (h : ∀ h', IsEnum h' (s.heap.objs.size + 1) s.heap.objs.size 0 .none → h'.get? s.heap.objs.size = some o → h'.objs.size = s.heap.objs.size + 2 →
      (∀ b o, s.heap.get? b = some o → h'.get? b = some o) → Q (.ref (s.heap.objs.size + 1)) { s with heap := h' }) :
    wpAny (model prog w) A (call (.type "enumerate") [v]) Q E s := by
  refine callType_new F.called_enumerate (by decide) (F.typeCall_enumerate_1 _) (F.newCall_enumerate_1 _) (fun obj => F.args_object_init_2 obj _) F.entry_enumerate_new
    (meets_enum1 B) ⟨h1, ?_⟩
  have hz : (s.heap.push o).objs.size = s.heap.objs.size + 1 := Heap.size_push ..
  show _ ∧ _
  rw [hz]
  have he : IsEnum ((s.heap.push o).push { cls := .type "enumerate", data := .fields #[.none, .bool false, .ref s.heap.objs.size, rawInt 0, .none, .none] }) (s.heap.objs.size + 1) s.heap.objs.size 0 .none := by
    have := Heap.get?_push_size (s.heap.push o) (o := { cls := .type "enumerate", data := .fields #[.none, .bool false, .ref s.heap.objs.size, rawInt 0, .none, .none] }) rfl
    rw [hz] at this; exact this
  refine ⟨⟨_, he, rfl⟩, h _ he (Heap.get?_push_of_some _ (Heap.get?_push_size _ B.free)) (by rw [Heap.size_push, hz]) fun b o x => Heap.get?_push_of_some _ (Heap.get?_push_of_some _ x)⟩
end PySem
namespace KN
open PySem L2 PyProof.Rows

/-! ### enumerate over a tuple, a text -/
def IteT (K : Fg) (a : Addr) : It :=
  ⟨fun i H => ∃ (xs : List V) (x : V), SqT K H a xs ∧ xs[i]? = some x, fun i H v H' => ∃ T x, v = .ref T ∧ H T = none ∧ H' = upd H T (.tup [.int (i : Nat), x]) ∧ ∀ xs, SqT K H a xs → xs[i]? = some x, fun i H => ∃ xs : List V, SqT K H a xs ∧ xs.length = i⟩
theorem turn_enumT {P : Program} {w : World} {K : Fg} {elts : List Expr} {kk : Nat} {tpos : Pos} (a e it : Addr) :
    Turn P w K (.Tuple elts kk tpos) (IteT K a) [e, it] e (fun i h => (∃ old, IsEnum h e it ((i : Nat) : Int) old) ∧ h.IsTupleIter it a i ∧ e ≠ it ∧ a ≠ it ∧ a ≠ e) where
  mem := by simp
  obj := fun i h st b hb => by
    obtain ⟨⟨old, he⟩, ⟨o, ho, hc, hd⟩, _⟩ := st
    have e' : b = e ∨ b = it := by simpa using hb
    rcases e' with z | z
    · rw [z]; exact ⟨_, he, fun v q => nomatch q⟩
    · rw [z]; exact ⟨o, ho, fun v q => by rw [hd] at q; cases q⟩
  keep := fun i h h' st k => let ⟨⟨old, he⟩, hi, hne⟩ := st; ⟨⟨old, k e (by simp) _ he⟩, hi.at fun o q => k it (by simp) o q, hne⟩
  item := by
    intro X hP hw hK hc i pins s σ H E I hf st hg
    subst hP hw hK
    obtain ⟨⟨old, he⟩, hit, hne, hai, hae⟩ := st
    obtain ⟨xs, x, hq, hx⟩ := hg
    obtain ⟨its, rv, p, hz⟩ := I.tuple hq
    obtain ⟨u, hu, ru⟩ := rv.get hx
    have hel : e < s.heap.objs.size := Heap.lt_size he
    have hil : it < s.heap.objs.size := by obtain ⟨_, q, _⟩ := hit; exact Heap.lt_size q
    have hlt : i < its.toArray.size := by
      have := (List.getElem?_eq_some_iff.mp hu).1
      simpa using this
    refine wpAny_pyNext_enum_itemC (Draws.tuple (A := X.A.in1) (I.ok.hd hc) it a hai its.toArray) he ⟨hit, p⟩ hlt hne (by simp [hne, Ne.symm hae]) fun u' h' tk hu' ho hst' hT hsz hk => ?_
    have eu : u' = u := by
      have q : its.toArray[i]? = some u := by simpa using hu
      exact Option.some.inj (hu'.symm.trans q)
    subst eu
    refine ⟨_, rfl, wpAny_letOwnedTupleGo_enum (s := { s with heap := h', toks := tk + 1 }) ho fun h'' he' sb => ?_⟩
    have hT2 : h''.get? s.heap.objs.size = some { cls := .type "tuple", data := .seq #[.int i tk, u'] } := (sb.2 _ (Nat.ne_of_gt hel)).trans hT
    have new : ObjOk X.prog X.w (upd H s.heap.objs.size (.tup [.int (i : Nat), x])) h'' s.heap.objs.size (.tup [.int (i : Nat), x]) :=
      ⟨by show 2 ≤ sizeLine; decide, [.int i tk, u'], .cons ⟨_, rfl⟩ (.cons ru .nil), ⟨_, hT2, rfl, _, rfl⟩⟩
    have I1 : L2.Inv X pins σ (upd H s.heap.objs.size (.tup [.int (i : Nat), x])) { s with heap := h'', toks := tk + 1 } :=
      I.turnedNew (ch := [e, it]) (fun b ob hb q => (sb.2 b (fun z => hb (by simp [z]))).trans (hk b ob (fun z => hb (by simp [z])) (fun z => hb (by simp [z])) q)) hf (Nat.le_refl _) new
    refine ⟨.ref s.heap.objs.size, _, I1, rfl, ⟨_, x, rfl, I.hok.fresh (Nat.le_refl _), rfl, fun ys hy => by rw [I.tuple_inj hy hq]; exact hx⟩, ⟨⟨u', ?_⟩, hst'.1.at fun o q => (sb.2 it (Ne.symm hne)).trans q, hne, hai, hae⟩, fun b hb => ?_⟩
    · have e1 : ((i + 1 : Nat) : Int) = (i : Int) + 1 := by omega
      rw [e1]; exact he'
    · have hb' : b < s.heap.objs.size := by
        have e' : b = e ∨ b = it := by simpa using hb
        rcases e' with z | z
        · rw [z]; exact hel
        · rw [z]; exact hil
      rw [upd_ne (Nat.ne_of_lt hb')]
      exact (hf b hb).1
  done := by
    intro X hP hw hK hc i pins s σ H E I hf st hg
    subst hP hw hK
    obtain ⟨⟨old, he⟩, hit, hne, hai, hae⟩ := st
    obtain ⟨xs, hq, hx⟩ := hg
    obtain ⟨its, rv, p, hz⟩ := I.tuple hq
    obtain ⟨f0, f1, f2, f3, f4, f5⟩ := hf it (by simp)
    have hl := rv.length
    have hn : its.toArray.size = i := by simp; omega
    refine wpAny_pyNext_enum_endD (Draws.tuple (A := X.A.in1) (I.ok.hd hc) it a hai its.toArray) he (by rw [hn]; exact ⟨hit, p⟩) fun h' eb => ⟨rfl, I.turned (t' := s.toks) (fun b o hb q => eb b o hb q) f0 f1 f3 f4 f5⟩
  self := fun A i s Q E st h => let ⟨⟨_, he⟩, _⟩ := st; wpAny_pyIter_enum he h
def IteS (x : Str) : It :=
  ⟨fun i H => i < x.cps.size, fun i H v H' => ∃ T c, v = .ref T ∧ H T = none ∧ H' = upd H T (.tup [.int (i : Nat), .str ⟨#[c]⟩]) ∧ x.cps[i]? = some c, fun i H => i = x.cps.size⟩
theorem turn_enumS {P : Program} {w : World} {K : Fg} {elts : List Expr} {kk : Nat} {tpos : Pos} (x : Str) (t : Tok) (e it : Addr) :
    Turn P w K (.Tuple elts kk tpos) (IteS x) [e, it] e (fun i h => (∃ old, IsEnum h e it ((i : Nat) : Int) old) ∧ h.IsStrIter it (strIterType x) x t i ∧ e ≠ it) where
  mem := by simp
  obj := fun i h st b hb => by
    obtain ⟨⟨old, he⟩, ⟨o, ho, hc, hd⟩, _⟩ := st
    have e' : b = e ∨ b = it := by simpa using hb
    rcases e' with z | z
    · rw [z]; exact ⟨_, he, fun v q => nomatch q⟩
    · rw [z]; exact ⟨o, ho, fun v q => by rw [hd] at q; cases q⟩
  keep := fun i h h' st k => let ⟨⟨old, he⟩, hi, hne⟩ := st; ⟨⟨old, k e (by simp) _ he⟩, (by obtain ⟨o, ho, hr⟩ := hi; exact ⟨o, k it (by simp) o ho, hr⟩), hne⟩
  item := by
    intro X hP hw hK hc i pins s σ H E I hf st hg
    subst hP hw hK
    obtain ⟨⟨old, he⟩, hit, hne⟩ := st
    have hel : e < s.heap.objs.size := Heap.lt_size he
    have hil : it < s.heap.objs.size := by obtain ⟨_, q, _⟩ := hit; exact Heap.lt_size q
    refine wpAny_pyNext_enum_itemC (Draws.text (A := X.A.in1) (I.ok.hd hc) it x t) he hit hg hne (by simp [hne]) fun u' h' tk hu' ho hst' hT hsz hk => ?_
    obtain ⟨c, u, hc1, rfl⟩ := hu'
    refine ⟨_, rfl, wpAny_letOwnedTupleGo_enum (s := { s with heap := h', toks := tk + 1 }) ho fun h'' he' sb => ?_⟩
    have hT2 : h''.get? s.heap.objs.size = some { cls := .type "tuple", data := .seq #[.int i tk, .str ⟨#[c]⟩ u] } := (sb.2 _ (Nat.ne_of_gt hel)).trans hT
    have new : ObjOk X.prog X.w (upd H s.heap.objs.size (.tup [.int (i : Nat), .str ⟨#[c]⟩])) h'' s.heap.objs.size (.tup [.int (i : Nat), .str ⟨#[c]⟩]) :=
      ⟨by show 2 ≤ sizeLine; decide, [.int i tk, .str ⟨#[c]⟩ u], .cons ⟨_, rfl⟩ (.cons ⟨_, rfl⟩ .nil), ⟨_, hT2, rfl, _, rfl⟩⟩
    have I1 : L2.Inv X pins σ (upd H s.heap.objs.size (.tup [.int (i : Nat), .str ⟨#[c]⟩])) { s with heap := h'', toks := tk + 1 } :=
      I.turnedNew (ch := [e, it]) (fun b ob hb q => (sb.2 b (fun z => hb (by simp [z]))).trans (hk b ob (fun z => hb (by simp [z])) (fun z => hb (by simp [z])) q)) hf (Nat.le_refl _) new
    refine ⟨.ref s.heap.objs.size, _, I1, rfl, ⟨_, c, rfl, I.hok.fresh (Nat.le_refl _), rfl, hc1⟩, ⟨⟨.str ⟨#[c]⟩ u, ?_⟩, (by obtain ⟨o, ho, hr⟩ := hst'; exact ⟨o, (sb.2 it (Ne.symm hne)).trans ho, hr⟩), hne⟩, fun b hb => ?_⟩
    · have e1 : ((i + 1 : Nat) : Int) = (i : Int) + 1 := by omega
      rw [e1]; exact he'
    · have hb' : b < s.heap.objs.size := by
        have e' : b = e ∨ b = it := by simpa using hb
        rcases e' with z | z
        · rw [z]; exact hel
        · rw [z]; exact hil
      rw [upd_ne (Nat.ne_of_lt hb')]
      exact (hf b hb).1
  done := by
    intro X hP hw hK hc i pins s σ H E I hf st hg
    subst hP hw hK
    obtain ⟨⟨old, he⟩, hit, hne⟩ := st
    obtain ⟨f0, f1, f2, f3, f4, f5⟩ := hf it (by simp)
    have hg : i = x.cps.size := hg
    subst hg
    exact wpAny_pyNext_enum_endD (Draws.text (A := X.A.in1) (I.ok.hd hc) it x t) he hit fun h' eb => ⟨rfl, I.turned (t' := s.toks) (fun b o hb q => eb b o hb q) f0 f1 f3 f4 f5⟩
  self := fun A i s Q E st h => let ⟨⟨_, he⟩, _⟩ := st; wpAny_pyIter_enum he h

/-! ### what is walked, by its items -/
/-- the walks whose items come in tuples of their own -/
def pairIk : IK → Bool
  | .enum | .zip | .items => true
  | _ => false
structure Wk (K : Fg) (G Gv : Hp) (J : It) (ds : List D) (p : Bool) : Prop where
  go : ∀ i H, Same Gv H → i < ds.length → J.go i H
  stop : ∀ H, Same Gv H → J.stop ds.length H
  yld : ∀ i H x H' d, Same Gv H → ds[i]? = some d → J.yld i H x H' → (H' = H ∧ DR K G x d) ∨ p = true ∧
    ∃ T a b va vb, x = .ref T ∧ H T = none ∧ H' = upd H T (.tup [va, vb]) ∧ d = .tuple [a, b] ∧ DR K G va a ∧ DR K G vb b
def iD (K : Fg) (ik : IK) (t : TA) : TI := fun σ H R => t σ H fun vs H1 => ∃ G Gv ds items, Same G Gv ∧ Same Gv H1 ∧ Views K none G Gv vs ds ∧ walkD ik ds = some items ∧ ∀ J, Wk K G Gv J items (pairIk ik) → R J H1
def iDe (K : Fg) (te : TE) : TI := fun σ H R => te σ H fun v H1 => ∃ G Gv d items, Same G Gv ∧ Same Gv H1 ∧ View K none G Gv v d ∧ itemsD d = some items ∧ ∀ J, Wk K G Gv J items false → R J H1

theorem rangeD_get : ∀ (n : Nat) (lo : Int) (i : Nat), (rangeD lo n)[i]? = if i < n then some (.int (lo + i)) else none
  | 0, lo, i => by simp [rangeD]
  | n + 1, lo, 0 => by simp [rangeD]
  | n + 1, lo, i + 1 => by
    unfold rangeD
    rw [List.getElem?_cons_succ, rangeD_get n (lo + 1) i]
    by_cases h : i < n
    · rw [if_pos h, if_pos (by omega)]
      have e : lo + 1 + (i : Int) = lo + ((i + 1 : Nat) : Int) := by omega
      rw [e]
    · rw [if_neg h, if_neg (by omega)]
theorem rangeD_len : ∀ (n : Nat) (lo : Int), (rangeD lo n).length = n
  | 0, _ => rfl
  | n + 1, lo => by unfold rangeD; rw [List.length_cons, rangeD_len]
theorem wk_range {K : Fg} {G Gv : Hp} (lo : Int) (n : Nat) : Wk K G Gv (Itr lo n) (rangeD lo n) false where
  go := fun i H _ h => by rw [rangeD_len] at h; exact h
  stop := fun H _ => by rw [rangeD_len]; exact Nat.le_refl _
  yld := fun i H x H' d _ e y => by
    obtain ⟨rfl, rfl⟩ := y
    rw [rangeD_get] at e
    split at e
    · cases e; exact .inl ⟨rfl, .int _⟩
    · cases e
/-- the list at a, of the items ds -/
theorem wk_list {K : Fg} {G Gv : Hp} {a : Addr} {xs : List V} {ds : List D} (h : SqL K Gv a xs) (r : DRs K G xs ds) : Wk K G Gv (Itl K a) ds false where
  go := fun i H s hi => by
    obtain ⟨u, hu, _⟩ := r.get (List.getElem?_eq_getElem hi)
    exact ⟨xs, u, s.seq h, hu⟩
  stop := fun H s => ⟨xs, s.seq h, by rw [r.length]; exact Nat.le_refl _⟩
  yld := fun i H x H' d s e y => by
    obtain ⟨rfl, y⟩ := y
    obtain ⟨u, hu, hd⟩ := r.get e
    have := y xs (s.seq h)
    rw [hu] at this
    cases this
    exact .inl ⟨rfl, hd⟩
theorem wk_tup {K : Fg} {G Gv : Hp} {a : Addr} {xs : List V} {ds : List D} (h : SqT K Gv a xs) (r : DRs K G xs ds) : Wk K G Gv (Itt K a) ds false where
  go := fun i H s hi => by
    obtain ⟨u, hu, _⟩ := r.get (List.getElem?_eq_getElem hi)
    exact ⟨xs, u, SqT.same s h, hu⟩
  stop := fun H s => ⟨xs, SqT.same s h, by rw [r.length]; exact Nat.le_refl _⟩
  yld := fun i H x H' d s e y => by
    obtain ⟨rfl, y⟩ := y
    obtain ⟨u, hu, hd⟩ := r.get e
    have := y xs (SqT.same s h)
    rw [hu] at this
    cases this
    exact .inl ⟨rfl, hd⟩
theorem drk_get {K : Fg} {G : Hp} : ∀ {vs : List (Key × V)} {ds : List (D × D)} {i : Nat} {p : D × D}, DRk K G vs ds → ds[i]? = some p → ∃ k v, vs[i]? = some (k, v) ∧ p.1 = kD k ∧ DR K G v p.2
  | _, _, _, _, .nil, e => by simp at e
  | _, _, 0, _, .cons h _, e => by simp at e; subst e; exact ⟨_, _, rfl, rfl, h⟩
  | _, _, i + 1, p, .cons _ t, e => by
    obtain ⟨k, v, h1, h2⟩ := drk_get (i := i) (p := p) t (by simpa using e)
    exact ⟨k, v, by simpa using h1, h2⟩
theorem wk_keys {K : Fg} {G Gv : Hp} {a : Addr} {o : Obj} {kvs : List (Key × V)} {ds : List (D × D)} (h : Gv a = some (.frz o (.dK kvs))) (r : DRk K G kvs ds) : Wk K G Gv (Itk a o kvs) (ds.map (·.1)) false where
  go := fun i H s hi => ⟨s _ _ h, by rw [List.length_map] at hi; rw [r.length]; exact hi⟩
  stop := fun H s => ⟨s _ _ h, by rw [List.length_map, r.length]; exact Nat.le_refl _⟩
  yld := fun i H x H' d s e y => by
    obtain ⟨rfl, k, v, h1, rfl⟩ := y
    rw [List.getElem?_map, Option.map_eq_some_iff] at e
    obtain ⟨p, e1, rfl⟩ := e
    obtain ⟨k', v', h2, h3, _⟩ := drk_get r e1
    rw [h1] at h2
    cases h2
    rw [h3]
    exact .inl ⟨rfl, kV_DR k⟩
theorem wk_vals {K : Fg} {G Gv : Hp} {a : Addr} {o : Obj} {kvs : List (Key × V)} {ds : List (D × D)} (h : Gv a = some (.frz o (.dK kvs))) (r : DRk K G kvs ds) : Wk K G Gv (Itd a o kvs) (ds.map (·.2)) false where
  go := fun i H s hi => ⟨s _ _ h, by rw [List.length_map] at hi; rw [r.length]; exact hi⟩
  stop := fun H s => ⟨s _ _ h, by rw [List.length_map, r.length]; exact Nat.le_refl _⟩
  yld := fun i H x H' d s e y => by
    obtain ⟨rfl, k, h1⟩ := y
    rw [List.getElem?_map, Option.map_eq_some_iff] at e
    obtain ⟨p, e1, rfl⟩ := e
    obtain ⟨k', v', h2, h3, h4⟩ := drk_get r e1
    rw [h1] at h2
    cases h2
    exact .inl ⟨rfl, h4⟩
theorem wk_items {K : Fg} {G Gv : Hp} {a : Addr} {o : Obj} {kvs : List (Key × V)} {ds : List (D × D)} (h : Gv a = some (.frz o (.dK kvs))) (r : DRk K G kvs ds) : Wk K G Gv (Iti a o kvs) (itmD ds) true where
  go := fun i H s hi => ⟨s _ _ h, by unfold itmD at hi; rw [List.length_map] at hi; rw [r.length]; exact hi⟩
  stop := fun H s => ⟨s _ _ h, by unfold itmD; rw [List.length_map, r.length]; exact Nat.le_refl _⟩
  yld := fun i H x H' d s e y => by
    obtain ⟨T, k, v, h1, rfl, hT, rfl⟩ := y
    unfold itmD at e
    rw [List.getElem?_map, Option.map_eq_some_iff] at e
    obtain ⟨p, e1, rfl⟩ := e
    obtain ⟨k', v', h2, h3, h4⟩ := drk_get r e1
    rw [h1] at h2
    cases h2
    exact .inr ⟨rfl, T, _, _, _, _, rfl, hT, rfl, rfl, by rw [h3]; exact kV_DR k, h4⟩
theorem wk_str {K : Fg} {G Gv : Hp} (z : Str) : Wk K G Gv (Its z) (z.cps.toList.map fun c => .str ⟨#[c]⟩) false where
  go := fun i H s hi => by show i < z.cps.size; simpa using hi
  stop := fun H s => by show z.cps.size ≤ _; simp
  yld := fun i H x H' d s e y => by
    obtain ⟨rfl, c, hc, rfl⟩ := y
    rw [List.getElem?_map, Array.getElem?_toList, hc] at e
    cases e
    exact .inl ⟨rfl, .str _⟩
theorem enumFrom_get : ∀ (ds : List D) (n i : Nat), (enumFrom n ds)[i]? = (ds[i]?).map fun d => .tuple [.int ((n + i : Nat) : Int), d]
  | [], n, i => by simp [enumFrom]
  | d :: r, n, 0 => by simp [enumFrom]
  | d :: r, n, i + 1 => by
    unfold enumFrom
    rw [List.getElem?_cons_succ, List.getElem?_cons_succ, enumFrom_get r (n + 1) i]
    have e : n + 1 + i = n + (i + 1) := by omega
    rw [e]
theorem enumFrom_len : ∀ (ds : List D) (n : Nat), (enumFrom n ds).length = ds.length
  | [], _ => rfl
  | d :: r, n => by unfold enumFrom; rw [List.length_cons, List.length_cons, enumFrom_len]
theorem enum_at {ds : List D} {i : Nat} {d : D} (e : (enumFrom 0 ds)[i]? = some d) : ∃ x, ds[i]? = some x ∧ d = .tuple [.int (i : Nat), x] := by
  rw [enumFrom_get] at e
  cases q : ds[i]? with
  | none => rw [q] at e; cases e
  | some x =>
    rw [q] at e
    simp only [Option.map_some, Nat.zero_add, Option.some.injEq] at e
    exact ⟨x, rfl, e.symm⟩
theorem wk_enumL {K : Fg} {G Gv : Hp} {a : Addr} {xs : List V} {ds : List D} (h : SqL K Gv a xs) (r : DRs K G xs ds) : Wk K G Gv (Ite K a) (enumFrom 0 ds) true where
  go := fun i H s hi => by
    rw [enumFrom_len] at hi
    obtain ⟨u, hu, _⟩ := r.get (List.getElem?_eq_getElem hi)
    exact ⟨xs, u, s.seq h, hu⟩
  stop := fun H s => ⟨xs, s.seq h, by rw [enumFrom_len, r.length]; exact Nat.le_refl _⟩
  yld := fun i H x H' d s e y => by
    obtain ⟨T, z, rfl, hT, rfl, y⟩ := y
    obtain ⟨d', e', rfl⟩ := enum_at e
    obtain ⟨u, hu, hd⟩ := r.get e'
    have := y xs (s.seq h)
    rw [hu] at this
    cases this
    exact .inr ⟨rfl, T, _, _, _, _, rfl, hT, rfl, rfl, .int _, hd⟩
theorem wk_enumT {K : Fg} {G Gv : Hp} {a : Addr} {xs : List V} {ds : List D} (h : SqT K Gv a xs) (r : DRs K G xs ds) : Wk K G Gv (IteT K a) (enumFrom 0 ds) true where
  go := fun i H s hi => by
    rw [enumFrom_len] at hi
    obtain ⟨u, hu, _⟩ := r.get (List.getElem?_eq_getElem hi)
    exact ⟨xs, u, SqT.same s h, hu⟩
  stop := fun H s => ⟨xs, SqT.same s h, by rw [enumFrom_len, r.length]⟩
  yld := fun i H x H' d s e y => by
    obtain ⟨T, z, rfl, hT, rfl, y⟩ := y
    obtain ⟨d', e', rfl⟩ := enum_at e
    obtain ⟨u, hu, hd⟩ := r.get e'
    have := y xs (SqT.same s h)
    rw [hu] at this
    cases this
    exact .inr ⟨rfl, T, _, _, _, _, rfl, hT, rfl, rfl, .int _, hd⟩
theorem wk_enumS {K : Fg} {G Gv : Hp} (z : Str) : Wk K G Gv (IteS z) (enumFrom 0 (z.cps.toList.map fun c => .str ⟨#[c]⟩)) true where
  go := fun i H s hi => by show i < z.cps.size; rw [enumFrom_len] at hi; simpa using hi
  stop := fun H s => by show _ = z.cps.size; rw [enumFrom_len]; simp
  yld := fun i H x H' d s e y => by
    obtain ⟨T, c, rfl, hT, rfl, hc⟩ := y
    obtain ⟨d', e', rfl⟩ := enum_at e
    rw [List.getElem?_map, Array.getElem?_toList, hc] at e'
    cases e'
    exact .inr ⟨rfl, T, _, _, _, _, rfl, hT, rfl, rfl, .int _, .str _⟩
end KN

set_option maxRecDepth 100000
set_option maxHeartbeats 1000000
namespace KN
open PySem L2 PyProof.Rows
section
variable {X : Cx} {tg : Expr}
theorem pi_ex {e : Expr} {te : TE} (he : PE X e te) : PI X tg e (iDe X.K te) := by
  refine ⟨fun pins s σ H R I h => ?_⟩
  refine thn (he.run pins s σ H _ I h) fun v s1 ⟨x, H1, I1, r1, G, Gv, d, items, sm, sv, vw, ei, q⟩ => ?_
  cases d with
  | list ds =>
    cases ei
    obtain ⟨a, xs, rfl, rd, dr⟩ := vw.lst sm
    cases r1
    obtain ⟨its, rv, p, hz⟩ := I1.list (sv.seq rd)
    refine wpAny_pyIter_list p.isList ?_
    refine ⟨s1.heap.objs.size, [s1.heap.objs.size], _, _, H1, rfl, I1.kept (t' := s1.toks) fun b o e => Heap.get?_push_of_some _ e, turn_list a _, ⟨_, Heap.get?_push_size _ rfl, rfl, rfl⟩, fun b hb => ?_, q _ (wk_list rd dr)⟩
    have e : b = s1.heap.objs.size := by simpa using hb
    subst e
    exact I1.fpOk (Nat.le_refl _) (I1.hok.fresh (Nat.le_refl _))
  | tuple ds =>
    cases ei
    obtain ⟨a, xs, rfl, rd, dr⟩ := vw.tup sm
    cases r1
    obtain ⟨its, rv, p, hz⟩ := I1.tuple (SqT.same sv rd)
    refine wpAny_pyIter_tuple (show s1.heap.IsTuple a its.toArray from p) ?_
    refine ⟨s1.heap.objs.size, [s1.heap.objs.size], _, _, H1, rfl, I1.kept (t' := s1.toks) fun b o e => Heap.get?_push_of_some _ e, turn_tuple a _, ⟨_, Heap.get?_push_size _ rfl, rfl, rfl⟩, fun b hb => ?_, q _ (wk_tup rd dr)⟩
    have e : b = s1.heap.objs.size := by simpa using hb
    subst e
    exact I1.fpOk (Nat.le_refl _) (I1.hok.fresh (Nat.le_refl _))
  | str z =>
    cases ei
    rw [vw.str] at r1
    obtain ⟨t, rfl⟩ := r1
    have q := q _ (wk_str z)
    cases ha : z.cps.all (· < 128)
    · exact wpAny_pyIter_wide ha (pi_one (tk := s1.toks) I1 _ (turn_str _ z t "str_iterator" (.inr rfl)) ⟨_, Heap.get?_push_size _ rfl, rfl, rfl⟩ q)
    · exact wpAny_pyIter_ascii ha (pi_one (tk := s1.toks) I1 _ (turn_str _ z t "str_ascii_iterator" (.inl rfl)) ⟨_, Heap.get?_push_size _ rfl, rfl, rfl⟩ q)
  | dict ds =>
    cases ei
    obtain ⟨a, od, ks, rfl, hd, dr⟩ := vw.dic sm
    cases r1
    obtain ⟨hs, hgd, hx, es, ep, vs, hdt, hsz, kv, hm⟩ := I1.frzK (sv _ _ hd)
    refine iter_keys hs hgd hx hdt (pi_one (tk := s1.toks) I1 _ (turn_keys _ hdt) ⟨_, Heap.get?_push_size _ rfl, rfl, ?_⟩ (q _ (wk_keys hd dr)))
    rw [hsz] <;> rfl
  | _ => cases ei
theorem pi_enumD {e : Expr} {ta : TA} {p pos tpos : Pos} {elts : List Expr} {kk : Nat} (hg : Gl X "enumerate") (hm : X.mg "enumerate" = none) (ha : PA X [e] ta) (hs : starEach [e] X.env = [(false, eval e X.env)]) :
    PI X (.Tuple elts kk tpos) (.Call (.Name "enumerate" p) [e] [] pos) (iD X.K .enum ta) := by
  refine ⟨fun pins s σ H R I h => ?_⟩
  refine Call_ (ld_blt I hg hm boot_enumerate (PyProof.Rows.callWith_type1 (thn (ha.run pos pins s σ H _ I h) fun us s1 ⟨vs, H1, I1, r1, G, Gv, ds, items, sm, sv, vw, ei, q⟩ => ?_) hs rfl))
  cases vw with
  | nil => cases ei
  | cons v1 vr =>
    cases vr with
    | cons _ _ => cases ei
    | nil =>
      rename_i x d
      simp only [walkD] at ei
      split at ei
      · rename_i its0 hi
        cases ei
        cases r1 with
        | cons r rr =>
          cases rr
          have fp2 : ∀ b, b ∈ [s1.heap.objs.size + 1, s1.heap.objs.size] → FpOk X pins H1 b := fun b hb => by
            have e' : b = s1.heap.objs.size + 1 ∨ b = s1.heap.objs.size := by simpa using hb
            have hle : s1.heap.objs.size ≤ b := by
              rcases e' with z | z
              · rw [z]; exact Nat.le_add_right _ _
              · rw [z]; exact Nat.le_refl _
            exact I1.fpOk hle (I1.hok.fresh hle)
          cases d with
          | list ds =>
            cases hi
            obtain ⟨a, xs, rfl, rd, dr⟩ := v1.lst sm
            cases r
            obtain ⟨its, rv, p', hz⟩ := I1.list (sv.seq rd)
            refine call_enumerate_list p'.isList fun h' he hit hsz hk => wpAny_pyIter_enum he ?_
            have I2 : L2.Inv X pins σ H1 { s1 with heap := h' } := I1.kept (t' := s1.toks) hk
            exact ⟨s1.heap.objs.size + 1, [s1.heap.objs.size + 1, s1.heap.objs.size], _, _, H1, rfl, I2, turn_enum a (s1.heap.objs.size + 1) s1.heap.objs.size, ⟨⟨.none, he⟩, hit, Nat.succ_ne_self _⟩, fp2, q _ (wk_enumL rd dr)⟩
          | tuple ds =>
            cases hi
            obtain ⟨a, xs, rfl, rd, dr⟩ := v1.tup sm
            cases r
            obtain ⟨its, rv, p', hz⟩ := I1.tuple (SqT.same sv rd)
            have hlt : a < s1.heap.objs.size := by obtain ⟨o, ho, _⟩ := id p'; exact Heap.lt_size ho
            refine enum1_begins (begins_tuple a its.toArray) (show s1.heap.IsTuple a its.toArray from p') fun h' he ho hsz hk => wpAny_pyIter_enum he ?_
            have I2 : L2.Inv X pins σ H1 { s1 with heap := h' } := I1.kept (t' := s1.toks) hk
            exact ⟨s1.heap.objs.size + 1, [s1.heap.objs.size + 1, s1.heap.objs.size], _, _, H1, rfl, I2, turn_enumT a (s1.heap.objs.size + 1) s1.heap.objs.size, ⟨⟨.none, he⟩, ⟨_, ho, rfl, rfl⟩, Nat.succ_ne_self _, Nat.ne_of_lt hlt, Nat.ne_of_lt (Nat.lt_succ_of_lt hlt)⟩, fp2, q _ (wk_enumT rd dr)⟩
          | str z =>
            cases hi
            rw [v1.str] at r
            obtain ⟨t, rfl⟩ := r
            refine enum1_begins (begins_text z t) trivial fun h' he ho hsz hk => wpAny_pyIter_enum he ?_
            have I2 : L2.Inv X pins σ H1 { s1 with heap := h' } := I1.kept (t' := s1.toks) hk
            exact ⟨s1.heap.objs.size + 1, [s1.heap.objs.size + 1, s1.heap.objs.size], _, _, H1, rfl, I2, turn_enumS z t (s1.heap.objs.size + 1) s1.heap.objs.size, ⟨⟨.none, he⟩, ⟨_, ho, rfl, rfl⟩, Nat.succ_ne_self _⟩, fp2, q _ (wk_enumS z)⟩
          | _ => cases hi
      · cases ei
end

/-! ### values, pairs of a dict -/
def baseOk : Expr → Bool
  | .Name _ _ => true
  | .Subscript _ _ _ => true
  | _ => false
theorem base_of {e : Expr} {m : Str} {env : PySem.Env} (h : baseOk e = true) : attributeBase e m env (eval e env) = eval e env := by
  cases e <;> first | rfl | cases h
section
variable {X : Cx} {tg e : Expr} {apos cpos : Pos}
/-- a reading with less asked behind it -/
def up (t : TE) : TE := fun σ H Q => ∃ P : VK, t σ H P ∧ ∀ v H', P v H' → Q v H'
theorem pe_up {t : TE} (h : PE X e t) : PE X e (up t) := ⟨fun pins s σ H Q I q => by
  obtain ⟨P, q1, q2⟩ := q
  exact thn (h.run pins s σ H P I q1) fun u s' ⟨v, H', I', r, p⟩ => ⟨v, H', I', r, q2 v H' p⟩⟩
def iDv (K : Fg) (te : TE) : TI := fun σ H R => te σ H fun v H1 => ∃ G Gv ds, Same G Gv ∧ Same Gv H1 ∧ View K none G Gv v (.dict ds) ∧ ∀ J, Wk K G Gv J (ds.map (·.2)) false → R J H1
def iDi (K : Fg) (te : TE) : TI := fun σ H R => te σ H fun v H1 => ∃ G Gv ds, Same G Gv ∧ Same Gv H1 ∧ View K none G Gv v (.dict ds) ∧ ∀ J, Wk K G Gv J (itmD ds) true → R J H1
theorem pi_valsD {te : TE} (he : PE X e te) (hb : baseOk e = true) (hl : (apos.endLine == cpos.line) = true) : PI X tg (.Call (.Attribute e "values" apos) [] [] cpos) (iDv X.K te) := by
  refine ⟨fun pins s σ H R I h => (pi_values (pe_up he) (base_of hb) hl).run pins s σ H R I ⟨_, h, fun v H1 ⟨G, Gv, ds, sm, sv, vw, q⟩ => ?_⟩⟩
  obtain ⟨a, od, ks, rfl, hd, dr⟩ := vw.dic sm
  exact ⟨a, od, ks, rfl, sv _ _ hd, q _ (wk_vals hd dr)⟩
theorem pi_itemsD {te : TE} {elts : List Expr} {kk : Nat} {tpos : Pos} (he : PE X e te) (hb : baseOk e = true) (hl : (apos.endLine == cpos.line) = true) : PI X (.Tuple elts kk tpos) (.Call (.Attribute e "items" apos) [] [] cpos) (iDi X.K te) := by
  refine ⟨fun pins s σ H R I h => (pi_items (pe_up he) (base_of hb) hl).run pins s σ H R I ⟨_, h, fun v H1 ⟨G, Gv, ds, sm, sv, vw, q⟩ => ?_⟩⟩
  obtain ⟨a, od, ks, rfl, hd, dr⟩ := vw.dic sm
  exact ⟨a, od, ks, rfl, sv _ _ hd, q _ (wk_items hd dr)⟩
end
/-! ### zip -/
theorem zipD_get : ∀ (xs ys : List D) (i : Nat) (d : D), (zipD xs ys)[i]? = some d → ∃ a b, xs[i]? = some a ∧ ys[i]? = some b ∧ d = .tuple [a, b]
  | [], ys, i, d, e => by simp [zipD] at e
  | a :: r, [], i, d, e => by simp [zipD] at e
  | a :: r, b :: q, 0, d, e => by
    simp only [zipD, List.getElem?_cons_zero, Option.some.injEq] at e
    exact ⟨a, b, rfl, rfl, e.symm⟩
  | a :: r, b :: q, i + 1, d, e => by
    simp only [zipD, List.getElem?_cons_succ] at e
    simpa using zipD_get r q i d e
theorem zipD_len : ∀ (xs ys : List D), (zipD xs ys).length = min xs.length ys.length
  | [], ys => by simp [zipD]
  | a :: r, [] => by simp [zipD]
  | a :: r, b :: q => by
    simp only [zipD, List.length_cons, zipD_len r q]
    omega
theorem SqB.same {K : Fg} {G H : Hp} (s : Same G H) {a : Addr} {xs : List V} : ∀ {q : Bool}, SqB K q G a xs → SqB K q H a xs
  | true, h => s.seq h
  | false, h => SqT.same s h
theorem wk_zipG {K : Fg} {q p : Bool} {G Gv : Hp} {a b : Addr} {xs ys : List V} {ds es : List D} (h : SqB K q Gv a xs) (r : DRs K G xs ds) (h' : SqB K p Gv b ys) (r' : DRs K G ys es) : Wk K G Gv (Itzg K q p a b) (zipD ds es) true where
  go := fun i H s hi => by
    rw [zipD_len] at hi
    obtain ⟨u, hu, _⟩ := r.get (List.getElem?_eq_getElem (show i < ds.length by omega))
    obtain ⟨w, hw, _⟩ := r'.get (List.getElem?_eq_getElem (show i < es.length by omega))
    exact ⟨xs, ys, u, w, SqB.same s h, SqB.same s h', hu, hw⟩
  stop := fun H s => ⟨xs, ys, SqB.same s h, SqB.same s h', by rw [zipD_len, r.length, r'.length]; omega⟩
  yld := fun i H x H' d s e y => by
    obtain ⟨T, u, w, rfl, hT, rfl, y1, y2⟩ := y
    obtain ⟨d1, d2, e1, e2, rfl⟩ := zipD_get _ _ _ _ e
    obtain ⟨u', hu, hd⟩ := r.get e1
    obtain ⟨w', hw, hd'⟩ := r'.get e2
    have q1 := y1 xs (SqB.same s h)
    have q2 := y2 ys (SqB.same s h')
    rw [hu] at q1
    rw [hw] at q2
    cases q1
    cases q2
    exact .inr ⟨rfl, T, _, _, _, _, rfl, hT, rfl, rfl, hd, hd'⟩

/-! ### the readings of texts -/
section
variable (K : Fg) (ta : Option Addr) (C : Nat → List D → M D)
def tE (k : Kd) (t : E) : TE := fun σ H Q => ∃ G ρ τ d τ', Rel K ta G σ H ρ τ ∧ evE C t ρ τ = some (d, τ') ∧
  ∀ v G' H', Ext ta G H G' H' → Rel K ta G' σ H' ρ τ' → Val K ta H G' H' k v d → Q v H'
def tT (t : E) : TT := fun σ H Q => ∃ G ρ τ b τ', Rel K ta G σ H ρ τ ∧ ((evE C t ρ).bnd fun x => M.of (truD x)) τ = some (b, τ') ∧
  ∀ G' H', Ext ta G H G' H' → Rel K ta G' σ H' ρ τ' → Q b H'
def tV (ts : List E) : TA := fun σ H Q => ∃ G ρ τ ds τ', Rel K ta G σ H ρ τ ∧ evEs C ts ρ τ = some (ds, τ') ∧
  ∀ vs G' H', Ext ta G H G' H' → Rel K ta G' σ H' ρ τ' → Views K ta G' H' vs ds → Q vs H'
end
theorem PE.mono {X : Cx} {e : Expr} {t t' : TE} (h : PE X e t) (i : ∀ σ H Q, t' σ H Q → t σ H Q) : PE X e t' := ⟨fun pins s σ H Q I q => h.run pins s σ H Q I (i σ H Q q)⟩
theorem PT.mono {X : Cx} {e : Expr} {t t' : TT} (h : PT X e t) (i : ∀ σ H Q, t' σ H Q → t σ H Q) : PT X e t' := ⟨fun pins s σ H Q I q => h.run pins s σ H Q I (i σ H Q q)⟩
theorem PW.mono {X : Cx} {e : Expr} {t t' : TT} (h : PW X e t) (i : ∀ σ H Q, t' σ H Q → t σ H Q) : PW X e t' := ⟨fun wh pins s σ H Q I q => h.run wh pins s σ H Q I (i σ H Q q)⟩
theorem PA.mono {X : Cx} {es : List Expr} {t t' : TA} (h : PA X es t) (i : ∀ σ H Q, t' σ H Q → t σ H Q) : PA X es t' := ⟨fun p pins s σ H Q I q => h.run p pins s σ H Q I (i σ H Q q)⟩
theorem PS.mono {X : Cx} {st : Stmt} {t t' : TS} (h : PS X st t) (i : ∀ D σ H, t' D σ H → t D σ H) : PS X st t' := ⟨fun pins s σ H D I q => h.run pins s σ H D I (i D σ H q)⟩
theorem PSs.mono {X : Cx} {st : List Stmt} {t t' : TS} (h : PSs X st t) (i : ∀ D σ H, t' D σ H → t D σ H) : PSs X st t' := ⟨fun pins s σ H D I q => h.run pins s σ H D I (i D σ H q)⟩
theorem PI.mono {X : Cx} {tg it : Expr} {t t' : TI} (h : PI X tg it t) (i : ∀ σ H R, t' σ H R → t σ H R) : PI X tg it t' := ⟨fun pins s σ H R I q => h.run pins s σ H R I (i σ H R q)⟩
section
variable {K : Fg} {ta : Option Addr} {C : Nat → List D → M D} {t : E}
/-- a list just made is laid to the frozen part -/
theorem Fresh.freeze {H₀ G G' H' : Hp} {σ : L2.St} {ρ : En} {τ : List D} {v : V} {d : D} (f : Fresh K ta H₀ G' H' v d) (x : Ext ta G H₀ G' H') (r : Rel K ta G' σ H' ρ τ) (r0 : ∀ (i : Nat) ds, ρ[i]? = some (some (.own ds)) → ∀ a, σ[i]? = some (some (.ref a)) → H₀ a ≠ none) :
    ∃ G'', Ext ta G H₀ G'' H' ∧ Rel K ta G'' σ H' ρ τ ∧ DR K G'' v d := by
  obtain ⟨a, o, od, rfl, rfl, h0, h1, h2, h3, h4⟩ := f
  have sm : Same G' (upd G' a o) := fun b u h => by rw [upd_ne (ne_of_none h h2)]; exact h
  refine ⟨upd G' a o, ⟨x.g.trans sm, fun b u h => ?_, x.keep, x.there⟩, ⟨fun b u h => ?_, fun b e => ?_, fun i d e => ?_, fun i ds' e => ?_, r.apart, r.tn, r.len⟩, h4.dr sm upd_same⟩
  · by_cases e : b = a
    · subst e; exact .inr h0
    · rw [upd_ne e] at h; exact x.new b u h
  · by_cases e : b = a
    · subst e; rw [upd_same] at h; cases h; exact h3
    · rw [upd_ne e] at h; exact r.sub b u h
  · obtain ⟨n, ws, q1, q2⟩ := r.tin b e
    have : b ≠ a := fun z => h1 (by rw [e, z])
    exact ⟨by rw [upd_ne this]; exact n, ws, q1, q2.same sm⟩
  · obtain ⟨w, q1, q2⟩ := r.dat i d e
    exact ⟨w, q1, q2.same sm⟩
  · obtain ⟨b, ws, q1, q2, q3, q4, q5⟩ := r.own i ds' e
    have : b ≠ a := fun z => by
      subst z
      exact r0 i ds' e b q1 h0
    exact ⟨b, ws, q1, q2, by rw [upd_ne this]; exact q3, q4, q5.same sm⟩
theorem Rel.ownThere {G : Hp} {σ : L2.St} {H : Hp} {ρ : En} {τ : List D} (r : Rel K ta G σ H ρ τ) : ∀ (i : Nat) ds, ρ[i]? = some (some (.own ds)) → ∀ a, σ[i]? = some (some (.ref a)) → H a ≠ none := fun i ds e a q => by
  obtain ⟨b, ws, q1, q2, q3, q4, q5⟩ := r.own i ds e
  rw [q] at q1
  cases q1
  rw [q4]
  exact fun z => nomatch z
theorem tE_dat {k : Kd} (hk : k ≠ .peek) : ∀ σ H Q, tE K ta C .dat t σ H Q → tE K ta C k t σ H Q := by
  intro σ H Q h
  obtain ⟨G, ρ, τ, d, τ', r, e, q⟩ := h
  refine ⟨G, ρ, τ, d, τ', r, e, fun v G' H' x r' vl => ?_⟩
  cases k with
  | dat => exact q v G' H' x r' vl
  | peek => exact absurd rfl hk
  | fresh =>
    rcases vl with ⟨h, _⟩ | h
    · exact q v G' H' x r' h
    · obtain ⟨G'', x', r'', dr⟩ := h.freeze x r' r.ownThere
      exact q v G'' H' x' r'' dr
end
end KN

set_option maxRecDepth 100000
set_option maxHeartbeats 1000000
namespace KN
open PySem L2 PyProof.Rows

/-! ### a text is the row's -/
structure Kw where
  f : Nat
  np : Nat
  ks : List Str
  perm : List Nat
  deriving DecidableEq
structure Cn where
  N : List Str
  sc : Scope
  blk : Option Scope
  T : List (Nat × Fn)
  B : Tb
  gl : List (Str × D)
  kw : List Kw
def kdOf : E → Kd
  | .peek _ => .peek
  | .bin _ _ _ => .fresh
  | .bi _ _ => .fresh
  | .slice _ _ _ => .fresh
  | .rev _ => .fresh
  | .sset _ => .fresh
  | .lst _ => .fresh
  | .comp _ _ _ _ _ => .fresh
  | .comp2 _ _ _ _ _ _ _ _ _ => .fresh
  | .dcomp _ _ _ _ _ _ => .fresh
  | .dic0 => .fresh
  | .dic1 _ _ => .fresh
  | .sitm _ => .fresh
  | .callN _ _ => .fresh
  | .or a b => if kdOf a = .fresh ∧ kdOf b = .fresh then .fresh else .dat
  | _ => .dat
def plain (t : E) : Bool := match kdOf t with
  | .peek => false
  | _ => true
def visB (sc : Scope) (x : Str) : Bool := match sc.names.lookup x with
  | some .local => true
  | some .cell => true
  | some .free => true
  | _ => false
def nameOk (Γ : Cn) (i : Nat) (x : Str) : Bool := decide (Γ.N[i]? = some x) && visB Γ.sc x && !(x == ("__debug__" : Str)) && !(x == ("__classdict__" : Str))
def glOk (Γ : Cn) (x : Str) : Bool := (match Γ.sc.names.lookup x with
  | some .globalImplicit => true
  | _ => false) && !(x == ("__debug__" : Str)) && decide (x ≠ "__name__")
def stOk (Γ : Cn) (x : Str) : Bool := match Γ.sc.names.lookup x with
  | some .local => true
  | some .cell => (match Γ.blk with
    | none => true
    | some s => s.names.lookup x == some .cell)
  | _ => false
/-- a target -/
def mNames (Γ : Cn) : List Nat → List Expr → Bool
  | [], [] => true
  | i :: is, .Name x _ :: es => decide (Γ.N[i]? = some x) && stOk Γ x && mNames Γ is es
  | _, _ => false
def mTg (Γ : Cn) : Tg → Expr → Bool
  | .nm i, .Name x _ => decide (Γ.N[i]? = some x) && stOk Γ x
  | .tup is, .Tuple es _ _ => mNames Γ is es
  | _, _ => false
def isTupE : Expr → Bool
  | .Tuple _ _ _ => true
  | _ => false
def notStar : Expr → Bool
  | .Starred _ _ => false
  | _ => true
def notSet : Expr → Bool
  | .Set _ _ _ => false
  | _ => true
def notSlice : Expr → Bool
  | .Slice _ _ _ _ => false
  | _ => true
def fnIs (Γ : Cn) (f : Nat) (x : Str) (tin fresh : Bool) : Bool := match Γ.T.lookup f with
  | some F => decide (F.name = x) && (F.tin == tin) && (F.fresh == fresh)
  | none => false
/-- a def that draws nothing, whatever its value is -/
def fnAny (Γ : Cn) (f : Nat) (x : Str) : Bool := match Γ.T.lookup f with
  | some F => decide (F.name = x) && (F.tin == false)
  | none => false
def biL : List Str := ["len", "list", "tuple", "int", "abs", "sum", "max", "min", "all", "any", "sorted", "isinstance", "range", "enumerate", "zip", "bool", "str", "dict", "set"]
def tysOk (Γ : Cn) : List String → List Expr → Bool
  | [], [] => true
  | t :: ts, .Name x _ :: es => decide (x = Str.ofString t) && glOk Γ x && decide (x ∈ biL) && (bootBuiltins x == some (.type t)) && tysOk Γ ts es
  | _, _ => false
def blkOf2 (Γ : Cn) (tg tg1 : Tg) : List (Str × Nat) := (tg.slots ++ tg1.slots).map fun i => (Γ.N.getD i "", i)
/-- what is walked; m: how the sources are read, mr: those of a range -/
def srcB (ik : IK) (Γ : Cn) (t it : Expr) (m mr : List Expr → Bool) : Bool := match ik with
  | .ex => m [it]
  | .range => (match it with
    | .Call (.Name x _) args [] _ => decide (x = "range") && glOk Γ x && mr args && decide (args.length = 1 ∨ args.length = 2)
    | _ => false)
  | .enum => isTupE t && (match it with
    | .Call (.Name x _) args [] _ => decide (x = "enumerate") && glOk Γ x && m args && decide (args.length = 1)
    | _ => false)
  | .zip => isTupE t && (match it with
    | .Call (.Name x _) args [] _ => decide (x = "zip") && glOk Γ x && m args && decide (args.length = 2)
    | _ => false)
  | .items => isTupE t && (match it with
    | .Call (.Attribute o w ap) [] [] cp => decide (w = "items") && baseOk o && (ap.endLine == cp.line) && m [o]
    | _ => false)
  | .vals => (match it with
    | .Call (.Attribute o w ap) [] [] cp => decide (w = "values") && baseOk o && (ap.endLine == cp.line) && m [o]
    | _ => false)
def blkOf (Γ : Cn) (tg : Tg) : List (Str × Nat) := tg.slots.map fun i => (Γ.N.getD i "", i)
def Cn.inner (Γ : Cn) (scope : Scope) : Cn := { Γ with sc := relS scope Γ.sc, blk := some scope }
def kwNames : List Keyword → List Str
  | [] => []
  | ⟨some x, _, _⟩ :: r => x :: kwNames r
  | ⟨none, _, _⟩ :: r => kwNames r
def kwAll : List Keyword → Bool
  | [] => true
  | ⟨some _, _, _⟩ :: r => kwAll r
  | ⟨none, _, _⟩ :: _ => false
def kwVals : List Keyword → List Expr
  | [] => []
  | ⟨_, e, _⟩ :: r => e :: kwVals r

mutual
def mE : E → Cn → Expr → Bool
  | .var i, Γ, e => (match e with
    | .Name x _ => nameOk Γ i x
    | _ => false)
  | .peek i, Γ, e => (match e with
    | .Name x _ => nameOk Γ i x
    | _ => false)
  | .non, Γ, e => (match e with
    | .Constant .none _ _ => true
    | _ => false)
  | .bl b, Γ, e => (match e with
    | .Constant (.bool c) _ _ => b == c
    | _ => false)
  | .int i, Γ, e => (match e with
    | .Constant (.int j) _ _ => i == j
    | _ => false)
  | .str x, Γ, e => (match e with
    | .Constant (.str y) _ _ => decide (x = y)
    | _ => false)
  | .glob x z, Γ, e => (match e with
    | .Name y _ => decide (x = y) && glOk Γ x && (Γ.gl.any fun p => decide (p.1 = x) && eqK p.2 z)
    | _ => false)
  | .bin op a b, Γ, e => (match e with
    | .BinOp l op' r _ => decide (op = op') && mE a Γ l && mE b Γ r
    | _ => false)
  | .cmp op a b, Γ, e => (match e with
    | .Compare l [op'] [r] _ => decide (op = op') && mE a Γ l && mE b Γ r && !behindInMarks op r
    | _ => false)
  | .chain o1 o2 a b c, Γ, e => (match e with
    | .Compare l [p1, p2] [m, r] _ => decide (o1 = p1) && decide (o2 = p2) && mE a Γ l && mE b Γ m && mE c Γ r && !lastMarks [p1, p2] [m, r]
    | _ => false)
  | .neg a, Γ, e => (match e with
    | .UnaryOp .USub x _ => mE a Γ x
    | _ => false)
  | .not a, Γ, e => (match e with
    | .UnaryOp .Not x _ => mE a Γ x
    | _ => false)
  | .and a b, Γ, e => plain a && plain b && (match e with
    | .BoolOp .And (x :: y :: r) pos => mE a Γ x && (match r with
      | [] => mE b Γ y
      | _ :: _ => mE b Γ (.BoolOp .And (y :: r) pos))
    | _ => false)
  | .or a b, Γ, e => plain a && plain b && (match e with
    | .BoolOp .Or (x :: y :: r) pos => mE a Γ x && (match r with
      | [] => mE b Γ y
      | _ :: _ => mE b Γ (.BoolOp .Or (y :: r) pos))
    | _ => false)
  | .ite c a b, Γ, e => plain a && plain b && (match e with
    | .IfExp x y z _ => mE c Γ x && mE a Γ y && mE b Γ z
    | _ => false)
  | .bi f es, Γ, e => (match e with
    | .Call (.Name x _) (y :: r) [] _ => decide (x = biName f) && glOk Γ x && mEs es Γ (y :: r)
    | _ => false)
  | .isi a ts tup, Γ, e => (match e with
    | .Call (.Name x _) [y, c] [] _ => decide (x = "isinstance") && glOk Γ x && notStar y && mE a Γ y && (match tup, c with
      | true, .Tuple cs _ _ => tysOk Γ ts cs && decide (cs.length ≤ 8)
      | false, c => tysOk Γ ts [c]
      | _, _ => false)
    | _ => false)
  | .get a b, Γ, e => (match e with
    | .Subscript x y _ => mE a Γ x && mE b Γ y && notSlice y
    | _ => false)
  | .tget i b, Γ, e => (match e with
    | .Subscript (.Name x _) y _ => nameOk Γ i x && mE b Γ y && notSlice y
    | _ => false)
  | .slice a lo hi, Γ, e => (match e with
    | .Subscript x (.Slice l h none _) _ => mE a Γ x && (match l with
      | none => lo.gone
      | some l => !lo.gone && mE lo Γ l) && (match h with
      | none => hi.gone
      | some h => !hi.gone && mE hi Γ h)
    | _ => false)
  | .rev a, Γ, e => (match e with
    | .Subscript x (.Slice none none (some (.UnaryOp .USub (.Constant (.int 1) _ _) _)) _) _ => mE a Γ x
    | _ => false)
  | .sset a, Γ, e => (match e with
    | .Call (.Name x _) [.Call (.Name y _) [z] [] _] [] _ => decide (x = "sorted") && decide (y = "set") && glOk Γ "sorted" && glOk Γ "set" && notStar z && mE a Γ z
    | _ => false)
  | .lst es, Γ, e => (match e with
    | .List xs _ => mIs es Γ xs
    | _ => false)
  | .tup es, Γ, e => (match e with
    | .Tuple xs _ _ => mIs es Γ xs
    | _ => false)
  | .star _, _, _ => false
  | .call f es, Γ, e => (match e with
    | .Call (.Name x _) args [] _ => fnAny Γ f x && glOk Γ x && mDs es Γ args
    | _ => false)
  | .callN f es, Γ, e => (match e with
    | .Call (.Name x _) args [] _ => fnIs Γ f x false true && glOk Γ x && mDs es Γ args
    | _ => false)
  | .callK f perm es ks, Γ, e => (match e with
    | .Call (.Name x _) args kws _ => fnAny Γ f x && glOk Γ x && kwAll kws && mDs es Γ args && mDs ks Γ (kwVals kws) && decide ((⟨f, es.length, kwNames kws, perm⟩ : Kw) ∈ Γ.kw)
    | _ => false)
  | .callT f i es, Γ, e => (match e with
    | .Call (.Name x _) (.Name y _ :: args) [] _ => fnIs Γ f x true false && glOk Γ x && nameOk Γ i y && mDs es Γ args
    | _ => false)
  | .callR f a es, Γ, e => (match e with
    | .Call (.Name x _) (y :: args) [] _ => fnIs Γ f x true false && glOk Γ x && notStar y && decide (kdOf a = .fresh) && mE a Γ y && mDs es Γ args
    | _ => false)
  | .dic0, _, e => (match e with
    | .Dict [] [] _ => true
    | _ => false)
  | .dic1 a b, Γ, e => (match e with
    | .Dict [some k] [v] _ => plain a && plain b && mE a Γ k && mE b Γ v
    | _ => false)
  | .dget a k x, Γ, e => (match e with
    | .Call (.Attribute o m ap) [y, z] [] cp => decide (m = "get") && baseOk o && notStar y && notStar z && (ap.endLine == cp.line) && plain x && mE a Γ o && mE k Γ y && mE x Γ z
    | _ => false)
  | .sitm _, _, _ => false
  | .comp elt tg ik src cond, Γ, e => (match e with
    | .ListComp el [⟨t, it, ifs, 0⟩] scope _ => plain elt && blkC Γ.N Γ.sc scope (blkOf Γ tg) && mTg (Γ.inner scope) tg t && notSet it && decide (tg.slots.all (fun i => decide (i < Γ.N.length)) = true) &&
      mE elt (Γ.inner scope) el && (match ifs with
      | [] => cond.gone
      | [c] => !cond.gone && mE cond (Γ.inner scope) c
      | _ => false) && srcB ik Γ t it (fun xs => mEs src Γ xs) (fun xs => mEs src Γ xs)
    | _ => false)
  | .comp2 elt tg ik src cond tg1 ik1 src1 cond1, Γ, e => (match e with
    | .ListComp el [⟨t, it, ifs, 0⟩, ⟨t1, it1, ifs1, 0⟩] scope _ => plain elt && blkC Γ.N Γ.sc scope (blkOf2 Γ tg tg1) && mTg (Γ.inner scope) tg t && mTg (Γ.inner scope) tg1 t1 && notSet it && notSet it1 && decide ((tg.slots ++ tg1.slots).all (fun i => decide (i < Γ.N.length)) = true) &&
      mE elt (Γ.inner scope) el && (match ifs with
      | [] => cond.gone
      | [c] => !cond.gone && mE cond (Γ.inner scope) c
      | _ => false) && (match ifs1 with
      | [] => cond1.gone
      | [c] => !cond1.gone && mE cond1 (Γ.inner scope) c
      | _ => false) && srcB ik Γ t it (fun xs => mEs src Γ xs) (fun xs => mEs src Γ xs) && srcB ik1 (Γ.inner scope) t1 it1 (fun xs => mDs src1 (Γ.inner scope) xs) (fun xs => mEs src1 (Γ.inner scope) xs)
    | _ => false)
  | .dcomp ke ve tg ik src cond, Γ, e => (match e with
    | .DictComp kx vx [⟨t, it, ifs, 0⟩] scope _ => plain ke && plain ve && blkC Γ.N Γ.sc scope (blkOf Γ tg) && mTg (Γ.inner scope) tg t && notSet it && decide (tg.slots.all (fun i => decide (i < Γ.N.length)) = true) &&
      mE ke (Γ.inner scope) kx && mE ve (Γ.inner scope) vx && (match ifs with
      | [] => cond.gone
      | [c] => !cond.gone && mE cond (Γ.inner scope) c
      | _ => false) && srcB ik Γ t it (fun xs => mEs src Γ xs) (fun xs => mEs src Γ xs)
    | _ => false)
  | .absent, _, _ => false
/-- arguments that are read -/
def mEs : List E → Cn → List Expr → Bool
  | [], _, xs => xs.isEmpty
  | t :: r, Γ, xs => (match xs with
    | x :: q => notStar x && mE t Γ x && mEs r Γ q
    | [] => false)
/-- arguments that are kept -/
def mDs : List E → Cn → List Expr → Bool
  | [], _, xs => xs.isEmpty
  | t :: r, Γ, xs => (match xs with
    | x :: q => notStar x && plain t && mE t Γ x && mDs r Γ q
    | [] => false)
/-- the members of a display -/
def mIs : List E → Cn → List Expr → Bool
  | [], _, xs => xs.isEmpty
  | .star t :: r, Γ, xs => (match xs with
    | .Starred x _ :: q => mE t Γ x && mIs r Γ q
    | _ => false)
  | t :: r, Γ, xs => (match xs with
    | x :: q => notStar x && plain t && mE t Γ x && mIs r Γ q
    | [] => false)
end

/-! ### promises -/
def TinOk (K : Fg) (ta : Option Addr) (G H : Hp) (τ : List D) : Prop := ∀ a, ta = some a → G a = none ∧ ∃ vs, H a = some (.lst vs) ∧ DRs K G vs τ
def spF (K : Fg) (C : Nat → List D → M D) (i : Nat) (tin fr : Bool) : Sp := fun vs H Q _ =>
  ∃ G ta ws ds τ d τ', Same G H ∧ TinOk K ta G H τ ∧ (match tin with
    | true => ∃ a, ta = some a ∧ vs = .ref a :: ws
    | false => ta = none ∧ vs = ws) ∧ DRs K G ws ds ∧ C i ds τ = some (d, τ') ∧
   ∀ v G' H', Ext ta G H G' H' → Same G' H' → TinOk K ta G' H' τ' → Val K ta H G' H' (if fr then .fresh else .dat) v d → Q v H'
instance : Inhabited V := ⟨.non⟩
def gP {α : Type} [Inhabited α] (p : Kw) (us ws : List α) : List α := if us.length = p.np ∧ ws.length = p.ks.length then permL p.perm (us ++ ws) else []
/-- a name of the module that holds a number, a text -/
def GlV (mg : Str → Option Value) (p : Str × D) : Prop := (∃ z t, p.2 = .str z ∧ mg p.1 = some (.str z t)) ∨ ∃ i t, p.2 = .int i ∧ mg p.1 = some (.int i t)
structure XOk (Γ : Cn) (n : Nat) (X : Cx) : Prop where
  N : X.N = Γ.N
  nd : X.N.Nodup
  sc : X.env.scope = Γ.sc
  fn : X.fn = (match Γ.blk with
    | none => fun _ => true
    | some s => fun x => s.names.lookup x == some .cell)
  calm : X.calm = true
  room : Room n X.A
  bi : ∀ x ∈ biL, X.mg x = none
  gl : ∀ p ∈ Γ.gl, GlV X.mg p
  fns : ∀ (i : Nat) (F : Fn), Γ.T.lookup i = some F → ∃ f fd, X.mg F.name = some (.ref f) ∧ PySem.W.keepIn X.K (.ref f) = true ∧ Binds X.K fd F.ps [] ∧
    FnOk X.prog X.w X.K X.mg X.base CX0 n f fd F.ps (spF X.K (callF Γ.B n) i F.tin F.fresh) ∧ ∀ p ∈ Γ.kw, p.f = i → KBinds X.K fd F.ps p.ks (gP p) (gP p)
end KN

set_option maxRecDepth 100000
set_option maxHeartbeats 1000000
set_option autoImplicit true
set_option relaxedAutoImplicit true
namespace KN
open PySem L2 PyProof.Rows
/-! ### the matching, clause by clause (printed by a program) -/
theorem mE_var : mE (.var i : E) Γ e = ((match e with
    | .Name x _ => nameOk Γ i x
    | _ => false)) := rfl
theorem mE_peek : mE (.peek i : E) Γ e = ((match e with
    | .Name x _ => nameOk Γ i x
    | _ => false)) := rfl
theorem mE_non : mE (.non : E) Γ e = ((match e with
    | .Constant .none _ _ => true
    | _ => false)) := rfl
theorem mE_bl : mE (.bl b : E) Γ e = ((match e with
    | .Constant (.bool c) _ _ => b == c
    | _ => false)) := rfl
theorem mE_int : mE (.int i : E) Γ e = ((match e with
    | .Constant (.int j) _ _ => i == j
    | _ => false)) := rfl
theorem mE_str : mE (.str x : E) Γ e = ((match e with
    | .Constant (.str y) _ _ => decide (x = y)
    | _ => false)) := rfl
theorem mE_glob : mE (.glob x z : E) Γ e = ((match e with
    | .Name y _ => decide (x = y) && glOk Γ x && (Γ.gl.any fun p => decide (p.1 = x) && eqK p.2 z)
    | _ => false)) := rfl
theorem mE_bin : mE (.bin op a b : E) Γ e = ((match e with
    | .BinOp l op' r _ => decide (op = op') && mE a Γ l && mE b Γ r
    | _ => false)) := rfl
theorem mE_cmp : mE (.cmp op a b : E) Γ e = ((match e with
    | .Compare l [op'] [r] _ => decide (op = op') && mE a Γ l && mE b Γ r && !behindInMarks op r
    | _ => false)) := rfl
theorem mE_chain : mE (.chain o1 o2 a b c : E) Γ e = ((match e with
    | .Compare l [p1, p2] [m, r] _ => decide (o1 = p1) && decide (o2 = p2) && mE a Γ l && mE b Γ m && mE c Γ r && !lastMarks [p1, p2] [m, r]
    | _ => false)) := rfl
theorem mE_neg : mE (.neg a : E) Γ e = ((match e with
    | .UnaryOp .USub x _ => mE a Γ x
    | _ => false)) := rfl
theorem mE_not : mE (.not a : E) Γ e = ((match e with
    | .UnaryOp .Not x _ => mE a Γ x
    | _ => false)) := rfl
theorem mE_and : mE (.and a b : E) Γ e = (plain a && plain b && (match e with
    | .BoolOp .And (x :: y :: r) pos => mE a Γ x && (match r with
      | [] => mE b Γ y
      | _ :: _ => mE b Γ (.BoolOp .And (y :: r) pos))
    | _ => false)) := rfl
theorem mE_or : mE (.or a b : E) Γ e = (plain a && plain b && (match e with
    | .BoolOp .Or (x :: y :: r) pos => mE a Γ x && (match r with
      | [] => mE b Γ y
      | _ :: _ => mE b Γ (.BoolOp .Or (y :: r) pos))
    | _ => false)) := rfl
theorem mE_ite : mE (.ite c a b : E) Γ e = (plain a && plain b && (match e with
    | .IfExp x y z _ => mE c Γ x && mE a Γ y && mE b Γ z
    | _ => false)) := rfl
theorem mE_bi : mE (.bi f es : E) Γ e = ((match e with
    | .Call (.Name x _) (y :: r) [] _ => decide (x = biName f) && glOk Γ x && mEs es Γ (y :: r)
    | _ => false)) := rfl
theorem mE_isi : mE (.isi a ts tup : E) Γ e = ((match e with
    | .Call (.Name x _) [y, c] [] _ => decide (x = "isinstance") && glOk Γ x && notStar y && mE a Γ y && (match tup, c with
      | true, .Tuple cs _ _ => tysOk Γ ts cs && decide (cs.length ≤ 8)
      | false, c => tysOk Γ ts [c]
      | _, _ => false)
    | _ => false)) := rfl
theorem mE_get : mE (.get a b : E) Γ e = ((match e with
    | .Subscript x y _ => mE a Γ x && mE b Γ y && notSlice y
    | _ => false)) := rfl
theorem mE_tget : mE (.tget i b : E) Γ e = ((match e with
    | .Subscript (.Name x _) y _ => nameOk Γ i x && mE b Γ y && notSlice y
    | _ => false)) := rfl
theorem mE_slice {lo hi : E} : mE (.slice a lo hi : E) Γ e = ((match e with
    | .Subscript x (.Slice l h none _) _ => mE a Γ x && (match l with
      | none => lo.gone
      | some l => !lo.gone && mE lo Γ l) && (match h with
      | none => hi.gone
      | some h => !hi.gone && mE hi Γ h)
    | _ => false)) := rfl
theorem mE_rev : mE (.rev a : E) Γ e = ((match e with
    | .Subscript x (.Slice none none (some (.UnaryOp .USub (.Constant (.int 1) _ _) _)) _) _ => mE a Γ x
    | _ => false)) := rfl
theorem mE_sset : mE (.sset a : E) Γ e = ((match e with
    | .Call (.Name x _) [.Call (.Name y _) [z] [] _] [] _ => decide (x = "sorted") && decide (y = "set") && glOk Γ "sorted" && glOk Γ "set" && notStar z && mE a Γ z
    | _ => false)) := rfl
theorem mE_lst : mE (.lst es : E) Γ e = ((match e with
    | .List xs _ => mIs es Γ xs
    | _ => false)) := rfl
theorem mE_tup : mE (.tup es : E) Γ e = ((match e with
    | .Tuple xs _ _ => mIs es Γ xs
    | _ => false)) := rfl
theorem mE_star : mE (.star w1 : E) w2 w3 = (false) := rfl
theorem mE_call : mE (.call f es : E) Γ e = ((match e with
    | .Call (.Name x _) args [] _ => fnAny Γ f x && glOk Γ x && mDs es Γ args
    | _ => false)) := rfl
theorem mE_callN : mE (.callN f es : E) Γ e = ((match e with
    | .Call (.Name x _) args [] _ => fnIs Γ f x false true && glOk Γ x && mDs es Γ args
    | _ => false)) := rfl
theorem mE_callK : mE (.callK f perm es ks : E) Γ e = ((match e with
    | .Call (.Name x _) args kws _ => fnAny Γ f x && glOk Γ x && kwAll kws && mDs es Γ args && mDs ks Γ (kwVals kws) && decide ((⟨f, es.length, kwNames kws, perm⟩ : Kw) ∈ Γ.kw)
    | _ => false)) := rfl
theorem mE_callT : mE (.callT f i es : E) Γ e = ((match e with
    | .Call (.Name x _) (.Name y _ :: args) [] _ => fnIs Γ f x true false && glOk Γ x && nameOk Γ i y && mDs es Γ args
    | _ => false)) := rfl
theorem mE_callR : mE (.callR f a es : E) Γ e = ((match e with
    | .Call (.Name x _) (y :: args) [] _ => fnIs Γ f x true false && glOk Γ x && notStar y && decide (kdOf a = .fresh) && mE a Γ y && mDs es Γ args
    | _ => false)) := rfl
theorem mE_dic0 : mE (.dic0 : E) w1 e = ((match e with
    | .Dict [] [] _ => true
    | _ => false)) := rfl
theorem mE_dic1 : mE (.dic1 a b : E) Γ e = ((match e with
    | .Dict [some k] [v] _ => plain a && plain b && mE a Γ k && mE b Γ v
    | _ => false)) := rfl
theorem mE_dget : mE (.dget a k x : E) Γ e = ((match e with
    | .Call (.Attribute o m ap) [y, z] [] cp => decide (m = "get") && baseOk o && notStar y && notStar z && (ap.endLine == cp.line) && plain x && mE a Γ o && mE k Γ y && mE x Γ z
    | _ => false)) := rfl
theorem mE_sitm : mE (.sitm w1 : E) w2 w3 = (false) := rfl
theorem mE_comp {cond : E} : mE (.comp elt tg ik src cond : E) Γ e = ((match e with
    | .ListComp el [⟨t, it, ifs, 0⟩] scope _ => plain elt && blkC Γ.N Γ.sc scope (blkOf Γ tg) && mTg (Γ.inner scope) tg t && notSet it && decide (tg.slots.all (fun i => decide (i < Γ.N.length)) = true) &&
      mE elt (Γ.inner scope) el && (match ifs with
      | [] => cond.gone
      | [c] => !cond.gone && mE cond (Γ.inner scope) c
      | _ => false) && srcB ik Γ t it (fun xs => mEs src Γ xs) (fun xs => mEs src Γ xs)
    | _ => false)) := rfl
theorem mE_comp2 {cond cond1 : E} : mE (.comp2 elt tg ik src cond tg1 ik1 src1 cond1 : E) Γ e = ((match e with
    | .ListComp el [⟨t, it, ifs, 0⟩, ⟨t1, it1, ifs1, 0⟩] scope _ => plain elt && blkC Γ.N Γ.sc scope (blkOf2 Γ tg tg1) && mTg (Γ.inner scope) tg t && mTg (Γ.inner scope) tg1 t1 && notSet it && notSet it1 && decide ((tg.slots ++ tg1.slots).all (fun i => decide (i < Γ.N.length)) = true) &&
      mE elt (Γ.inner scope) el && (match ifs with
      | [] => cond.gone
      | [c] => !cond.gone && mE cond (Γ.inner scope) c
      | _ => false) && (match ifs1 with
      | [] => cond1.gone
      | [c] => !cond1.gone && mE cond1 (Γ.inner scope) c
      | _ => false) && srcB ik Γ t it (fun xs => mEs src Γ xs) (fun xs => mEs src Γ xs) && srcB ik1 (Γ.inner scope) t1 it1 (fun xs => mDs src1 (Γ.inner scope) xs) (fun xs => mEs src1 (Γ.inner scope) xs)
    | _ => false)) := rfl
theorem mE_dcomp {cond : E} : mE (.dcomp ke ve tg ik src cond : E) Γ e = ((match e with
    | .DictComp kx vx [⟨t, it, ifs, 0⟩] scope _ => plain ke && plain ve && blkC Γ.N Γ.sc scope (blkOf Γ tg) && mTg (Γ.inner scope) tg t && notSet it && decide (tg.slots.all (fun i => decide (i < Γ.N.length)) = true) &&
      mE ke (Γ.inner scope) kx && mE ve (Γ.inner scope) vx && (match ifs with
      | [] => cond.gone
      | [c] => !cond.gone && mE cond (Γ.inner scope) c
      | _ => false) && srcB ik Γ t it (fun xs => mEs src Γ xs) (fun xs => mEs src Γ xs)
    | _ => false)) := rfl
theorem mE_absent : mE (.absent : E) w1 w2 = (false) := rfl
theorem mEs_nil : mEs ([] : List E) w1 xs = (xs.isEmpty) := rfl
theorem mEs_cons : mEs (t :: r) Γ xs = ((match xs with
    | x :: q => notStar x && mE t Γ x && mEs r Γ q
    | [] => false)) := rfl
theorem mDs_nil : mDs ([] : List E) w1 xs = (xs.isEmpty) := rfl
theorem mDs_cons : mDs (t :: r) Γ xs = ((match xs with
    | x :: q => notStar x && plain t && mE t Γ x && mDs r Γ q
    | [] => false)) := rfl
theorem mIs_nil : mIs ([] : List E) w1 xs = (xs.isEmpty) := rfl
theorem mIs_star : mIs (.star t :: r) Γ xs = ((match xs with
    | .Starred x _ :: q => mE t Γ x && mIs r Γ q
    | _ => false)) := rfl
end KN

set_option maxRecDepth 100000
set_option maxHeartbeats 1000000
namespace KN
open PySem L2 PyProof.Rows

/-! ### steps of the evaluator, taken apart -/
theorem bnd_some {α β : Type} {x : M α} {f : α → M β} {τ : List D} {r : β × List D} (h : x.bnd f τ = some r) : ∃ a τ1, x τ = some (a, τ1) ∧ f a τ1 = some r := by
  unfold M.bnd at h
  cases e : x τ with
  | none => rw [e] at h; cases h
  | some p =>
    obtain ⟨a, τ1⟩ := p
    rw [e] at h
    exact ⟨a, τ1, rfl, h⟩
theorem of_some {α : Type} {o : Option α} {τ τ' : List D} {a : α} (h : M.of o τ = some (a, τ')) : o = some a ∧ τ' = τ := by
  unfold M.of at h
  cases o with
  | none => cases h
  | some b => cases h; exact ⟨rfl, rfl⟩
theorem ret_some {α : Type} {a b : α} {τ τ' : List D} (h : M.ret a τ = some (b, τ')) : (b, τ') = (a, τ) := by
  cases h; rfl

section
variable {K : Fg} {ta : Option Addr} {C : Nat → List D → M D} {G G1 G2 G3 H H1 H2 H3 H' : Hp} {σ : L2.St} {ρ : En} {τ τ' : List D} {v : V} {d : D} {k : Kd} {Q : VK}
theorem Ext.weak (x : Ext none G H G1 H1) : Ext ta G H G1 H1 := ⟨x.g, x.new, fun b o _ h => x.keep b o (by simp) h, x.there⟩
theorem Ext.none_of (x : Ext ta G H G1 H1) {b : Addr} (h : H1 b = none) : H b = none := by
  cases q : H b with
  | none => rfl
  | some o =>
    obtain ⟨o', e⟩ := x.there b o q
    rw [h] at e; cases e
theorem Rel.step (R : Rel K ta G σ H ρ τ) (x : Ext none G H G1 H1) (s : Same G1 H1) : Rel K ta G1 σ H1 ρ τ :=
  R.ext' x.weak s fun a e => by
    obtain ⟨_, vs, h, _⟩ := R.tin a e
    rw [h, x.keep a _ (by simp) h]
theorem View.weak (h : View K ta G H v d) : View K none G H v d := by
  rcases h with h | ⟨a, vs, ds, h1, h2, h3, h4, h5⟩
  · exact .inl h
  · exact .inr ⟨a, vs, ds, h1, h2, by simp, h4, h5⟩
theorem Views.weak : ∀ {vs : List V} {ds : List D}, Views K ta G H vs ds → Views K none G H vs ds
  | _, _, .nil => .nil
  | _, _, .cons h r => .cons h.weak (Views.weak r)
theorem Val.back (R : Rel K ta G2 σ H2 ρ τ) (x : Ext ta G H G2 H2) (h : Val K none H2 G3 H3 k v d) (hk : k ≠ .peek := by decide) : Val K ta H G3 H3 k v d := by
  cases k with
  | dat => exact h
  | peek => exact absurd rfl hk
  | fresh =>
    rcases h with h | ⟨a, vs, ds, h1, h2, h3, _, h4, h5, h6⟩
    · exact .inl h
    · refine .inr ⟨a, vs, ds, h1, h2, x.none_of h3, fun e => ?_, h4, h5, h6⟩
      obtain ⟨_, ws, q, _⟩ := R.tin a e
      rw [h3] at q; cases q
/-- the end of an operation on values -/
theorem op_end (R : Rel K ta G2 σ H2 ρ τ) (x : Ext ta G H G2 H2) (q : ∀ v G' H', Ext ta G H G' H' → Rel K ta G' σ H' ρ τ → Val K ta H G' H' k v d → Q v H') (hk : k ≠ .peek := by decide) :
    ∀ v G' H', Ext none G2 H2 G' H' → Same G' H' → Val K none H2 G' H' k v d → Q v H' :=
  fun v G' H' x' s' h => q v G' H' (x.trans x'.weak) (R.step x' s') (h.back R x hk)
theorem Val.dr_of (h : DR K G v d) (n : still d = true) (hk : k ≠ .peek := by decide) : Val K ta H₀ G H k v d := by
  cases k with
  | dat => exact h
  | fresh => exact .inl ⟨h, n⟩
  | peek => exact absurd rfl hk

variable {X : Cx} {a b c : E} {l r m : Expr} {pos : Pos}
theorem rd_bin {op : Operator} {ka kb : Kd} (ha : PE X l (tE X.K ta C ka a)) (hb : PE X r (tE X.K ta C kb b)) : PE X (.BinOp l op r pos) (tE X.K ta C .fresh (.bin op a b)) :=
  PE.mono (pe_op (op_binD op) ha hb) fun σ H Q h => by
    obtain ⟨G, ρ, τ, d, τ', R, e, q⟩ := h
    obtain ⟨x, τ1, e1, e_1⟩ := bnd_some (x := evE C a ρ) e
    obtain ⟨y, τ2, e2, e_2⟩ := bnd_some (x := evE C b ρ) e_1
    obtain ⟨e3, rfl⟩ := of_some e_2
    refine ⟨G, ρ, τ, x, τ1, R, e1, fun v1 G1 H1 x1 R1 w1 => ⟨G1, ρ, τ1, y, _, R1, e2, fun v2 G2 H2 x2 R2 w2 => ?_⟩⟩
    exact ⟨G2, x, y, d, R2.sub, ((w1.view).ext x2).weak, w2.view.weak, e3, op_end R2 (x1.trans x2) q⟩
theorem rd_cmp {op : CmpOp} {ka kb : Kd} (hu : X.A.units + 64 < cLine) (ha : PE X l (tE X.K ta C ka a)) (hb : PE X r (tE X.K ta C kb b)) (hm : behindInMarks op r = false) : PE X (.Compare l [op] [r] pos) (tE X.K ta C .dat (.cmp op a b)) :=
  PE.mono (pe_cmpR (op_cmpD op hu) ha hb hm) fun σ H Q h => by
    obtain ⟨G, ρ, τ, d, τ', R, e, q⟩ := h
    obtain ⟨x, τ1, e1, e_1⟩ := bnd_some (x := evE C a ρ) e
    obtain ⟨y, τ2, e2, e_2⟩ := bnd_some (x := evE C b ρ) e_1
    obtain ⟨e3, rfl⟩ := of_some e_2
    refine ⟨G, ρ, τ, x, τ1, R, e1, fun v1 G1 H1 x1 R1 w1 => ⟨G1, ρ, τ1, y, _, R1, e2, fun v2 G2 H2 x2 R2 w2 => ?_⟩⟩
    exact ⟨G2, x, y, d, R2.sub, ((w1.view).ext x2).weak, w2.view.weak, e3, op_end R2 (x1.trans x2) q⟩
theorem cmp_bool {op : CmpOp} {x y d : D} (h : cmpD op x y = some d) : ∃ k, d = .bool k := by
  have m : ∀ {o : Option Bool} {f : Bool → D}, (∀ b, ∃ k, f b = .bool k) → o.map f = some d → ∃ k, d = .bool k := fun {o f} hf e => by
    obtain ⟨b, _, rfl⟩ := Option.map_eq_some_iff.mp e
    exact hf b
  cases op with
  | Lt => exact m (fun b => ⟨_, rfl⟩) (show (ltD x y).map PyData.bool = some d from h)
  | LtE => exact m (fun b => ⟨_, rfl⟩) (show (ltD y x).map (fun k => PyData.bool !k) = some d from h)
  | Gt => exact m (fun b => ⟨_, rfl⟩) (show (ltD y x).map PyData.bool = some d from h)
  | GtE => exact m (fun b => ⟨_, rfl⟩) (show (ltD x y).map (fun k => PyData.bool !k) = some d from h)
  | Eq =>
    simp only [cmpD] at h
    split at h
    · cases h; exact ⟨_, rfl⟩
    · cases h
  | NotEq =>
    simp only [cmpD] at h
    split at h
    · cases h; exact ⟨_, rfl⟩
    · cases h
  | Is => cases y <;> first | (cases h; exact ⟨_, rfl⟩) | (cases x <;> cases h)
  | IsNot => cases y <;> first | (cases h; exact ⟨_, rfl⟩) | (cases x <;> cases h)
  | In =>
    have sq : ∀ {ys : List D}, inSeq false x ys = some d → ∃ k, d = .bool k := fun {ys} h => by
      unfold inSeq at h
      split at h
      · cases h; exact ⟨_, rfl⟩
      · cases h
    cases y with
    | list ys => exact sq (by cases x <;> exact h)
    | tuple ys => exact sq (by cases x <;> exact h)
    | dict ys =>
      cases x with
      | int i => cases h; exact ⟨_, rfl⟩
      | str i => cases h; exact ⟨_, rfl⟩
      | _ => cases h
    | str z =>
      cases x with
      | str w =>
        simp only [cmpD] at h
        split at h
        · cases h; exact ⟨_, rfl⟩
        · cases h
      | _ => cases h
    | _ => cases x <;> cases h
  | NotIn =>
    have sq : ∀ {ys : List D}, inSeq true x ys = some d → ∃ k, d = .bool k := fun {ys} h => by
      unfold inSeq at h
      split at h
      · cases h; exact ⟨_, rfl⟩
      · cases h
    cases y with
    | list ys => exact sq (by cases x <;> exact h)
    | tuple ys => exact sq (by cases x <;> exact h)
    | dict ys =>
      cases x with
      | int i => cases h; exact ⟨_, rfl⟩
      | str i => cases h; exact ⟨_, rfl⟩
      | _ => cases h
    | str z =>
      cases x with
      | str w =>
        simp only [cmpD] at h
        split at h
        · cases h; exact ⟨_, rfl⟩
        · cases h
      | _ => cases h
    | _ => cases x <;> cases h
theorem rt_cmp {op : CmpOp} {ka kb : Kd} (hu : X.A.units + 64 < cLine) (ha : PE X l (tE X.K ta C ka a)) (hb : PE X r (tE X.K ta C kb b)) (hm : behindInMarks op r = false) : PT X (.Compare l [op] [r] pos) (tT X.K ta C (.cmp op a b)) :=
  PT.mono (pt_cmpR (op_cmpD op hu) ha hb hm) fun σ H Q h => by
    obtain ⟨G, ρ, τ, d, τ', R, e, q⟩ := h
    obtain ⟨z, τ3, e, et⟩ := bnd_some (x := evE C (.cmp op a b) ρ) e
    obtain ⟨x, τ1, e1, e_1⟩ := bnd_some (x := evE C a ρ) e
    obtain ⟨y, τ2, e2, e_2⟩ := bnd_some (x := evE C b ρ) e_1
    obtain ⟨e3, rfl⟩ := of_some e_2
    obtain ⟨et_3, rfl⟩ := of_some et
    refine ⟨G, ρ, τ, x, τ1, R, e1, fun v1 G1 H1 x1 R1 w1 => ⟨G1, ρ, τ1, y, _, R1, e2, fun v2 G2 H2 x2 R2 w2 => ?_⟩⟩
    obtain ⟨k, rfl⟩ := cmp_bool e3
    refine ⟨G2, x, y, _, R2.sub, ((w1.view).ext x2).weak, w2.view.weak, e3, fun v G' H' x' s' w' => ?_⟩
    cases et_3
    cases w'
    exact ⟨_, rfl, q G' H' ((x1.trans x2).trans x'.weak) (R2.step x' s')⟩
theorem rd_chain {o1 o2 : CmpOp} {ka kb kc : Kd} (hu : X.A.units + 64 < cLine) (ha : PE X l (tE X.K ta C ka a)) (hb : PE X m (tE X.K ta C kb b)) (hc : PE X r (tE X.K ta C kc c)) (hm : lastMarks [o1, o2] [m, r] = false) :
    PE X (.Compare l [o1, o2] [m, r] pos) (tE X.K ta C .dat (.chain o1 o2 a b c)) :=
  PE.mono (pe_chain (op_cmpD o1 hu) (op_cmpD o2 hu) ha hb hc hm) fun σ H Q h => by
    obtain ⟨G, ρ, τ, d, τ', R, e, q⟩ := h
    obtain ⟨x, τ1, e1, e_1⟩ := bnd_some (x := evE C a ρ) e
    obtain ⟨y, τ2, e2, e_2⟩ := bnd_some (x := evE C b ρ) e_1
    obtain ⟨z, τ3, e3, e_3⟩ := bnd_some e_2
    obtain ⟨e3_4, rfl⟩ := of_some e3
    refine ⟨G, ρ, τ, x, τ1, R, e1, fun v1 G1 H1 x1 R1 w1 => ⟨G1, ρ, τ1, y, _, R1, e2, fun v2 G2 H2 x2 R2 w2 => ?_⟩⟩
    obtain ⟨k, rfl⟩ := cmp_bool e3_4
    refine ⟨G2, x, y, _, R2.sub, ((w1.view).ext x2).weak, w2.view.weak, e3_4, fun v G' H' x' s' w' => ?_⟩
    cases w'
    have R3 := R2.step x' s'
    cases k with
    | true =>
      obtain ⟨u, τ4, e4, e_5⟩ := bnd_some (x := evE C c ρ) e_3
      obtain ⟨e5, rfl⟩ := of_some e_5
      refine ⟨true, rfl, iteT ⟨G', ρ, _, u, _, R3, e4, fun v3 G3 H3 x3 R4 w3 => ?_⟩⟩
      exact ⟨G3, y, u, d, R4.sub, ((w2.view.ext x'.weak).ext x3).weak, w3.view.weak, e5, op_end R4 (((x1.trans x2).trans x'.weak).trans x3) q⟩
    | false =>
      cases ret_some e_3
      exact ⟨false, rfl, iteF (q _ G' H' ((x1.trans x2).trans x'.weak) R3 (.bl false))⟩
theorem rd_neg {ka : Kd} (ha : PE X l (tE X.K ta C ka a)) : PE X (.UnaryOp .USub l pos) (tE X.K ta C .dat (.neg a)) :=
  PE.mono (pe_un un_neg ha) fun σ H Q h => by
    obtain ⟨G, ρ, τ, d, τ', R, e, q⟩ := h
    obtain ⟨x, τ1, e1, e_1⟩ := bnd_some (x := evE C a ρ) e
    refine ⟨G, ρ, τ, x, τ1, R, e1, fun v1 G1 H1 x1 R1 w1 => ?_⟩
    cases x with
    | int i =>
      cases ret_some e_1
      exact ⟨i, w1.view.int, q _ G1 H1 x1 R1 (.int _)⟩
    | _ => cases e_1
theorem rd_not {ka : Kd} (ha : PE X l (tE X.K ta C ka a)) : PE X (.UnaryOp .Not l pos) (tE X.K ta C .dat (.not a)) :=
  PE.mono (pe_notT ha) fun σ H Q h => by
    obtain ⟨G, ρ, τ, d, τ', R, e, q⟩ := h
    obtain ⟨x, τ1, e1, e_1⟩ := bnd_some (x := evE C a ρ) e
    obtain ⟨k, τ2, e2, e_2⟩ := bnd_some e_1
    obtain ⟨e2_3, rfl⟩ := of_some e2
    cases ret_some e_2
    refine ⟨G, ρ, τ, x, _, R, e1, fun v1 G1 H1 x1 R1 w1 => ?_⟩
    exact ⟨k, tru_of R1.sub w1.view.weak e2_3, q _ G1 H1 x1 R1 (.bl _)⟩
/-- a test by its value's truth -/
theorem rt_plain {ka : Kd} (ha : PE X l (tE X.K ta C ka a)) (he : ∀ whole, isTrue l X.env whole = (do let v ← whole; standAt l.pos; holding [v] (truthy v))) : PT X l (tT X.K ta C a) :=
  PT.mono (pt_truth ha he) fun σ H Q h => by
    obtain ⟨G, ρ, τ, d, τ', R, e, q⟩ := h
    obtain ⟨x, τ1, e1, e_1⟩ := bnd_some (x := evE C a ρ) e
    obtain ⟨e2, rfl⟩ := of_some e_1
    refine ⟨G, ρ, τ, x, _, R, e1, fun v1 G1 H1 x1 R1 w1 => ?_⟩
    exact ⟨_, tru_of R1.sub w1.view.weak e2, q G1 H1 x1 R1⟩
theorem rt_not (ha : PT X l (tT X.K ta C a)) : PT X (.UnaryOp .Not l pos) (tT X.K ta C (.not a)) :=
  PT.mono (pt_not ha) fun σ H Q h => by
    obtain ⟨G, ρ, τ, d, τ', R, e, q⟩ := h
    obtain ⟨z, τ3, e, et⟩ := bnd_some (x := evE C (.not a) ρ) e
    obtain ⟨x, τ1, e1, e_1⟩ := bnd_some (x := evE C a ρ) e
    obtain ⟨k, τ2, e2, e_2⟩ := bnd_some e_1
    obtain ⟨e2_3, rfl⟩ := of_some e2
    cases ret_some e_2
    obtain ⟨et_4, rfl⟩ := of_some et
    cases et_4
    refine ⟨G, ρ, τ, k, _, R, ?_, fun G1 H1 x1 R1 => q G1 H1 x1 R1⟩
    unfold M.bnd
    rw [e1]
    show (M.of (truD x)) _ = _
    rw [e2_3]
    rfl
theorem tru_bnd {x : M D} {τ τ1 τ2 : List D} {d : D} {k : Bool} (e1 : x τ = some (d, τ1)) (e2 : truD d = some k) : (x.bnd fun x => M.of (truD x)) τ = some (k, τ1) := by
  unfold M.bnd
  rw [e1]
  show (M.of (truD d)) τ1 = _
  rw [e2]
  rfl
theorem rt_and {rest : List Expr} (ha : PT X l (tT X.K ta C a)) (hb : PW X (.BoolOp .And (r :: rest) pos) (tT X.K ta C b)) : PW X (.BoolOp .And (l :: r :: rest) pos) (tT X.K ta C (.and a b)) :=
  PW.mono (pw_and ha hb) fun σ H Q h => by
    obtain ⟨G, ρ, τ, d, τ', R, e, q⟩ := h
    obtain ⟨z, τ3, e, et⟩ := bnd_some (x := evE C (.and a b) ρ) e
    obtain ⟨x, τ1, e1, e_1⟩ := bnd_some (x := evE C a ρ) e
    obtain ⟨k, τ2, e2, e_2⟩ := bnd_some e_1
    obtain ⟨e2_3, rfl⟩ := of_some e2
    refine ⟨G, ρ, τ, k, _, R, tru_bnd (τ2 := τ) e1 e2_3, fun G1 H1 x1 R1 => ?_⟩
    cases k with
    | true =>
      refine iteT ⟨G1, ρ, _, d, τ', R1, ?_, fun G2 H2 x2 R2 => q G2 H2 (x1.trans x2) R2⟩
      obtain ⟨et_4, rfl⟩ := of_some et
      exact tru_bnd (τ2 := τ) e_2 et_4
    | false =>
      cases ret_some e_2
      obtain ⟨et_5, rfl⟩ := of_some et
      rw [e2_3] at et_5
      cases et_5
      exact iteF (q G1 H1 x1 R1)
theorem rt_or {rest : List Expr} (ha : PT X l (tT X.K ta C a)) (hb : PW X (.BoolOp .Or (r :: rest) pos) (tT X.K ta C b)) : PW X (.BoolOp .Or (l :: r :: rest) pos) (tT X.K ta C (.or a b)) :=
  PW.mono (pw_or ha hb) fun σ H Q h => by
    obtain ⟨G, ρ, τ, d, τ', R, e, q⟩ := h
    obtain ⟨z, τ3, e, et⟩ := bnd_some (x := evE C (.or a b) ρ) e
    obtain ⟨x, τ1, e1, e_1⟩ := bnd_some (x := evE C a ρ) e
    obtain ⟨k, τ2, e2, e_2⟩ := bnd_some e_1
    obtain ⟨e2_3, rfl⟩ := of_some e2
    refine ⟨G, ρ, τ, k, _, R, tru_bnd (τ2 := τ) e1 e2_3, fun G1 H1 x1 R1 => ?_⟩
    cases k with
    | false =>
      refine iteF ⟨G1, ρ, _, d, τ', R1, ?_, fun G2 H2 x2 R2 => q G2 H2 (x1.trans x2) R2⟩
      obtain ⟨et_4, rfl⟩ := of_some et
      exact tru_bnd (τ2 := τ) e_2 et_4
    | true =>
      cases ret_some e_2
      obtain ⟨et_5, rfl⟩ := of_some et
      rw [e2_3] at et_5
      cases et_5
      exact iteT (q G1 H1 x1 R1)
/-- a kept value as one that may be new -/
theorem Val.trans_fresh {H0 : Hp} (x : Ext ta G H G1 H1) (h : Val K ta H1 G2 H2 .fresh v d) : Val K ta H G2 H2 .fresh v d := by
  rcases h with h | ⟨p, vs, ds, h1, h2, h3, h4, h5, h6, h7⟩
  · exact .inl h
  · exact .inr ⟨p, vs, ds, h1, h2, x.none_of h3, h4, h5, h6, h7⟩
theorem Val.first (x : Ext ta G H G1 H1) (h : Val K ta H1 G2 H2 k v d) (hk : k ≠ .peek) : Val K ta H G2 H2 k v d := by
  cases k with
  | dat => exact h
  | fresh => exact Val.trans_fresh (H0 := H) x h
  | peek => exact absurd rfl hk
theorem rd_and {rest : List Expr} (ha : PE X l (tE X.K ta C .dat a)) (hb : PE X (.BoolOp .And (r :: rest) pos) (tE X.K ta C .dat b)) : PE X (.BoolOp .And (l :: r :: rest) pos) (tE X.K ta C .dat (.and a b)) :=
  PE.mono (pe_andT ha hb) fun σ H Q h => by
    obtain ⟨G, ρ, τ, d, τ', R, e, q⟩ := h
    obtain ⟨x, τ1, e1, e_1⟩ := bnd_some (x := evE C a ρ) e
    obtain ⟨k, τ2, e2, e_2⟩ := bnd_some e_1
    obtain ⟨e2_3, rfl⟩ := of_some e2
    refine ⟨G, ρ, τ, x, _, R, e1, fun v1 G1 H1 x1 R1 w1 => ⟨k, tru_of R1.sub (.inl w1) e2_3, ?_⟩⟩
    cases k with
    | true => exact iteT ⟨G1, ρ, _, d, τ', R1, e_2, fun v2 G2 H2 x2 R2 w2 => q _ G2 H2 (x1.trans x2) R2 w2⟩
    | false =>
      cases ret_some e_2
      exact iteF (q _ G1 H1 x1 R1 w1)
theorem rd_or {rest : List Expr} {ko : Kd} (hko : ko ≠ .peek) (ha : PE X l (tE X.K ta C ko a)) (hb : PE X (.BoolOp .Or (r :: rest) pos) (tE X.K ta C ko b)) : PE X (.BoolOp .Or (l :: r :: rest) pos) (tE X.K ta C ko (.or a b)) :=
  PE.mono (pe_orT ha hb) fun σ H Q h => by
    obtain ⟨G, ρ, τ, d, τ', R, e, q⟩ := h
    obtain ⟨x, τ1, e1, e_1⟩ := bnd_some (x := evE C a ρ) e
    obtain ⟨k, τ2, e2, e_2⟩ := bnd_some e_1
    obtain ⟨e2_3, rfl⟩ := of_some e2
    refine ⟨G, ρ, τ, x, _, R, e1, fun v1 G1 H1 x1 R1 w1 => ⟨k, tru_of R1.sub w1.view.weak e2_3, ?_⟩⟩
    cases k with
    | false => exact iteF ⟨G1, ρ, _, d, τ', R1, e_2, fun v2 G2 H2 x2 R2 w2 => q _ G2 H2 (x1.trans x2) R2 (w2.first x1 hko)⟩
    | true =>
      cases ret_some e_2
      exact iteT (q _ G1 H1 x1 R1 w1)
theorem rd_ite {c' : Expr} (hc : PT X c' (tT X.K ta C c)) (ha : PE X l (tE X.K ta C .dat a)) (hb : PE X r (tE X.K ta C .dat b)) : PE X (.IfExp c' l r pos) (tE X.K ta C .dat (.ite c a b)) :=
  PE.mono (pe_ifExp hc ha hb) fun σ H Q h => by
    obtain ⟨G, ρ, τ, d, τ', R, e, q⟩ := h
    obtain ⟨x, τ1, e1, e_1⟩ := bnd_some (x := evE C c ρ) e
    obtain ⟨k, τ2, e2, e_2⟩ := bnd_some e_1
    obtain ⟨e2_3, rfl⟩ := of_some e2
    refine ⟨G, ρ, τ, k, _, R, tru_bnd (τ2 := τ) e1 e2_3, fun G1 H1 x1 R1 => ?_⟩
    cases k with
    | true => exact iteT ⟨G1, ρ, _, d, τ', R1, e_2, fun v2 G2 H2 x2 R2 w2 => q _ G2 H2 (x1.trans x2) R2 w2⟩
    | false => exact iteF ⟨G1, ρ, _, d, τ', R1, e_2, fun v2 G2 H2 x2 R2 w2 => q _ G2 H2 (x1.trans x2) R2 w2⟩
theorem rd_get {ka kb : Kd} (ha : PE X l (tE X.K ta C ka a)) (hb : PE X r (tE X.K ta C kb b)) (hs : PlainIx r) : PE X (.Subscript l r pos) (tE X.K ta C .dat (.get a b)) :=
  PE.mono (pe_ix ix_D ha hb hs) fun σ H Q h => by
    obtain ⟨G, ρ, τ, d, τ', R, e, q⟩ := h
    obtain ⟨x, τ1, e1, e_1⟩ := bnd_some (x := evE C a ρ) e
    obtain ⟨y, τ2, e2, e_2⟩ := bnd_some (x := evE C b ρ) e_1
    obtain ⟨e3, rfl⟩ := of_some e_2
    refine ⟨G, ρ, τ, x, τ1, R, e1, fun v1 G1 H1 x1 R1 w1 => ⟨G1, ρ, τ1, y, _, R1, e2, fun v2 G2 H2 x2 R2 w2 => ?_⟩⟩
    exact ⟨G2, x, y, d, R2.sub, ((w1.view).ext x2).weak, w2.view.weak, e3, op_end R2 (x1.trans x2) q⟩
/-- a slice's parts -/
def tP (K : Fg) (ta : Option Addr) (C : Nat → List D → M D) (t : E) : TO := fun σ H Q => ∃ G ρ τ o τ', Rel K ta G σ H ρ τ ∧ (if t.gone then M.ret none else (evE C t ρ).bnd intP) τ = some (o, τ') ∧
  ∀ G' H', Ext ta G H G' H' → Rel K ta G' σ H' ρ τ' → Q o H'
theorem PO.mono {X : Cx} {e : Option Expr} {t t' : TO} (h : PO X e t) (i : ∀ σ H Q, t' σ H Q → t σ H Q) : PO X e t' := ⟨fun pins s σ H Q I q => h.run pins s σ H Q I (i σ H Q q)⟩
theorem rp_none (hg : a.gone = true) : PO X none (tP X.K ta C a) :=
  PO.mono po_none fun σ H Q h => by
    obtain ⟨G, ρ, τ, o, τ', R, e, q⟩ := h
    rw [if_pos hg] at e
    cases ret_some e
    exact q G H Ext.refl R
theorem rp_some {ka : Kd} (hg : a.gone = false) (ha : PE X l (tE X.K ta C ka a)) : PO X (some l) (tP X.K ta C a) :=
  PO.mono (po_some ha) fun σ H Q h => by
    obtain ⟨G, ρ, τ, o, τ', R, e, q⟩ := h
    rw [if_neg (by rw [hg]; simp)] at e
    obtain ⟨x, τ1, e1, e_1⟩ := bnd_some (x := evE C a ρ) e
    refine ⟨G, ρ, τ, x, τ1, R, e1, fun v1 G1 H1 x1 R1 w1 => ?_⟩
    cases x with
    | int i =>
      cases ret_some e_1
      exact ⟨i, w1.view.int, q G1 H1 x1 R1⟩
    | _ => cases e_1
theorem rd_slice {ka : Kd} {lo hi : Option Expr} {p2 : Pos} (ha : PE X l (tE X.K ta C ka a)) (hl : PO X lo (tP X.K ta C b)) (hh : PO X hi (tP X.K ta C c)) : PE X (.Subscript l (.Slice lo hi none p2) pos) (tE X.K ta C .fresh (.slice a b c)) :=
  PE.mono (pe_slice sl_D ha hl hh) fun σ H Q h => by
    obtain ⟨G, ρ, τ, d, τ', R, e, q⟩ := h
    obtain ⟨x, τ1, e1, e_1⟩ := bnd_some (x := evE C a ρ) e
    obtain ⟨y, τ2, e2, e_2⟩ := bnd_some e_1
    obtain ⟨z, τ3, e3, e_3⟩ := bnd_some e_2
    obtain ⟨e4, rfl⟩ := of_some e_3
    refine ⟨G, ρ, τ, x, τ1, R, e1, fun v1 G1 H1 x1 R1 w1 => ⟨G1, ρ, τ1, y, τ2, R1, e2, fun G2 H2 x2 R2 => ⟨G2, ρ, τ2, z, _, R2, e3, fun G3 H3 x3 R3 => ?_⟩⟩⟩
    exact ⟨G3, x, d, R3.sub, (((w1.view).ext x2).ext x3).weak, e4, op_end R3 ((x1.trans x2).trans x3) q⟩
theorem rd_rev {ka : Kd} {kk : Nat} {p1 p2 p3 : Pos} (ha : PE X l (tE X.K ta C ka a)) : PE X (.Subscript l (.Slice none none (some (.UnaryOp .USub (.Constant (.int 1) kk p1) p2)) p3) pos) (tE X.K ta C .fresh (.rev a)) :=
  PE.mono (pe_revL ha) fun σ H Q h => by
    obtain ⟨G, ρ, τ, d, τ', R, e, q⟩ := h
    obtain ⟨x, τ1, e1, e_1⟩ := bnd_some (x := evE C a ρ) e
    obtain ⟨e2, rfl⟩ := of_some e_1
    refine ⟨G, ρ, τ, x, _, R, e1, fun v1 G1 H1 x1 R1 w1 => ?_⟩
    cases x with
    | list ds =>
      cases e2
      obtain ⟨p, xs, rfl, rd, dr⟩ := w1.view.lst R1.sub
      exact ⟨p, xs, rfl, rd, fresh_out R1.sub (op_end R1 x1 q) dr.reverse⟩
    | _ => cases e2
end
end KN

set_option maxRecDepth 100000
set_option maxHeartbeats 1000000
namespace KN
open PySem L2 PyProof.Rows
def notStarE : E → Bool
  | .star _ => false
  | _ => true
theorem evEs_cons {C : Nat → List D → M D} {t : E} {ts : List E} {ρ : En} (h : notStarE t = true) : evEs C (t :: ts) ρ = (evE C t ρ).bnd fun x => (evEs C ts ρ).bnd fun ys => .ret (x :: ys) := by
  cases t <;> first | rfl | cases h
theorem star_no {x : Expr} {xs : List Expr} {env : PySem.Env} (h : notStar x = true) : starEach (x :: xs) env = (false, eval x env) :: starEach xs env := by
  cases x <;> first | rfl | cases h
def noStars : List Expr → Bool
  | [] => true
  | x :: r => notStar x && noStars r
theorem back_no {pos : Pos} {env : PySem.Env} : ∀ {xs : List Expr}, noStars xs = true → (backTo pos (starEach xs env)).any (·.1) = false
  | [], _ => rfl
  | x :: r, h => by
    simp only [noStars, Bool.and_eq_true] at h
    rw [star_no h.1]
    have ih := back_no (pos := pos) (env := env) h.2
    unfold backTo at ih ⊢
    rw [List.map_cons, List.any_cons, ih]
    rfl

/-- the arguments kept -/
def tK (K : Fg) (ta : Option Addr) (C : Nat → List D → M D) (ts : List E) : TA := fun σ H Q => ∃ G ρ τ ds τ', Rel K ta G σ H ρ τ ∧ evEs C ts ρ τ = some (ds, τ') ∧
  ∀ vs G' H', Ext ta G H G' H' → Rel K ta G' σ H' ρ τ' → DRs K G' vs ds → Q vs H'
theorem DRs.views {K : Fg} {ta : Option Addr} {G H : Hp} : ∀ {vs : List V} {ds : List D}, DRs K G vs ds → Views K ta G H vs ds
  | _, _, .nil => .nil
  | _, _, .cons h r => .cons (.inl h) (DRs.views r)
section
variable {ta : Option Addr} {C : Nat → List D → M D} {X : Cx} {t : E} {ts : List E} {x : Expr} {xs : List Expr} {pos p : Pos}
theorem rv_nil : PA X [] (tV X.K ta C []) :=
  PA.mono pa_nil fun σ H Q h => by
    obtain ⟨G, ρ, τ, d, τ', R, e, q⟩ := h
    cases ret_some e
    exact q [] G H Ext.refl R .nil
theorem rv_cons {k : Kd} (ha : PE X x (tE X.K ta C k t)) (hr : PA X xs (tV X.K ta C ts)) (hx : notStar x = true) (ht : notStarE t = true) : PA X (x :: xs) (tV X.K ta C (t :: ts)) :=
  PA.mono (pa_cons ha hr (star_no hx)) fun σ H Q h => by
    obtain ⟨G, ρ, τ, d, τ', R, e, q⟩ := h
    rw [evEs_cons ht] at e
    obtain ⟨y, τ1, e1, f1⟩ := bnd_some (x := evE C t ρ) e
    obtain ⟨ys, τ2, e2, f2⟩ := bnd_some f1
    cases ret_some f2
    refine ⟨G, ρ, τ, y, τ1, R, e1, fun v1 G1 H1 x1 R1 w1 => ⟨G1, ρ, τ1, ys, _, R1, e2, fun vs G2 H2 x2 R2 w2 => ?_⟩⟩
    exact q _ G2 H2 (x1.trans x2) R2 (.cons (w1.view.ext x2) w2)
theorem rk_nil : PA X [] (tK X.K ta C []) :=
  PA.mono pa_nil fun σ H Q h => by
    obtain ⟨G, ρ, τ, d, τ', R, e, q⟩ := h
    cases ret_some e
    exact q [] G H Ext.refl R .nil
theorem rk_cons (ha : PE X x (tE X.K ta C .dat t)) (hr : PA X xs (tK X.K ta C ts)) (hx : notStar x = true) (ht : notStarE t = true) : PA X (x :: xs) (tK X.K ta C (t :: ts)) :=
  PA.mono (pa_cons ha hr (star_no hx)) fun σ H Q h => by
    obtain ⟨G, ρ, τ, d, τ', R, e, q⟩ := h
    rw [evEs_cons ht] at e
    obtain ⟨y, τ1, e1, f1⟩ := bnd_some (x := evE C t ρ) e
    obtain ⟨ys, τ2, e2, f2⟩ := bnd_some f1
    cases ret_some f2
    refine ⟨G, ρ, τ, y, τ1, R, e1, fun v1 G1 H1 x1 R1 w1 => ⟨G1, ρ, τ1, ys, _, R1, e2, fun vs G2 H2 x2 R2 w2 => ?_⟩⟩
    exact q _ G2 H2 (x1.trans x2) R2 (.cons (DR.same x2.g w1) w2)
theorem rk_star {k : Kd} (ha : PE X x (tE X.K ta C k t)) (hr : PA X xs (tK X.K ta C ts)) : PA X (.Starred x p :: xs) (tK X.K ta C (.star t :: ts)) :=
  PA.mono (StX.pa_star ha hr) fun σ H Q h => by
    obtain ⟨G, ρ, τ, d, τ', R, e, q⟩ := h
    obtain ⟨y, τ1, e1, f1⟩ := bnd_some (x := evE C t ρ) e
    obtain ⟨ss, τ2, e2, f2⟩ := bnd_some f1
    obtain ⟨ys, τ3, e3, f3⟩ := bnd_some f2
    obtain ⟨g2, rfl⟩ := of_some e2
    cases ret_some f3
    refine ⟨G, ρ, τ, y, _, R, e1, fun v1 G1 H1 x1 R1 w1 => ?_⟩
    cases y with
    | list ds =>
      cases g2
      obtain ⟨a, zs, rfl, rd, dr⟩ := w1.view.lst R1.sub
      exact ⟨a, zs, rfl, .inr rd, G1, ρ, _, ys, _, R1, e3, fun vs G2 H2 x2 R2 w2 => q _ G2 H2 (x1.trans x2) R2 ((dr.same x2.g).append w2)⟩
    | tuple ds =>
      cases g2
      obtain ⟨a, zs, rfl, rd, dr⟩ := w1.view.tup R1.sub
      exact ⟨a, zs, rfl, .inl rd, G1, ρ, _, ys, _, R1, e3, fun vs G2 H2 x2 R2 w2 => q _ G2 H2 (x1.trans x2) R2 ((dr.same x2.g).append w2)⟩
    | _ => cases g2
theorem rd_lst (hr : PA X xs (tK X.K ta C ts)) : PE X (.List xs pos) (tE X.K ta C .fresh (.lst ts)) :=
  PE.mono (pe_lst hr) fun σ H Q h => by
    obtain ⟨G, ρ, τ, d, τ', R, e, q⟩ := h
    obtain ⟨ds, τ1, e1, f1⟩ := bnd_some (x := evEs C ts ρ) e
    split at f1
    · rename_i hz
      cases ret_some f1
      refine ⟨G, ρ, τ, ds, _, R, e1, fun vs G1 H1 x1 R1 w1 => ⟨by rw [w1.length]; exact lineOk_le hz, fresh_out R1.sub (op_end R1 x1 q) w1⟩⟩
    · cases f1
theorem rd_tup {kk : Nat} (hr : PA X xs (tK X.K ta C ts)) : PE X (.Tuple xs kk pos) (tE X.K ta C .dat (.tup ts)) :=
  PE.mono (pe_tupP hr) fun σ H Q h => by
    obtain ⟨G, ρ, τ, d, τ', R, e, q⟩ := h
    obtain ⟨ds, τ1, e1, f1⟩ := bnd_some (x := evEs C ts ρ) e
    split at f1
    · rename_i hz
      cases ret_some f1
      refine ⟨G, ρ, τ, ds, _, R, e1, fun vs G1 H1 x1 R1 w1 => ⟨by rw [w1.length]; exact lineOk_le hz, tup_out R1.sub (op_end R1 x1 q) w1⟩⟩
    · cases f1
/-! ### names, constants -/
theorem rd_var {i : Nat} {x : Str} (hN : X.N[i]? = some x) (hv : Vis X.env.scope x) (hd : (x == ("__debug__" : Str)) = false) (hcd : (x == ("__classdict__" : Str)) = false) : PE X (.Name x pos) (tE X.K ta C .dat (.var i)) :=
  PE.mono (pe_var hN hv hd hcd) fun σ H Q h => by
    obtain ⟨G, ρ, τ, d, τ', R, e, q⟩ := h
    have e : (match ρ[i]? with
      | some (some (.dat d)) => some (d, τ)
      | _ => none) = some (d, τ') := e
    split at e
    · rename_i d' hd'
      cases e
      obtain ⟨v, h1, h2⟩ := R.dat i d hd'
      exact ⟨v, h1, q v G H Ext.refl R h2⟩
    · cases e
theorem rd_peek {i : Nat} {x : Str} (hN : X.N[i]? = some x) (hv : Vis X.env.scope x) (hd : (x == ("__debug__" : Str)) = false) (hcd : (x == ("__classdict__" : Str)) = false) : PE X (.Name x pos) (tE X.K ta C .peek (.peek i)) :=
  PE.mono (pe_var hN hv hd hcd) fun σ H Q h => by
    obtain ⟨G, ρ, τ, d, τ', R, e, q⟩ := h
    have e : (match ρ[i]? with
      | some (some (.own o)) => some (o.data, τ)
      | _ => none) = some (d, τ') := e
    split at e
    · rename_i d' hd'
      cases e
      obtain ⟨a, o, h1, h2, h3, h4, h5⟩ := R.own i _ hd'
      exact ⟨_, h1, q _ G H Ext.refl R (.inr ⟨a, o, _, rfl, rfl, h2, h4, h5⟩)⟩
    · cases e
theorem rd_const {v : V} {d : D} (hp : PE X x (tC v)) (hd : ∀ G, DR X.K G v d) (ht : ∀ ρ, evE C t ρ = M.ret d) : PE X x (tE X.K ta C .dat t) :=
  PE.mono hp fun σ H Q h => by
    obtain ⟨G, ρ, τ, d', τ', R, e, q⟩ := h
    rw [ht] at e
    cases ret_some e
    exact q v G H Ext.refl R (hd G)
/-! ### the box -/
theorem isTin_at {ρ : En} {i : Nat} (h : isTin ρ i = true) : ρ[i]? = some (some .tin) := by
  unfold isTin at h
  split at h
  · assumption
  · cases h
theorem rd_tget {k : Kd} {i : Nat} {y : Str} (hN : X.N[i]? = some y) (hv : Vis X.env.scope y) (hd : (y == ("__debug__" : Str)) = false) (hcd : (y == ("__classdict__" : Str)) = false) (ha : PE X x (tE X.K ta C k t)) (hs : PlainIx x) :
    PE X (.Subscript (.Name y p) x pos) (tE X.K ta C .dat (.tget i t)) :=
  PE.mono (pe_ix ix_list (pe_var hN hv hd hcd) ha hs) fun σ H Q h => by
    obtain ⟨G, ρ, τ, d, τ', R, e, q⟩ := h
    obtain ⟨w, τ1, e1, f1⟩ := bnd_some (x := evE C t ρ) e
    have f1 : (if isTin ρ i then (match getD (.list τ1) w with
      | some d => some (d, τ1)
      | none => none) else none) = some (d, τ') := f1
    split at f1
    · rename_i ht
      split at f1
      · rename_i d' hd'
        cases f1
        obtain ⟨a, rfl, h1⟩ := R.tn i (isTin_at ht)
        refine ⟨_, h1, G, ρ, τ, w, _, R, e1, fun v1 G1 H1 x1 R1 w1 => ?_⟩
        cases w with
        | int j =>
          obtain ⟨n, vs, h2, h3⟩ := R1.tin a rfl
          obtain ⟨u, h4, h5⟩ := h3.atI hd'
          exact ⟨a, vs, j, u, rfl, w1.view.int, .inl (.inl h2), h4, q _ G1 H1 x1 R1 h5⟩
        | _ => cases hd'
      · cases f1
    · cases f1
end
end KN

set_option maxRecDepth 100000
set_option maxHeartbeats 1000000
namespace KN
open PySem L2 PyProof.Rows
section
variable {ta : Option Addr} {C : Nat → List D → M D} {X : Cx} {t : E} {ts : List E} {x y : Expr} {xs : List Expr} {pos p p2 : Pos}
theorem bi_mem (f : Bi) : biName f ∈ biL := by cases f <;> decide
theorem rd_bi {f : Bi} (hc : X.calm = true) (hu : X.A.units + 64 < cLine) (hb : ∀ x ∈ biL, X.mg x = none) (hg : Gl X (biName f)) (hn : biName f ≠ "__name__") (hd : (biName f == ("__debug__" : Str)) = false) (hr : PA X (y :: xs) (tV X.K ta C ts)) (hs : noStars (y :: xs) = true) :
    PE X (.Call (.Name (biName f) p) (y :: xs) [] pos) (tE X.K ta C .fresh (.bi f ts)) := by
  have hm := hb _ (bi_mem f)
  have hv := bi_boot f
  simp only [noStars, Bool.and_eq_true] at hs
  have main : PE X (.Call (.Name (biName f) p) (y :: xs) [] pos) (tCB (rVs X.K (biD f) .fresh) (tV X.K ta C ts)) := by
    have cr : CallR X (biVal f) (rVs X.K (biD f) .fresh) := cr_bi f hc hu
    cases f with
    | list => exact pe_callTy cr hg hm hv hr hn hd (star_no hs.1) (back_no hs.2)
    | tuple => exact pe_callTy cr hg hm hv hr hn hd (star_no hs.1) (back_no hs.2)
    | int => exact pe_callTy cr hg hm hv hr hn hd (star_no hs.1) (back_no hs.2)
    | dict => exact pe_callTy cr hg hm hv hr hn hd (star_no hs.1) (back_no hs.2)
    | len => exact pe_callB cr hg hm hv hr hn hd (star_no hs.1) (back_no hs.2)
    | abs => exact pe_callB cr hg hm hv hr hn hd (star_no hs.1) (back_no hs.2)
    | sum => exact pe_callB cr hg hm hv hr hn hd (star_no hs.1) (back_no hs.2)
    | max => exact pe_callB cr hg hm hv hr hn hd (star_no hs.1) (back_no hs.2)
    | min => exact pe_callB cr hg hm hv hr hn hd (star_no hs.1) (back_no hs.2)
    | all => exact pe_callB cr hg hm hv hr hn hd (star_no hs.1) (back_no hs.2)
    | any => exact pe_callB cr hg hm hv hr hn hd (star_no hs.1) (back_no hs.2)
    | sorted => exact pe_callB cr hg hm hv hr hn hd (star_no hs.1) (back_no hs.2)
  refine PE.mono main fun σ H Q h => ?_
  obtain ⟨G, ρ, τ, d, τ', R, e, q⟩ := h
  obtain ⟨ds, τ1, e1, f1⟩ := bnd_some (x := evEs C ts ρ) e
  obtain ⟨g1, rfl⟩ := of_some f1
  refine ⟨G, ρ, τ, ds, _, R, e1, fun vs G1 H1 x1 R1 w1 => ⟨G1, ds, d, R1.sub, w1.weak, g1, op_end R1 x1 q⟩⟩

theorem rd_sset {k : Kd} {p3 : Pos} (hc : X.calm = true) (hb : ∀ x ∈ biL, X.mg x = none) (hg : Gl X "sorted") (hg2 : Gl X "set") (ha : PE X y (tE X.K ta C k t)) (hy : notStar y = true) :
    PE X (.Call (.Name "sorted" p) [.Call (.Name "set" p2) [y] [] p3] [] pos) (tE X.K ta C .fresh (.sset t)) := by
  refine PE.mono (pe_sset hc hg (hb _ (by decide)) hg2 (hb _ (by decide)) ha (star_no hy)) fun σ H Q h => ?_
  obtain ⟨G, ρ, τ, d, τ', R, e, q⟩ := h
  obtain ⟨w, τ1, e1, f1⟩ := bnd_some (x := evE C t ρ) e
  obtain ⟨g1, rfl⟩ := of_some f1
  refine ⟨G, ρ, τ, w, _, R, e1, fun v1 G1 H1 x1 R1 w1 => ?_⟩
  have key : ∀ (l : Addr) (zs : List V) (ds : List D), SeqB X.K H1 l zs → DRs X.K G1 zs ds → ssetL ds = some d → v1 = .ref l → ∃ l, v1 = .ref l ∧
      ((∃ xs : List Str, SeqB X.K H1 l (xs.map V.str) ∧ xs.length < 64 ∧ ∀ (ys : List Str) p, sortedS ys = true → ys.Nodup → (∀ x, x ∈ ys ↔ x ∈ xs) → H1 p = none → Q (.ref p) (upd H1 p (.lst (ys.map V.str)))) ∨
       (∃ xs : List Int, SeqB X.K H1 l (xs.map V.int) ∧ xs.length < 64 ∧ ∀ (ys : List Int) p, ys.Pairwise (· ≤ ·) → ys.Nodup → (∀ x, x ∈ ys ↔ x ∈ xs) → H1 p = none → Q (.ref p) (upd H1 p (.lst (ys.map V.int))))) := fun l zs ds hq dr hd hv => by
    refine ⟨l, hv, ?_⟩
    unfold ssetL keysOk at hd
    split at hd
    · rename_i hz
      simp only [Bool.and_eq_true, decide_eq_true_eq, Bool.or_eq_true] at hz
      obtain ⟨h64, hz⟩ := hz
      cases hd
      have ln := dr.length
      rcases hz with hz | hz
      · obtain ⟨ns, en⟩ := Option.isSome_iff_exists.mp hz
        obtain rfl := dr.ints en
        obtain rfl := intsOf_eq en
        rw [List.length_map] at ln h64
        exact .inr ⟨ns, hq, by omega, fun ys p s1 s2 s3 np => fresh_out R1.sub (op_end R1 x1 q) (by rw [← sset_ints s1 s2 s3]; exact DRs.ofInts _) p np⟩
      · obtain ⟨ns, en⟩ := Option.isSome_iff_exists.mp hz
        obtain rfl := dr.strs en
        obtain rfl := strsOf_eq en
        rw [List.length_map] at ln h64
        exact .inl ⟨ns, hq, by omega, fun ys p s1 s2 s3 np => fresh_out R1.sub (op_end R1 x1 q) (by rw [← sset_strs s1 s2 s3]; exact DRs.ofStrs _) p np⟩
    · cases hd
  cases w with
  | list ds =>
    obtain ⟨l, xs, rfl, rd, dr⟩ := w1.view.lst R1.sub
    exact key l xs ds (.inl rd) dr g1 rfl
  | tuple ds =>
    obtain ⟨l, xs, rfl, rd, dr⟩ := w1.view.tup R1.sub
    exact key l xs ds (.inr rd) dr g1 rfl
  | _ => cases g1
/-! ### isinstance -/
def tTys (ts : List String) : TA := fun _ H Q => Q (ts.map V.ty) H
theorem pa_tys {Γ : Cn} (hb : ∀ x ∈ biL, X.mg x = none) (hg : ∀ x, glOk Γ x = true → Gl X x ∧ x ≠ "__name__" ∧ (x == ("__debug__" : Str)) = false) : ∀ {ts : List String} {cs : List Expr}, tysOk Γ ts cs = true → PA X cs (tTys ts)
  | [], [], _ => PA.mono pa_nil fun σ H Q h => h
  | [], _ :: _, h => by simp [tysOk] at h
  | t :: ts, [], h => by simp [tysOk] at h
  | t :: ts, c :: cs, h => by
    cases c with
    | Name z q =>
      simp only [tysOk, Bool.and_eq_true, decide_eq_true_eq, beq_iff_eq] at h
      obtain ⟨⟨⟨⟨h1, h2⟩, h3⟩, h4⟩, h5⟩ := h
      obtain ⟨g1, g2, g3⟩ := hg z h2
      exact PA.mono (pa_cons (pe_bltn (v := .ty t) g1 (hb z h3) h4 rfl g2 g3) (pa_tys hb hg h5)) fun σ H Q h => h
    | _ => simp [tysOk] at h
theorem rd_isi1 {k : Kd} {T : String} {c : Expr} (hb : ∀ x ∈ biL, X.mg x = none) (hg : Gl X "isinstance") (ha : PE X y (tE X.K ta C k t)) (hy : notStar y = true) (hc : PA X [c] (tTys [T])) (hcs : notStar c = true) :
    PE X (.Call (.Name "isinstance" p) [y, c] [] pos) (tE X.K ta C .dat (.isi t [T] false)) := by
  have hm := hb "isinstance" (by decide)
  have hv : bootBuiltins "isinstance" = some (.builtin "isinstance") := by decide +kernel
  refine PE.mono (pe_callB call_isi hg hm hv (pa_cons ha hc (star_no hy)) (by decide) (by decide) (star_no hy) (back_no (by simp [noStars, hcs]))) fun σ H Q h => ?_
  obtain ⟨G, ρ, τ, d, τ', R, e, q⟩ := h
  obtain ⟨w, τ1, e1, f1⟩ := bnd_some (x := evE C t ρ) e
  obtain ⟨g1, rfl⟩ := of_some f1
  refine ⟨G, ρ, τ, w, _, R, e1, fun v1 G1 H1 x1 R1 w1 => ?_⟩
  unfold isiD at g1
  split at g1
  · rename_i b hb'
    cases g1
    have hk : kitB (tyD w) T = some b := by
      unfold kitAnyB at hb'
      split at hb'
      · rename_i hq; cases hb'; exact hq
      · rename_i hq
        cases hb'
        exact hq
      · cases hb'
    exact ⟨v1, .ty T, .type (tyD w), .type T, b, rfl, .ty T, ty_of (w1.view.at R1.sub), kit_ty hk, q _ G1 H1 x1 R1 (.bl b)⟩
  · cases g1
theorem rd_isiT {k : Kd} {Ts : List String} {cs : List Expr} {kk : Nat} (hb : ∀ x ∈ biL, X.mg x = none) (hg : Gl X "isinstance") (ha : PE X y (tE X.K ta C k t)) (hy : notStar y = true) (hc : PA X cs (tTys Ts)) (hl : Ts.length ≤ 8) :
    PE X (.Call (.Name "isinstance" p) [y, .Tuple cs kk p2] [] pos) (tE X.K ta C .dat (.isi t Ts true)) := by
  have hm := hb "isinstance" (by decide)
  have hv : bootBuiltins "isinstance" = some (.builtin "isinstance") := by decide +kernel
  refine PE.mono (pe_callB call_isiT hg hm hv (pa_cons ha (pa_cons (pe_tup hc) pa_nil) (star_no hy)) (by decide) (by decide) (star_no hy) rfl) fun σ H Q h => ?_
  obtain ⟨G, ρ, τ, d, τ', R, e, q⟩ := h
  obtain ⟨w, τ1, e1, f1⟩ := bnd_some (x := evE C t ρ) e
  obtain ⟨g1, rfl⟩ := of_some f1
  refine ⟨G, ρ, τ, w, _, R, e1, fun v1 G1 H1 x1 R1 w1 => ?_⟩
  refine ⟨by rw [List.length_map, sizeLine_eq]; omega, fun tp hp => ?_⟩
  unfold isiD at g1
  split at g1
  · rename_i b hb'
    cases g1
    have sm : Same H1 (upd H1 tp (.tup (Ts.map V.ty))) := fun b o h => by rw [upd_ne (ne_of_none h hp)]; exact h
    exact ⟨v1, tp, Ts.map V.ty, .type (tyD w), Ts.map Value.type, b, rfl, upd_same, clsV_all Ts, ty_of ((w1.view.at R1.sub).same sm), kit_any hb', q _ G1 _ (x1.trans (Ext.fresh hp)) (R1.fresh hp) (.bl b)⟩
  · cases g1

/-! ### calls of the text's own defs -/
variable {Γ : Cn} {n : Nat}
theorem getT {F : Fn} {f : Nat} {x : Str} {a b : Bool} (h : fnIs Γ f x a b = true) : ∃ F, Γ.T.lookup f = some F ∧ F.name = x ∧ F.tin = a ∧ F.fresh = b := by
  unfold fnIs at h
  split at h
  · rename_i F hF
    simp only [Bool.and_eq_true, decide_eq_true_eq, beq_iff_eq] at h
    exact ⟨F, hF, h.1.1, h.1.2, h.2⟩
  · cases h
/-- the call's end: from what the arguments are to the promise -/
theorem call_sp {K : Fg} {G G1 H H1 : Hp} {σ : L2.St} {ρ : En} {τ : List D} {vs : List V} {ds : List D} {f : Nat} {d : D} {τ1 : List D} {fr : Bool} {Q : VK} {E : XK} (R1 : Rel K ta G1 σ H1 ρ τ) (x1 : Ext ta G H G1 H1) (w : DRs K G1 vs ds) (e : C f ds [] = some (d, τ1))
    (q : ∀ v G' H', Ext ta G H G' H' → Rel K ta G' σ H' ρ τ → Val K ta H G' H' (if fr then .fresh else .dat) v d → Q v H') : spF K C f false fr vs H1 Q E := by
  have hk : (if fr then Kd.fresh else Kd.dat) ≠ .peek := by cases fr <;> decide
  exact ⟨G1, none, vs, ds, [], d, τ1, R1.sub, (fun _ z => nomatch z), ⟨rfl, rfl⟩, w, e, fun v G' H' x' s' _ h => op_end R1 x1 q hk v G' H' x' s' h⟩
theorem app_nil {α : Type} (l : List α) : l ++ [] = l := List.append_nil l
theorem call_ev {f : Nat} {ts : List E} {ρ : En} {τ τ' : List D} {d : D} (e : ((evEs C ts ρ).bnd fun ds τ => match C f ds [] with
    | some (d, _) => some (d, τ)
    | none => none) τ = some (d, τ')) : ∃ ds τ1, evEs C ts ρ τ = some (ds, τ') ∧ C f ds [] = some (d, τ1) := by
  obtain ⟨ds, τ2, e1, f1⟩ := bnd_some e
  have f1 : (match C f ds [] with
    | some (d, _) => some (d, τ2)
    | none => none) = some (d, τ') := f1
  split at f1
  · rename_i d' τ3 h
    cases f1
    exact ⟨ds, τ3, e1, h⟩
  · cases f1
/-- a new value may be taken as a kept one -/
theorem spF_dat {K : Fg} {f : Nat} {fr : Bool} {vs : List V} {H : Hp} {Q : VK} {E : XK} (h : spF K C f false false vs H Q E) : spF K C f false fr vs H Q E := by
  obtain ⟨G, ta, ws, ds, τ, d, τ', sm, ht, hv, dr, ec, q⟩ := h
  refine ⟨G, ta, ws, ds, τ, d, τ', sm, ht, hv, dr, ec, fun v G' H' x s t w => ?_⟩
  cases fr with
  | false => exact q v G' H' x s t w
  | true =>
    rcases w with ⟨h, _⟩ | ⟨a, o, od, rfl, rfl, h0, h1, h2, h3, h4⟩
    · exact q v G' H' x s t h
    · have sm' : Same G' (upd G' a o) := fun b u h => by rw [upd_ne (ne_of_none h h2)]; exact h
      refine q _ (upd G' a o) H' ⟨x.g.trans sm', fun b u h => ?_, x.keep, x.there⟩ (fun b u h => ?_) (fun b e => ?_) (h4.dr sm' upd_same)
      · by_cases e : b = a
        · subst e; exact .inr h0
        · rw [upd_ne e] at h; exact x.new b u h
      · by_cases e : b = a
        · subst e; rw [upd_same] at h; cases h; exact h3
        · rw [upd_ne e] at h; exact s b u h
      · rw [hv.1] at e; cases e
theorem fn_any {f : Nat} {z : Str} (O : XOk Γ n X) (h : fnAny Γ f z = true) : ∃ (F : Fn) (fa : Addr) (fd : FuncData), F.name = z ∧ X.mg F.name = some (.ref fa) ∧ PySem.W.keepIn X.K (.ref fa) = true ∧ Binds X.K fd F.ps [] ∧ FnOk X.prog X.w X.K X.mg X.base CX0 n fa fd F.ps (spF X.K (callF Γ.B n) f false false) ∧ ∀ p ∈ Γ.kw, p.f = f → KBinds X.K fd F.ps p.ks (gP p) (gP p) := by
  unfold fnAny at h
  split at h
  · rename_i F hF
    simp only [Bool.and_eq_true, decide_eq_true_eq, beq_iff_eq] at h
    obtain ⟨fa, fd, g1, g2, g3, g4, g5⟩ := O.fns f F hF
    rw [h.2] at g4
    exact ⟨F, fa, fd, h.1, g1, g2, g3, g4.imp fun _ _ _ _ q => spF_dat q, g5⟩
  · cases h
theorem fn_new {f : Nat} {z : Str} (O : XOk Γ n X) (h : fnIs Γ f z false true = true) : ∃ (F : Fn) (fa : Addr) (fd : FuncData), F.name = z ∧ X.mg F.name = some (.ref fa) ∧ PySem.W.keepIn X.K (.ref fa) = true ∧ Binds X.K fd F.ps [] ∧ FnOk X.prog X.w X.K X.mg X.base CX0 n fa fd F.ps (spF X.K (callF Γ.B n) f false true) := by
  obtain ⟨F, hF, rfl, h2, h3⟩ := getT (F := ⟨"", [], [], false, false, []⟩) h
  obtain ⟨fa, fd, g1, g2, g3, g4, _⟩ := O.fns f F hF
  rw [h2, h3] at g4
  exact ⟨F, fa, fd, rfl, g1, g2, g3, g4⟩
theorem rd_call {f : Nat} {z : Str} {fr : Bool} (O : XOk Γ n X) (hf : ∃ (F : Fn) (fa : Addr) (fd : FuncData), F.name = z ∧ X.mg F.name = some (.ref fa) ∧ PySem.W.keepIn X.K (.ref fa) = true ∧ Binds X.K fd F.ps [] ∧ FnOk X.prog X.w X.K X.mg X.base CX0 n fa fd F.ps (spF X.K (callF Γ.B n) f false fr)) (hg : Gl X z) (hd : (z == ("__debug__" : Str)) = false) (hr : PA X xs (tK X.K ta (callF Γ.B n) ts)) (hs : noStars xs = true) (hl : xs = [] → ts = []) :
    PE X (.Call (.Name z p) xs [] pos) (tE X.K ta (callF Γ.B n) (if fr then .fresh else .dat) (if fr then .callN f ts else .call f ts)) := by
  obtain ⟨F, fa, fd, rfl, g1, g2, g3, g4⟩ := hf
  have ev : ∀ {ρ : En} {τ τ' : List D} {d : D}, evE (callF Γ.B n) (if fr then .callN f ts else .call f ts) ρ τ = some (d, τ') → ∃ ds τ1, evEs (callF Γ.B n) ts ρ τ = some (ds, τ') ∧ callF Γ.B n f ds [] = some (d, τ1) := fun {ρ τ τ' d} e => by
    cases fr with
    | true => exact call_ev e
    | false => exact call_ev e
  cases xs with
  | nil =>
    refine PE.mono (pe_call0 g4 O.room hg g1 g2 g3 .nil pass0 hd) fun σ H Q h => ?_
    obtain ⟨G, ρ, τ, d, τ', R, e, q⟩ := h
    obtain ⟨ds, τ1, e1, e2⟩ := ev e
    cases hl rfl
    cases ret_some e1
    exact call_sp (E := E0) R Ext.refl .nil e2 q
  | cons y ys =>
    simp only [noStars, Bool.and_eq_true] at hs
    refine PE.mono (pe_call g4 O.room hg g1 g2 g3 .nil pass0 hr hd (star_no hs.1) (back_no hs.2)) fun σ H Q h => ?_
    obtain ⟨G, ρ, τ, d, τ', R, e, q⟩ := h
    obtain ⟨ds, τ1, e1, e2⟩ := ev e
    refine ⟨G, ρ, τ, ds, τ', R, e1, fun vs G1 H1 x1 R1 w1 => ?_⟩
    show spF X.K (callF Γ.B n) f false fr (vs ++ []) H1 Q E0
    rw [app_nil]
    exact call_sp R1 x1 w1 e2 q
/-- with keywords -/
theorem kw_all {env : PySem.Env} : ∀ {kws : List Keyword}, kwAll kws = true → (backToKw pos (keywordEach kws env)).all (·.1.isSome) = true ∧ (backToKw pos (keywordEach kws env)).filterMap (·.1) = kwNames kws ∧ (backToKw pos (keywordEach kws env)).any (·.1.isNone) = false
  | [], _ => ⟨rfl, rfl, rfl⟩
  | ⟨some z, e, q⟩ :: r, h => by
    obtain ⟨h1, h2, h3⟩ := kw_all (env := env) (kws := r) h
    unfold backToKw at h1 h2 h3 ⊢
    refine ⟨?_, ?_, ?_⟩
    · simp only [keywordEach, List.map_cons, List.all_cons, Option.isSome_some, Bool.true_and]
      exact h1
    · simp only [keywordEach, List.map_cons, kwNames]
      rw [List.filterMap_cons]
      simp only [h2]
    · simp only [keywordEach, List.map_cons, List.any_cons, Option.isNone_some, Bool.false_or]
      exact h3
  | ⟨none, e, q⟩ :: r, h => by cases h
theorem PK.mono {kws : List Keyword} {t t' : TA} (h : PK X kws t) (i : ∀ σ H Q, t' σ H Q → t σ H Q) : PK X kws t' := ⟨fun p pins s σ H Q I q => h.run p pins s σ H Q I (i σ H Q q)⟩
theorem pk_nilK : PK X [] (tK X.K ta C []) :=
  PK.mono pk_nil fun σ H Q h => by
    obtain ⟨G, ρ, τ, d, τ', R, e, q⟩ := h
    cases ret_some e
    exact q [] G H Ext.refl R .nil
theorem pk_consK {nm : Option Str} {kws : List Keyword} {kp : Pos} (ha : PE X x (tE X.K ta C .dat t)) (hr : PK X kws (tK X.K ta C ts)) (ht : notStarE t = true) : PK X (⟨nm, x, kp⟩ :: kws) (tK X.K ta C (t :: ts)) :=
  PK.mono (pk_cons ha hr) fun σ H Q h => by
    obtain ⟨G, ρ, τ, d, τ', R, e, q⟩ := h
    rw [evEs_cons ht] at e
    obtain ⟨y, τ1, e1, f1⟩ := bnd_some (x := evE C t ρ) e
    obtain ⟨ys, τ2, e2, f2⟩ := bnd_some f1
    cases ret_some f2
    refine ⟨G, ρ, τ, y, τ1, R, e1, fun v1 G1 H1 x1 R1 w1 => ⟨G1, ρ, τ1, ys, _, R1, e2, fun vs G2 H2 x2 R2 w2 => ?_⟩⟩
    exact q _ G2 H2 (x1.trans x2) R2 (.cons (DR.same x2.g w1) w2)
theorem DRs.getD {K : Fg} {G : Hp} {vs : List V} {ds : List D} (h : DRs K G vs ds) (i : Nat) : DR K G (vs.getD i default) (ds.getD i default) := by
  rw [List.getD_eq_getElem?_getD, List.getD_eq_getElem?_getD]
  cases e : ds[i]? with
  | none =>
    have : vs[i]? = none := by
      rw [List.getElem?_eq_none_iff] at e ⊢
      rw [h.length]; exact e
    rw [this]
    exact .non
  | some d =>
    obtain ⟨v, e1, e2⟩ := h.get e
    rw [e1]
    exact e2
theorem DRs.perm {K : Fg} {G : Hp} {vs : List V} {ds : List D} (h : DRs K G vs ds) : ∀ perm : List Nat, DRs K G (permL perm vs) (permL perm ds)
  | [] => .nil
  | i :: r => .cons (h.getD i) (DRs.perm h r)
theorem rd_callK {f : Nat} {z : Str} {perm : List Nat} {ks : List E} {kws : List Keyword} (O : XOk Γ n X) (hf : fnAny Γ f z = true) (hg : Gl X z) (hd : (z == ("__debug__" : Str)) = false) (hr : PA X xs (tK X.K ta (callF Γ.B n) ts)) (hs : noStars xs = true) (hl : xs.length = ts.length) (hl2 : (kwNames kws).length = ks.length)
    (hk : PK X kws (tK X.K ta (callF Γ.B n) ks)) (ha : kwAll kws = true) (hp : (⟨f, ts.length, kwNames kws, perm⟩ : Kw) ∈ Γ.kw) (hst : ∀ t ∈ ts, notStarE t = true) (hst2 : ∀ t ∈ ks, notStarE t = true) :
    PE X (.Call (.Name z p) xs kws pos) (tE X.K ta (callF Γ.B n) .dat (.callK f perm ts ks)) := by
  obtain ⟨F, fa, fd, rfl, g1, g2, g3, g4, g5⟩ := fn_any O hf
  have kb := g5 _ hp rfl
  obtain ⟨k1, k2, k3⟩ := kw_all (pos := pos) (env := X.env) ha
  have evl : ∀ {us : List E} (_ : ∀ t ∈ us, notStarE t = true) {ρ : En} {τ τ' : List D} {ds : List D}, evEs (callF Γ.B n) us ρ τ = some (ds, τ') → ds.length = us.length := by
    intro us
    induction us with
    | nil => intro _ ρ τ τ' ds e; cases ret_some e; rfl
    | cons u r ih =>
      intro hu ρ τ τ' ds e
      rw [evEs_cons (hu u List.mem_cons_self)] at e
      obtain ⟨y, τ1, e1, f1⟩ := bnd_some (x := evE (callF Γ.B n) u ρ) e
      obtain ⟨ys, τ2, e2, f2⟩ := bnd_some f1
      cases ret_some f2
      rw [List.length_cons, List.length_cons, ih (fun t ht => hu t (List.mem_cons_of_mem _ ht)) e2]
  have fin : ∀ σ H Q, tE X.K ta (callF Γ.B n) .dat (.callK f perm ts ks) σ H Q → tCallK (spF X.K (callF Γ.B n) f false false) (gP ⟨f, ts.length, kwNames kws, perm⟩) E0 (tK X.K ta (callF Γ.B n) ts) (tK X.K ta (callF Γ.B n) ks) σ H Q := by
    intro σ H Q h
    obtain ⟨G, ρ, τ, d, τ', R, e, q⟩ := h
    obtain ⟨ds, τ1, e1, f1⟩ := bnd_some (x := evEs (callF Γ.B n) ts ρ) e
    obtain ⟨zs, τ2, e2, f2⟩ := bnd_some f1
    have f2 : (match callF Γ.B n f (permL perm (ds ++ zs)) [] with
      | some (d, _) => some (d, τ2)
      | none => none) = some (d, τ') := f2
    split at f2
    · rename_i d' τ3 hc
      cases f2
      refine ⟨G, ρ, τ, ds, τ1, R, e1, fun vs G1 H1 x1 R1 w1 => ⟨G1, ρ, τ1, zs, _, R1, e2, fun us G2 H2 x2 R2 w2 => ?_⟩⟩
      have gv : gP ⟨f, ts.length, kwNames kws, perm⟩ vs us = permL perm (vs ++ us) := by
        unfold gP
        rw [if_pos]
        exact ⟨w1.length.trans (evl hst e1), (w2.length.trans (evl hst2 e2)).trans hl2.symm⟩
      show spF X.K (callF Γ.B n) f false false (gP ⟨f, ts.length, kwNames kws, perm⟩ vs us) H2 Q E0
      rw [gv]
      exact call_sp (fr := false) R2 (x1.trans x2) (((w1.same x2.g).append w2).perm perm) hc q
    · cases f2
  cases xs with
  | cons y ys =>
    simp only [noStars, Bool.and_eq_true] at hs
    exact PE.mono (pe_callK g4 O.room hg g1 g2 kb pass0 hr hk k1 k2 hd (star_no hs.1) (by rw [back_no (xs := y :: ys) (by simp [noStars, hs]), k3]; rfl)) fin
  | nil =>
    cases ts with
    | cons _ _ => simp at hl
    | nil =>
      refine PE.mono ?_ fin
      refine ⟨fun pins s σ H Q I h => ?_⟩
      obtain ⟨G, ρ, τ, ds, τ', R, e, q⟩ := h
      cases ret_some e
      have h := q [] G H Ext.refl R .nil
      refine wpAny_Call_Name_kw (ld_glob I hg g1 ?_ hd)
      refine PySem.W.callWith_KW0 (h₀ := X.base) I.ok.mod.kin g2 k1 (thn (hk.run pos pins s σ H _ I h) fun ws s2 ⟨zs, H2, I2, rz, q2⟩ => ⟨I2.kIn, ?_⟩) ?_
      · rw [k2]
        exact run_fnk g4 O.room kb pass0 I2 (us := []) .nil rz q2
      · rw [k3]
        rfl
end
end KN

set_option maxRecDepth 100000
set_option maxHeartbeats 1000000
namespace KN
open PySem L2 PyProof.Rows
section
variable {ta : Option Addr} {C : Nat → List D → M D} {X : Cx} {t : E} {ts : List E} {x y : Expr} {xs : List Expr} {pos p p2 : Pos} {Γ : Cn} {n : Nat}
theorem rd_callT {f i : Nat} {z w : Str} (O : XOk Γ n X) (hf : fnIs Γ f z true false = true) (hg : Gl X z) (hd : (z == ("__debug__" : Str)) = false)
    (hN : X.N[i]? = some w) (hv : Vis X.env.scope w) (hwd : (w == ("__debug__" : Str)) = false) (hcd : (w == ("__classdict__" : Str)) = false)
    (hr : PA X xs (tK X.K ta (callF Γ.B n) ts)) (hs : noStars xs = true) :
    PE X (.Call (.Name z p) (.Name w p2 :: xs) [] pos) (tE X.K ta (callF Γ.B n) .dat (.callT f i ts)) := by
  obtain ⟨F, hF, rfl, h2, h3⟩ := getT (F := ⟨"", [], [], false, false, []⟩) hf
  obtain ⟨fa, fd, g1, g2, g3, g4, _⟩ := O.fns f F hF
  rw [h2, h3] at g4
  refine PE.mono (pe_call g4 O.room hg g1 g2 g3 .nil pass0 (pa_cons (pe_var hN hv hwd hcd) hr (star_no rfl)) hd (star_no rfl) (back_no hs)) fun σ H Q h => ?_
  obtain ⟨G, ρ, τ, d, τ', R, e, q⟩ := h
  obtain ⟨ds, τ1, e1, f1⟩ := bnd_some (x := evEs (callF Γ.B n) ts ρ) e
  have f1 : (if isTin ρ i then callF Γ.B n f ds τ1 else none) = some (d, τ') := f1
  split at f1
  · rename_i ht
    obtain ⟨a, rfl, h1⟩ := R.tn i (isTin_at ht)
    refine ⟨_, h1, G, ρ, τ, ds, τ1, R, e1, fun vs G1 H1 x1 R1 w1 => ?_⟩
    show spF X.K (callF Γ.B n) f true false ((V.ref a :: vs) ++ []) H1 Q E0
    rw [app_nil]
    exact ⟨G1, some a, vs, ds, τ1, d, τ', R1.sub, R1.tin, ⟨a, rfl, rfl⟩, w1, f1, fun v G' H' x' s' ht' h => q v G' H' (x1.trans x') (R1.ext x' s' fun b e => (ht' b e).2) h⟩
  · cases f1
theorem rd_callR {f : Nat} {z : Str} (O : XOk Γ n X) (hf : fnIs Γ f z true false = true) (hg : Gl X z) (hd : (z == ("__debug__" : Str)) = false)
    (ha : PE X y (tE X.K ta (callF Γ.B n) .fresh t)) (hy : notStar y = true) (hr : PA X xs (tK X.K ta (callF Γ.B n) ts)) (hs : noStars xs = true) :
    PE X (.Call (.Name z p) (y :: xs) [] pos) (tE X.K ta (callF Γ.B n) .dat (.callR f t ts)) := by
  obtain ⟨F, hF, rfl, h2, h3⟩ := getT (F := ⟨"", [], [], false, false, []⟩) hf
  obtain ⟨fa, fd, g1, g2, g3, g4, _⟩ := O.fns f F hF
  rw [h2, h3] at g4
  refine PE.mono (pe_call g4 O.room hg g1 g2 g3 .nil pass0 (pa_cons ha hr (star_no hy)) hd (star_no hy) (back_no hs)) fun σ H Q h => ?_
  obtain ⟨G, ρ, τ, d, τ', R, e, q⟩ := h
  obtain ⟨w, τ1, e1, f1⟩ := bnd_some (x := evE (callF Γ.B n) t ρ) e
  obtain ⟨ds, τ2, e2, f2⟩ := bnd_some f1
  cases w with
  | list τ0 =>
    have f2 : (match callF Γ.B n f ds τ0 with
      | some (d, _) => some (d, τ2)
      | none => none) = some (d, τ') := f2
    split at f2
    · rename_i d' τ3 hc
      cases f2
      refine ⟨G, ρ, τ, _, τ1, R, e1, fun v1 G1 H1 x1 R1 w1 => ?_⟩
      rcases w1 with ⟨_, z⟩ | ⟨a, ob, es, rfl, hes, h0, hta, hga, hha, hds⟩
      · cases z
      cases es with
      | dic _ => cases hes
      | lst es =>
      cases hes
      obtain ⟨us, rfl, hdl⟩ := hds.ofL
      refine ⟨G1, ρ, τ1, ds, _, R1, e2, fun vs G2 H2 x2 R2 w2 => ?_⟩
      show spF X.K (callF Γ.B n) f true false ((V.ref a :: vs) ++ []) H2 Q E0
      rw [app_nil]
      have hh2 : H2 a = some (.lst us) := x2.keep a _ hta hha
      have hg2 : G2 a = none := by
        cases q2 : G2 a with
        | none => rfl
        | some o =>
          rcases x2.new a o q2 with z | z
          · rw [hga] at z; cases z
          · rw [hha] at z; cases z
      refine ⟨G2, some a, vs, ds, τ0, d, τ3, R2.sub, (fun b e => ?_), ⟨a, rfl, rfl⟩, w2, hc, fun v G' H' x' s' ht' h => ?_⟩
      · cases e
        exact ⟨hg2, us, hh2, hdl.same x2.g⟩
      · have x12 := x1.trans x2
        have ex : Ext ta G H G' H' := ⟨x12.g.trans x'.g, fun b o hb => by
            rcases x'.new b o hb with z | z
            · exact x12.new b o z
            · exact .inr (x12.none_of z), fun b o nb hb => by
            have nab : some a ≠ some b := fun z => by
              cases z
              rw [h0] at hb; cases hb
            exact x'.keep b o nab (x12.keep b o nb hb), fun b o hb => by
            obtain ⟨o', e'⟩ := x12.there b o hb
            exact x'.there b o' e'⟩
        refine q v G' H' ex ⟨s', fun b e => ?_, fun i d e => ?_, fun i ds e => ?_, R2.apart, R2.tn, R2.len⟩ ?_
        · obtain ⟨k1, ws, k2, k3⟩ := R2.tin b e
          have nab : some a ≠ some b := fun z => hta (e.trans z.symm)
          refine ⟨?_, ws, x'.keep b _ nab k2, k3.same x'.g⟩
          cases q2 : G' b with
          | none => rfl
          | some o =>
            rcases x'.new b o q2 with z | z
            · rw [k1] at z; cases z
            · rw [k2] at z; cases z
        · obtain ⟨w, k1, k2⟩ := R2.dat i d e
          exact ⟨w, k1, k2.same x'.g⟩
        · obtain ⟨b, ws, k1, k2, k3, k4, k5⟩ := R2.own i ds e
          have nab : some a ≠ some b := fun z => by
            cases z
            exact R.ownThere i ds e a k1 h0
          refine ⟨b, ws, k1, k2, ?_, x'.keep b _ nab k4, k5.same x'.g⟩
          cases q2 : G' b with
          | none => rfl
          | some o =>
            rcases x'.new b o q2 with z | z
            · rw [k3] at z; cases z
            · rw [k4] at z; cases z
        · exact h
    · cases f2
  | _ => cases f2

/-! ### what a for walks -/
/-- H without the box -/
def minus (ta : Option Addr) (H : Hp) : Hp := fun b => if ta = some b then none else H b
theorem minus_same {ta : Option Addr} {H : Hp} : Same (minus ta H) H := fun b o h => by
  unfold minus at h
  split at h
  · cases h
  · exact h
theorem minus_ext {ta : Option Addr} {G H G' H' : Hp} (x : Ext ta G H G' H') : Same (minus ta H) H' := fun b o h => by
  unfold minus at h
  split at h
  · cases h
  · rename_i e
    exact x.keep b o e h
theorem Rel.minus {K : Fg} {ta : Option Addr} {G H : Hp} {σ : L2.St} {ρ : En} {τ : List D} (R : Rel K ta G σ H ρ τ) : Same G (minus ta H) := fun b o h => by
  unfold KN.minus
  split
  · rename_i e
    rw [(R.tin b e).1] at h; cases h
  · exact R.sub b o h
theorem View.minus {K : Fg} {ta : Option Addr} {G H : Hp} {v : V} {d : D} (h : View K ta G H v d) : View K none G (minus ta H) v d := by
  rcases h with h | ⟨a, o, od, h1, h2, h3, h4, h5⟩
  · exact .inl h
  · exact .inr ⟨a, o, od, h1, h2, by simp, by unfold KN.minus; rw [if_neg h3]; exact h4, h5⟩
theorem Views.minus {K : Fg} {ta : Option Addr} {G H : Hp} : ∀ {vs : List V} {ds : List D}, Views K ta G H vs ds → Views K none G (KN.minus ta H) vs ds
  | _, _, .nil => .nil
  | _, _, .cons h r => .cons h.minus (Views.minus r)
/-- what is walked in a comprehension: nothing but the box changes meanwhile -/
def tI (K : Fg) (ta : Option Addr) (C : Nat → List D → M D) (ik : IK) (src : List E) : TI := fun σ H R => ∃ G ρ τ xs τ1 items, Rel K ta G σ H ρ τ ∧ evEs C src ρ τ = some (xs, τ1) ∧ walkD ik xs = some items ∧
  ∀ G1 H1 J, Ext ta G H G1 H1 → Rel K ta G1 σ H1 ρ τ1 → Wk K G1 (minus ta H1) J items (pairIk ik) → R J H1
/-- .. in a loop: the frozen part alone stays -/
def tIf (K : Fg) (ta : Option Addr) (C : Nat → List D → M D) (ik : IK) (src : List E) : TI := fun σ H R => ∃ G ρ τ xs τ1 items, Rel K ta G σ H ρ τ ∧ evEs C src ρ τ = some (xs, τ1) ∧ walkD ik xs = some items ∧
  ∀ G1 H1 J, Ext ta G H G1 H1 → Rel K ta G1 σ H1 ρ τ1 → Wk K G1 G1 J items (pairIk ik) → R J H1
variable {tg it : Expr} {elts : List Expr} {kk : Nat} {tp : Pos}
theorem evEs_one {ρ : En} {τ τ1 : List D} {xs : List D} (ht : notStarE t = true) (e : evEs C [t] ρ τ = some (xs, τ1)) : ∃ d, xs = [d] ∧ evE C t ρ τ = some (d, τ1) := by
  rw [evEs_cons ht] at e
  obtain ⟨y, τ2, e1, f1⟩ := bnd_some (x := evE C t ρ) e
  obtain ⟨ys, τ3, e2, f2⟩ := bnd_some f1
  cases ret_some e2
  cases ret_some f2
  exact ⟨y, rfl, e1⟩
theorem ri_ex {k : Kd} (ha : PE X it (tE X.K ta C k t)) (ht : notStarE t = true) : PI X tg it (tI X.K ta C .ex [t]) :=
  PI.mono (pi_ex ha) fun σ H R h => by
    obtain ⟨G, ρ, τ, xs, τ1, items, Re, e, w, q⟩ := h
    obtain ⟨d, rfl, e1⟩ := evEs_one ht e
    refine ⟨G, ρ, τ, d, τ1, Re, e1, fun v G1 H1 x1 R1 w1 => ?_⟩
    exact ⟨G1, minus ta H1, d, items, R1.minus, minus_same, w1.view.minus, w, fun J hJ => q G1 H1 J x1 R1 hJ⟩
theorem rif_ex (ha : PE X it (tE X.K ta C .dat t)) (ht : notStarE t = true) : PI X tg it (tIf X.K ta C .ex [t]) :=
  PI.mono (pi_ex ha) fun σ H R h => by
    obtain ⟨G, ρ, τ, xs, τ1, items, Re, e, w, q⟩ := h
    obtain ⟨d, rfl, e1⟩ := evEs_one ht e
    refine ⟨G, ρ, τ, d, τ1, Re, e1, fun v G1 H1 x1 R1 w1 => ?_⟩
    exact ⟨G1, G1, d, items, fun _ _ h => h, R1.sub, .inl w1, w, fun J hJ => q G1 H1 J x1 R1 hJ⟩
theorem ri_enum (hb : ∀ x ∈ biL, X.mg x = none) (hg : Gl X "enumerate") (ha : PA X [x] (tV X.K ta C ts)) (hx : notStar x = true) : PI X (.Tuple elts kk tp) (.Call (.Name "enumerate" p) [x] [] pos) (tI X.K ta C .enum ts) :=
  PI.mono (pi_enumD hg (hb _ (by decide)) ha (star_no hx)) fun σ H R h => by
    obtain ⟨G, ρ, τ, xs, τ1, items, Re, e, w, q⟩ := h
    refine ⟨G, ρ, τ, xs, τ1, Re, e, fun v G1 H1 x1 R1 w1 => ?_⟩
    exact ⟨G1, minus ta H1, xs, items, R1.minus, minus_same, w1.minus, w, fun J hJ => q G1 H1 J x1 R1 hJ⟩
theorem rif_enum (hb : ∀ x ∈ biL, X.mg x = none) (hg : Gl X "enumerate") (ha : PA X [x] (tK X.K ta C ts)) (hx : notStar x = true) : PI X (.Tuple elts kk tp) (.Call (.Name "enumerate" p) [x] [] pos) (tIf X.K ta C .enum ts) :=
  PI.mono (pi_enumD hg (hb _ (by decide)) ha (star_no hx)) fun σ H R h => by
    obtain ⟨G, ρ, τ, xs, τ1, items, Re, e, w, q⟩ := h
    refine ⟨G, ρ, τ, xs, τ1, Re, e, fun v G1 H1 x1 R1 w1 => ?_⟩
    exact ⟨G1, G1, xs, items, fun _ _ h => h, R1.sub, w1.views, w, fun J hJ => q G1 H1 J x1 R1 hJ⟩
theorem ri_vals {k : Kd} {o : Expr} {ap cp : Pos} (ha : PE X o (tE X.K ta C k t)) (ht : notStarE t = true) (hb : baseOk o = true) (hl : (ap.endLine == cp.line) = true) : PI X tg (.Call (.Attribute o "values" ap) [] [] cp) (tI X.K ta C .vals [t]) :=
  PI.mono (pi_valsD ha hb hl) fun σ H R h => by
    obtain ⟨G, ρ, τ, xs, τ1, items, R0, e, w, q⟩ := h
    obtain ⟨d, rfl, e1⟩ := evEs_one ht e
    refine ⟨G, ρ, τ, d, τ1, R0, e1, fun v G1 H1 x1 R1 w1 => ?_⟩
    cases d with
    | dict ds =>
      cases w
      exact ⟨G1, KN.minus ta H1, ds, R1.minus, minus_same, w1.view.minus, fun J wk => q G1 H1 J x1 R1 wk⟩
    | _ => cases w
theorem rif_vals {o : Expr} {ap cp : Pos} (ha : PE X o (tE X.K ta C .dat t)) (ht : notStarE t = true) (hb : baseOk o = true) (hl : (ap.endLine == cp.line) = true) : PI X tg (.Call (.Attribute o "values" ap) [] [] cp) (tIf X.K ta C .vals [t]) :=
  PI.mono (pi_valsD ha hb hl) fun σ H R h => by
    obtain ⟨G, ρ, τ, xs, τ1, items, R0, e, w, q⟩ := h
    obtain ⟨d, rfl, e1⟩ := evEs_one ht e
    refine ⟨G, ρ, τ, d, τ1, R0, e1, fun v G1 H1 x1 R1 w1 => ?_⟩
    cases d with
    | dict ds =>
      cases w
      exact ⟨G1, G1, ds, fun _ _ h => h, R1.sub, .inl w1, fun J wk => q G1 H1 J x1 R1 wk⟩
    | _ => cases w
theorem ri_items {k : Kd} {o : Expr} {ap cp : Pos} (ha : PE X o (tE X.K ta C k t)) (ht : notStarE t = true) (hb : baseOk o = true) (hl : (ap.endLine == cp.line) = true) : PI X (.Tuple elts kk tp) (.Call (.Attribute o "items" ap) [] [] cp) (tI X.K ta C .items [t]) :=
  PI.mono (pi_itemsD ha hb hl) fun σ H R h => by
    obtain ⟨G, ρ, τ, xs, τ1, items, R0, e, w, q⟩ := h
    obtain ⟨d, rfl, e1⟩ := evEs_one ht e
    refine ⟨G, ρ, τ, d, τ1, R0, e1, fun v G1 H1 x1 R1 w1 => ?_⟩
    cases d with
    | dict ds =>
      cases w
      exact ⟨G1, KN.minus ta H1, ds, R1.minus, minus_same, w1.view.minus, fun J wk => q G1 H1 J x1 R1 wk⟩
    | _ => cases w
theorem rif_items {o : Expr} {ap cp : Pos} (ha : PE X o (tE X.K ta C .dat t)) (ht : notStarE t = true) (hb : baseOk o = true) (hl : (ap.endLine == cp.line) = true) : PI X (.Tuple elts kk tp) (.Call (.Attribute o "items" ap) [] [] cp) (tIf X.K ta C .items [t]) :=
  PI.mono (pi_itemsD ha hb hl) fun σ H R h => by
    obtain ⟨G, ρ, τ, xs, τ1, items, R0, e, w, q⟩ := h
    obtain ⟨d, rfl, e1⟩ := evEs_one ht e
    refine ⟨G, ρ, τ, d, τ1, R0, e1, fun v G1 H1 x1 R1 w1 => ?_⟩
    cases d with
    | dict ds =>
      cases w
      exact ⟨G1, G1, ds, fun _ _ h => h, R1.sub, .inl w1, fun J wk => q G1 H1 J x1 R1 wk⟩
    | _ => cases w
theorem near_of {i : Int} (h : near62 i = true) : -(2 ^ 62) ≤ i ∧ i < 2 ^ 62 := by
  simpa [near62] using h
theorem walk_range1 {K : Fg} {G H : Hp} {vs : List V} {ds items : List D} (w : Views K none G H vs ds) (h : walkD .range ds = some items) (hl : vs.length = 1) : ∃ j : Int, vs = [.int j] ∧ -(2 ^ 62) ≤ j ∧ j < 2 ^ 62 ∧ items = rangeD 0 j.toNat := by
  cases w with
  | nil => cases hl
  | cons v1 vr =>
    cases vr with
    | cons _ _ => simp at hl
    | nil =>
      rename_i v d
      cases d with
      | int j =>
        simp only [walkD] at h
        split at h
        · rename_i hz
          simp only [Bool.and_eq_true] at hz
          cases h
          obtain ⟨h1, h2⟩ := near_of hz.1
          exact ⟨j, by rw [v1.int], h1, h2, rfl⟩
        · cases h
      | _ => cases h
theorem walk_range2 {K : Fg} {G H : Hp} {vs : List V} {ds items : List D} (w : Views K none G H vs ds) (h : walkD .range ds = some items) (hl : vs.length = 2) : ∃ i j : Int, vs = [.int i, .int j] ∧ (-(2 ^ 62) ≤ i ∧ i < 2 ^ 62 ∧ -(2 ^ 62) ≤ j ∧ j < 2 ^ 62) ∧ items = rangeD i (j - i).toNat := by
  cases w with
  | nil => cases hl
  | cons v1 vr =>
    cases vr with
    | nil => simp at hl
    | cons v2 vr =>
      cases vr with
      | cons _ _ => simp at hl
      | nil =>
        rename_i v d v' d'
        cases d with
        | int i =>
          cases d' with
          | int j =>
            simp only [walkD] at h
            split at h
            · rename_i hz
              simp only [Bool.and_eq_true] at hz
              cases h
              obtain ⟨h1, h2⟩ := near_of hz.1.1
              obtain ⟨h3, h4⟩ := near_of hz.1.2
              exact ⟨i, j, by rw [v1.int, v2.int], ⟨h1, h2, h3, h4⟩, rfl⟩
            · cases h
          | _ => cases h
        | _ => cases h
theorem evEs_len : ∀ {us : List E} (_ : ∀ t ∈ us, notStarE t = true) {ρ : En} {τ τ' : List D} {ds : List D}, evEs C us ρ τ = some (ds, τ') → ds.length = us.length := by
  intro us
  induction us with
  | nil => intro _ ρ τ τ' ds e; cases ret_some e; rfl
  | cons u r ih =>
    intro hu ρ τ τ' ds e
    rw [evEs_cons (hu u List.mem_cons_self)] at e
    obtain ⟨y, τ1, e1, f1⟩ := bnd_some (x := evE C u ρ) e
    obtain ⟨ys, τ2, e2, f2⟩ := bnd_some f1
    cases ret_some f2
    rw [List.length_cons, List.length_cons, ih (fun t ht => hu t (List.mem_cons_of_mem _ ht)) e2]
theorem Views.length {K : Fg} {G H : Hp} : ∀ {vs : List V} {ds : List D}, Views K ta G H vs ds → vs.length = ds.length
  | _, _, .nil => rfl
  | _, _, .cons _ r => by rw [List.length_cons, List.length_cons, Views.length r]
theorem ri_range1 (hb : ∀ x ∈ biL, X.mg x = none) (hg : Gl X "range") (ha : PA X [x] (tV X.K ta C ts)) (hx : notStar x = true) (ht : ∀ t ∈ ts, notStarE t = true) (hl : ts.length = 1) : PI X tg (.Call (.Name "range" p) [x] [] pos) (tI X.K ta C .range ts) :=
  PI.mono (pi_range1 hg (hb _ (by decide)) ha (star_no hx)) fun σ H R h => by
    obtain ⟨G, ρ, τ, xs, τ1, items, Re, e, w, q⟩ := h
    refine ⟨G, ρ, τ, xs, τ1, Re, e, fun vs G1 H1 x1 R1 w1 => ?_⟩
    obtain ⟨j, rfl, h1, h2, rfl⟩ := walk_range1 w1.weak w (by rw [w1.length, evEs_len ht e, hl])
    exact ⟨j, rfl, h1, h2, q G1 H1 _ x1 R1 (wk_range _ _)⟩
theorem ri_range2 (hb : ∀ x ∈ biL, X.mg x = none) (hg : Gl X "range") (ha : PA X [x, y] (tV X.K ta C ts)) (hx : notStar x = true) (hy : notStar y = true) (ht : ∀ t ∈ ts, notStarE t = true) (hl : ts.length = 2) : PI X tg (.Call (.Name "range" p) [x, y] [] pos) (tI X.K ta C .range ts) :=
  PI.mono (pi_range2 hg (hb _ (by decide)) ha (by rw [star_no hx, star_no hy]; rfl) (star_no hy)) fun σ H R h => by
    obtain ⟨G, ρ, τ, xs, τ1, items, Re, e, w, q⟩ := h
    refine ⟨G, ρ, τ, xs, τ1, Re, e, fun vs G1 H1 x1 R1 w1 => ?_⟩
    obtain ⟨i, j, rfl, h1, rfl⟩ := walk_range2 w1.weak w (by rw [w1.length, evEs_len ht e, hl])
    exact ⟨i, j, rfl, h1, q G1 H1 _ x1 R1 (wk_range _ _)⟩
theorem rif_range1 (hb : ∀ x ∈ biL, X.mg x = none) (hg : Gl X "range") (ha : PA X [x] (tV X.K ta C ts)) (hx : notStar x = true) (ht : ∀ t ∈ ts, notStarE t = true) (hl : ts.length = 1) : PI X tg (.Call (.Name "range" p) [x] [] pos) (tIf X.K ta C .range ts) :=
  PI.mono (pi_range1 hg (hb _ (by decide)) ha (star_no hx)) fun σ H R h => by
    obtain ⟨G, ρ, τ, xs, τ1, items, Re, e, w, q⟩ := h
    refine ⟨G, ρ, τ, xs, τ1, Re, e, fun vs G1 H1 x1 R1 w1 => ?_⟩
    obtain ⟨j, rfl, h1, h2, rfl⟩ := walk_range1 w1.weak w (by rw [w1.length, evEs_len ht e, hl])
    exact ⟨j, rfl, h1, h2, q G1 H1 _ x1 R1 (wk_range _ _)⟩
theorem rif_range2 (hb : ∀ x ∈ biL, X.mg x = none) (hg : Gl X "range") (ha : PA X [x, y] (tV X.K ta C ts)) (hx : notStar x = true) (hy : notStar y = true) (ht : ∀ t ∈ ts, notStarE t = true) (hl : ts.length = 2) : PI X tg (.Call (.Name "range" p) [x, y] [] pos) (tIf X.K ta C .range ts) :=
  PI.mono (pi_range2 hg (hb _ (by decide)) ha (by rw [star_no hx, star_no hy]; rfl) (star_no hy)) fun σ H R h => by
    obtain ⟨G, ρ, τ, xs, τ1, items, Re, e, w, q⟩ := h
    refine ⟨G, ρ, τ, xs, τ1, Re, e, fun vs G1 H1 x1 R1 w1 => ?_⟩
    obtain ⟨i, j, rfl, h1, rfl⟩ := walk_range2 w1.weak w (by rw [w1.length, evEs_len ht e, hl])
    exact ⟨i, j, rfl, h1, q G1 H1 _ x1 R1 (wk_range _ _)⟩
theorem walk_zip {K : Fg} {G Gv H : Hp} {vs : List V} {ds items : List D} {R : It → Hp → Prop} (s1 : Same G Gv) (s2 : Same Gv H) (w : Views K none G Gv vs ds) (h : walkD .zip ds = some items) (q : ∀ J, Wk K G Gv J items true → R J H) :
    ∃ a b xs ys k l, vs = [V.ref a, V.ref b] ∧ SqB K k H a xs ∧ SqB K l H b ys ∧ R (Itzg K k l a b) H := by
  cases w with
  | nil => cases h
  | cons v1 vr =>
    cases vr with
    | nil => rename_i v d; cases d <;> cases h
    | cons v2 vr =>
      cases vr with
      | cons _ _ =>
        rename_i d _ d' _ _ _ _ _ _
        cases d <;> first | cases h | (cases d' <;> cases h)
      | nil =>
        rename_i v d v' d'
        cases d with
        | list l1 =>
          obtain ⟨a, xs, rfl, r1, dr1⟩ := v1.lst s1
          cases d' with
          | list l2 =>
            cases h
            obtain ⟨b, ys, rfl, r2, dr2⟩ := v2.lst s1
            exact ⟨a, b, xs, ys, true, true, rfl, s2.seq r1, s2.seq r2, q _ (wk_zipG (q := true) (p := true) r1 dr1 r2 dr2)⟩
          | tuple l2 =>
            cases h
            obtain ⟨b, ys, rfl, r2, dr2⟩ := v2.tup s1
            exact ⟨a, b, xs, ys, true, false, rfl, s2.seq r1, SqT.same s2 r2, q _ (wk_zipG (q := true) (p := false) r1 dr1 r2 dr2)⟩
          | _ => cases h
        | tuple l1 =>
          obtain ⟨a, xs, rfl, r1, dr1⟩ := v1.tup s1
          cases d' with
          | list l2 =>
            cases h
            obtain ⟨b, ys, rfl, r2, dr2⟩ := v2.lst s1
            exact ⟨a, b, xs, ys, false, true, rfl, SqT.same s2 r1, s2.seq r2, q _ (wk_zipG (q := false) (p := true) r1 dr1 r2 dr2)⟩
          | tuple l2 =>
            cases h
            obtain ⟨b, ys, rfl, r2, dr2⟩ := v2.tup s1
            exact ⟨a, b, xs, ys, false, false, rfl, SqT.same s2 r1, SqT.same s2 r2, q _ (wk_zipG (q := false) (p := false) r1 dr1 r2 dr2)⟩
          | _ => cases h
        | _ => cases h
theorem ri_zip (hb : ∀ x ∈ biL, X.mg x = none) (hg : Gl X "zip") (ha : PA X [x, y] (tV X.K ta C ts)) (hx : notStar x = true) (hy : notStar y = true) : PI X (.Tuple elts kk tp) (.Call (.Name "zip" p) [x, y] [] pos) (tI X.K ta C .zip ts) :=
  PI.mono (pi_zipG hg (hb _ (by decide)) ha (star_no hx) (back_no (by simp [noStars, hy]))) fun σ H R h => by
    obtain ⟨G, ρ, τ, xs, τ1, items, Re, e, w, q⟩ := h
    exact ⟨G, ρ, τ, xs, τ1, Re, e, fun vs G1 H1 x1 R1 w1 => walk_zip R1.minus minus_same w1.minus w fun J hJ => q G1 H1 J x1 R1 hJ⟩
theorem rif_zip (hb : ∀ x ∈ biL, X.mg x = none) (hg : Gl X "zip") (ha : PA X [x, y] (tK X.K ta C ts)) (hx : notStar x = true) (hy : notStar y = true) : PI X (.Tuple elts kk tp) (.Call (.Name "zip" p) [x, y] [] pos) (tIf X.K ta C .zip ts) :=
  PI.mono (pi_zipG hg (hb _ (by decide)) ha (star_no hx) (back_no (by simp [noStars, hy]))) fun σ H R h => by
    obtain ⟨G, ρ, τ, xs, τ1, items, Re, e, w, q⟩ := h
    exact ⟨G, ρ, τ, xs, τ1, Re, e, fun vs G1 H1 x1 R1 w1 => walk_zip (fun _ _ h => h) R1.sub w1.views w fun J hJ => q G1 H1 J x1 R1 hJ⟩
end
end KN

set_option maxRecDepth 100000
set_option maxHeartbeats 1000000
namespace KN
open PySem L2 PyProof.Rows
/-! ### targets -/
def gNs : List Nat → TGs
  | [] => gNil
  | i :: is => gCons (gName i) (gNs is)
def gT (K : Fg) : Tg → TG
  | .nm i => gName i
  | .tup is => gTup K is.length (gNs is)
section
variable {X : Cx} {Γ : Cn}
structure Sto (Γ : Cn) (X : Cx) : Prop where
  N : X.N = Γ.N
  nd : X.N.Nodup
  sc : X.env.scope = Γ.sc
  fn : X.fn = (match Γ.blk with
    | none => fun _ => true
    | some s => fun x => s.names.lookup x == some .cell)
  calm : X.calm = true
theorem XOk.sto {n : Nat} (O : XOk Γ n X) : Sto Γ X := ⟨O.N, O.nd, O.sc, O.fn, O.calm⟩
theorem Sto.at (O : Sto Γ X) {x : Str} (h : stOk Γ x = true) : Loc X.env.scope x ∧ (X.fn x = true ∨ X.env.scope.names.lookup x = some .local) := by
  unfold stOk at h
  unfold L2.Loc
  rw [O.sc, O.fn]
  split at h
  · rename_i e; exact ⟨.inl e, .inr e⟩
  · rename_i e
    refine ⟨.inr e, .inl ?_⟩
    cases hb : Γ.blk with
    | none => rfl
    | some s0 =>
      rw [hb] at h
      exact h
  · cases h
theorem pg_nm {i : Nat} {x : Str} {pos : Pos} (O : Sto Γ X) (hi : Γ.N[i]? = some x) (h : stOk Γ x = true) : PG X (.Name x pos) (gName i) :=
  pg_name O.nd (by rw [O.N]; exact hi) (O.at h).1 (O.at h).2
theorem pgs_T (O : Sto Γ X) : ∀ {is : List Nat} {es : List Expr}, mNames Γ is es = true → PGs X es (gNs is) ∧ (assignEach es X.env).length = is.length ∧ (assignEach es X.env).findIdx? (·.1) = none
  | [], [], _ => ⟨pgs_nil, rfl, rfl⟩
  | [], _ :: _, h => by simp [mNames] at h
  | _ :: _, [], h => by simp [mNames] at h
  | i :: is, e :: es, h => by
    cases e with
    | Name x p =>
      simp only [mNames, Bool.and_eq_true, decide_eq_true_eq] at h
      obtain ⟨ih1, ih2, ih3⟩ := pgs_T O h.2
      refine ⟨pgs_cons (pg_nm O h.1.1 h.1.2) ih1 rfl, ?_, ?_⟩
      · show (assignEach es X.env).length + 1 = _
        rw [ih2]; rfl
      · show (((false, _) :: assignEach es X.env).findIdx? (·.1)) = none
        rw [List.findIdx?_cons]
        simp only [Bool.false_eq_true, if_false]
        rw [ih3]; rfl
    | _ => simp [mNames] at h
theorem pg_T (O : Sto Γ X) {tg : Tg} {e : Expr} (h : mTg Γ tg e = true) : PG X e (gT X.K tg) := by
  cases tg with
  | nm i =>
    cases e with
    | Name x p =>
      simp only [mTg, Bool.and_eq_true, decide_eq_true_eq] at h
      exact pg_nm O h.1 h.2
    | _ => simp [mTg] at h
  | tup is =>
    cases e with
    | Tuple es k p =>
      simp only [mTg] at h
      obtain ⟨h1, h2, h3⟩ := pgs_T O h
      exact pg_tup O.calm h1 h2 h3
    | _ => simp [mTg] at h
end
section
variable {K : Fg} {ta : Option Addr} {G H : Hp} {σ : L2.St} {ρ ρ' : En} {τ : List D} {v : V} {d : D}
theorem get_set {α : Type} {l : List α} {i j : Nat} {a x : α} (h : (l.set i a)[j]? = some x) : (j = i ∧ i < l.length ∧ x = a) ∨ (j ≠ i ∧ l[j]? = some x) := by
  rw [List.getElem?_set] at h
  split at h
  · rename_i e
    subst e
    split at h
    · rename_i hl
      cases h
      exact .inl ⟨rfl, hl, rfl⟩
    · cases h
  · rename_i e
    exact .inr ⟨fun z => e z.symm, h⟩
/-- data to a slot -/
theorem Rel.setDat (R : Rel K ta G σ H ρ τ) (h : DR K G v d) (i : Nat) : Rel K ta G (σ.set i (some v)) H (ρ.set i (some (.dat d))) τ := by
  have ne : ∀ {j : Nat}, j ≠ i → (σ.set i (some v))[j]? = σ[j]? := fun {j} hj => List.getElem?_set_ne (Ne.symm hj)
  refine ⟨R.sub, R.tin, fun j d' e => ?_, fun j ds e => ?_, fun j k ds es a hjk e1 e2 e3 => ?_, fun j e => ?_, by rw [List.length_set, List.length_set]; exact R.len⟩
  · rcases get_set e with ⟨rfl, hl, z⟩ | ⟨hj, e⟩
    · cases z
      exact ⟨v, List.getElem?_set_self (Nat.lt_of_lt_of_le hl R.len), h⟩
    · rw [ne hj]; exact R.dat j d' e
  · rcases get_set e with ⟨rfl, hl, z⟩ | ⟨hj, e⟩
    · cases z
    · rw [ne hj]; exact R.own j ds e
  · rcases get_set e1 with ⟨rfl, _, z⟩ | ⟨hj, e1⟩
    · cases z
    · rcases get_set e2 with ⟨rfl, _, z⟩ | ⟨hk, e2⟩
      · cases z
      · rw [ne hj] at e3
        rw [ne hk]
        exact R.apart j k ds es a hjk e1 e2 e3
  · rcases get_set e with ⟨rfl, hl, z⟩ | ⟨hj, e⟩
    · cases z
    · rw [ne hj]; exact R.tn j e
theorem wipe_get (vs : List Nat) (σ : L2.St) (j : Nat) : (wipe σ vs)[j]? = if j ∈ vs ∧ j < σ.length then some none else σ[j]? := by
  induction vs with
  | nil => simp [wipe]
  | cons w r ih =>
    unfold wipe
    rw [List.getElem?_set, wipe_length, ih]
    by_cases hj : w = j
    · subst hj
      by_cases hl : w < σ.length
      · simp [hl]
      · simp [hl, List.getElem?_eq_none (Nat.le_of_not_lt hl)]
    · rw [if_neg hj]
      have : j ≠ w := fun z => hj z.symm
      simp [this]
theorem wipeE_some {vs : List Nat} {i : Nat} {x : Ent} (h : (wipeE ρ vs)[i]? = some (some x)) : ρ[i]? = some (some x) ∧ i ∉ vs := by
  induction vs with
  | nil => exact ⟨h, by simp⟩
  | cons w r ih =>
    unfold wipeE at h
    rcases get_set h with ⟨rfl, _, z⟩ | ⟨hj, e⟩
    · cases z
    · obtain ⟨h1, h2⟩ := ih e
      exact ⟨h1, by simp [hj, h2]⟩
theorem wipeE_len {vs : List Nat} : (wipeE ρ vs).length = ρ.length := by
  induction vs with
  | nil => rfl
  | cons w r ih => unfold wipeE; rw [List.length_set, ih]
theorem Rel.wipe (R : Rel K ta G σ H ρ τ) (vs : List Nat) : Rel K ta G (L2.wipe σ vs) H (wipeE ρ vs) τ := by
  have ne : ∀ {j : Nat}, j ∉ vs → (L2.wipe σ vs)[j]? = σ[j]? := fun {j} hj => by rw [wipe_get, if_neg (fun z => hj z.1)]
  refine ⟨R.sub, R.tin, fun j d' e => ?_, fun j ds e => ?_, fun j k ds es a hjk e1 e2 e3 => ?_, fun j e => ?_, by rw [wipeE_len, wipe_length]; exact R.len⟩
  · obtain ⟨h1, h2⟩ := wipeE_some e
    rw [ne h2]; exact R.dat j d' h1
  · obtain ⟨h1, h2⟩ := wipeE_some e
    rw [ne h2]; exact R.own j ds h1
  · obtain ⟨h1, h2⟩ := wipeE_some e1
    obtain ⟨h3, h4⟩ := wipeE_some e2
    rw [ne h2] at e3
    rw [ne h4]
    exact R.apart j k ds es a hjk h1 h3 e3
  · obtain ⟨h1, h2⟩ := wipeE_some e
    rw [ne h2]; exact R.tn j h1
theorem wipe_set {vs : List Nat} {i : Nat} {x : Option V} (h : i ∈ vs) : L2.wipe (σ.set i x) vs = L2.wipe σ vs := by
  apply List.ext_getElem?
  intro j
  rw [wipe_get, wipe_get, List.length_set]
  by_cases hj : j ∈ vs ∧ j < σ.length
  · rw [if_pos hj, if_pos hj]
  · rw [if_neg hj, if_neg hj, List.getElem?_set]
    split
    · rename_i e
      subst e
      have : ¬ i < σ.length := fun z => hj ⟨h, z⟩
      rw [if_neg this, List.getElem?_eq_none (Nat.le_of_not_lt this)]
    · rfl
theorem wipe_wipe {vs : List Nat} : L2.wipe (L2.wipe σ vs) vs = L2.wipe σ vs := by
  apply List.ext_getElem?
  intro j
  rw [wipe_get, wipe_length, wipe_get]
  by_cases hj : j ∈ vs ∧ j < σ.length
  · simp [hj]
  · rw [if_neg hj]
/-- a target takes its value -/
theorem gNs_ok {Q : L2.St → Hp → Prop} : ∀ {is : List Nat} {us : List V} {ds : List D} {σ : L2.St} {ρ : En}, Rel K ta G σ H ρ τ → DRs K G us ds → setDs is ds ρ = some ρ' →
    (∀ σ', Rel K ta G σ' H ρ' τ → (∀ vs : List Nat, (∀ i ∈ is, i ∈ vs) → L2.wipe σ' vs = L2.wipe σ vs) → Q σ' H) → gNs is us σ H Q
  | [], _, _, σ, ρ, R, .nil, e, q => by
    cases e
    exact ⟨rfl, q σ R fun _ _ => rfl⟩
  | [], _, _, σ, ρ, R, .cons _ _, e, q => by cases e
  | i :: is, _, _, σ, ρ, R, .nil, e, q => by cases e
  | i :: is, _, _, σ, ρ, R, .cons h r, e, q => by
    refine ⟨_, _, rfl, gNs_ok (R.setDat h i) r e fun σ' R' w => q σ' R' fun vs hv => ?_⟩
    rw [w vs (fun j hj => hv j (List.mem_cons_of_mem _ hj)), wipe_set (hv i List.mem_cons_self)]
theorem setDs_len : ∀ {is : List Nat} {ds : List D} {ρ : En}, setDs is ds ρ = some ρ' → ds.length = is.length
  | [], [], _, _ => rfl
  | [], _ :: _, _, e => by cases e
  | _ :: _, [], _, e => by cases e
  | i :: is, d :: ds, ρ, e => by
    have := setDs_len (is := is) (ds := ds) e
    simp [this]
/-- an item that comes: data, or a pair in a tuple of the walk's own -/
def ItR (K : Fg) (G H : Hp) (tg : Tg) (v : V) (d : D) : Prop := DR K G v d ∨ (∃ is, tg = .tup is) ∧ ∃ a xs ds, v = .ref a ∧ d = .tuple ds ∧ SqT K H a xs ∧ DRs K G xs ds
theorem gT_ok {Q : L2.St → Hp → Prop} {tg : Tg} (R : Rel K ta G σ H ρ τ) (h : ItR K G H tg v d) (e : setTg tg d ρ = some ρ')
    (q : ∀ σ', Rel K ta G σ' H ρ' τ → (∀ vs : List Nat, (∀ i ∈ tg.slots, i ∈ vs) → L2.wipe σ' vs = L2.wipe σ vs) → Q σ' H) : gT K tg v σ H Q := by
  cases tg with
  | nm i =>
    cases e
    rcases h with h | ⟨⟨is, z⟩, _⟩
    · exact q _ (R.setDat h i) fun vs hv => wipe_set (hv i (by simp [Tg.slots]))
    · cases z
  | tup is =>
    rcases h with h | ⟨_, a, xs, ds, rfl, rfl, hs, dr⟩
    · cases d with
      | tuple ds =>
        cases h with
        | tup hs dr =>
          exact ⟨_, _, rfl, SqT.same R.sub hs.sq, by rw [dr.length]; exact setDs_len e, gNs_ok R dr e q⟩
      | _ => cases e
    · exact ⟨_, _, rfl, hs, by rw [dr.length]; exact setDs_len e, gNs_ok R dr e q⟩
/-! ### comprehensions -/
theorem Rel.updFree (R : Rel K ta G σ H ρ τ) {D : Addr} {o : HO} (hG : G D = none) (ht : ta ≠ some D) (ho : ∀ (i : Nat) ds, ρ[i]? = some (some (.own ds)) → σ[i]? ≠ some (some (.ref D))) : Rel K ta G σ (upd H D o) ρ τ := by
  refine ⟨fun b u h => ?_, fun a e => ?_, R.dat, fun i ds e => ?_, R.apart, R.tn, R.len⟩
  · rw [upd_ne (fun z => by subst z; rw [hG] at h; cases h)]; exact R.sub b u h
  · obtain ⟨h1, vs, h2, h3⟩ := R.tin a e
    exact ⟨h1, vs, by rw [upd_ne (fun z => ht (by rw [e, z]))]; exact h2, h3⟩
  · obtain ⟨a, o, h1, h2, h3, h4, h5⟩ := R.own i ds e
    exact ⟨a, o, h1, h2, h3, by rw [upd_ne (fun z => ho i ds e (by rw [h1, z]))]; exact h4, h5⟩
theorem Ext.updNew {G' H' : Hp} {D : Addr} {o : HO} (x : Ext ta G H G' H') (hD : H D = none) : Ext ta G H G' (upd H' D o) := by
  refine ⟨x.g, x.new, fun b u n h => ?_, fun b u h => ?_⟩
  · rw [upd_ne (ne_of_none h hD)]; exact x.keep b u n h
  · rw [upd_ne (ne_of_none h hD)]; exact x.there b u h
end
def tCond (K : Fg) (ta : Option Addr) (C : Nat → List D → M D) (c : E) : TT := fun σ H Q => ∃ G ρ τ b τ', Rel K ta G σ H ρ τ ∧ (if c.gone then M.ret true else (evE C c ρ).bnd fun x => M.of (truD x)) τ = some (b, τ') ∧
  ∀ G' H', Ext ta G H G' H' → Rel K ta G' σ H' ρ τ' → Q b H'
theorem item_ok {K : Fg} {ta : Option Addr} {G1 Gv Gi H1 H2 H' : Hp} {σ : L2.St} {ρ : En} {τi : List D} {J : It} {items : List D} {p : Bool} {i : Nat} {x : V} {d : D} {tg : Tg} (wk : Wk K G1 Gv J items p) (hp : p = true → ∃ is, tg = .tup is)
    (xi : Ext ta G1 H1 Gi H2) (Ri : Rel K ta Gi σ H2 ρ τi) (sv : Same Gv H2) (hd : items[i]? = some d) (y : J.yld i H2 x H') :
    Ext ta Gi H2 Gi H' ∧ Rel K ta Gi σ H' ρ τi ∧ ItR K Gi H' tg x d ∧ ∀ b o, H2 b = some o → H' b = some o := by
  rcases wk.yld i H2 x H' _ sv hd y with ⟨rfl, dr⟩ | ⟨pp, T, a, b, va, vb, rfl, hT, rfl, hdt, da, db⟩
  · exact ⟨Ext.refl, Ri, .inl (dr.same xi.g), fun _ _ h => h⟩
  · refine ⟨Ext.fresh hT, Ri.fresh hT, .inr ⟨hp pp, T, [va, vb], [a, b], rfl, hdt, .inl (.inl upd_same), .cons (da.same xi.g) (.cons (db.same xi.g) .nil)⟩, fun b o h => ?_⟩
    rw [upd_ne (ne_of_none h hT)]; exact h
theorem rd_comp {X : Cx} {ta : Option Addr} {C : Nat → List D → M D} {el tg' it : Expr} {ifs : List Expr} {scope : Scope} {own : List (Str × Nat)} {pos : Pos} {elt cond : E} {tg : Tg} {ik : IK} {src : List E}
    (hc : X.calm = true) (hN : X.N.Nodup) (hi : PI X tg' it (tI X.K ta C ik src)) (ok : BlkOk X.N X.env.scope scope own) (ho : own.map (·.2) = tg.slots)
    (hg : ∀ (s : Shared) (H : Hp) (C' : Addr) (cl : List (Str × Addr)) (fp : List Addr), PG (X.blk s H scope (compEnvC scope cl C' X.env) fp) tg' (gT X.K tg))
    (ht : ∀ (s : Shared) (H : Hp) (C' : Addr) (cl : List (Str × Addr)) (fp : List Addr), PTs (X.blk s H scope (compEnvC scope cl C' X.env) fp) ifs (tCond X.K ta C cond))
    (he : ∀ (s : Shared) (H : Hp) (C' : Addr) (cl : List (Str × Addr)) (fp : List Addr), PE (X.blk s H scope (compEnvC scope cl C' X.env) fp) el (tE X.K ta C .dat elt)) (hs : ∀ x, foldedSetIterable it X.env x = pure x) (hpr : pairIk ik = true → ∃ is, tg = .tup is) :
    (∀ σ H Q, tE X.K ta C .fresh (.comp elt tg ik src cond) σ H Q → tLc (tI X.K ta C ik src) (gT X.K tg) (tCond X.K ta C cond) (tE X.K ta C .dat elt) (own.map (·.2)) σ H Q) ∧
    PE X (.ListComp el [⟨tg', it, ifs, 0⟩] scope pos) (tE X.K ta C .fresh (.comp elt tg ik src cond)) := by
  have key : ∀ σ H Q, tE X.K ta C .fresh (.comp elt tg ik src cond) σ H Q → tLc (tI X.K ta C ik src) (gT X.K tg) (tCond X.K ta C cond) (tE X.K ta C .dat elt) (own.map (·.2)) σ H Q := by
    intro σ H Q h
    rw [ho]
    obtain ⟨G, ρ, τ, d, τ', R, e, q⟩ := h
    obtain ⟨xs, τ1, e1, f1⟩ := bnd_some (x := evEs C src ρ) e
    obtain ⟨items, τ2, e2, f2⟩ := bnd_some f1
    obtain ⟨g2, rfl⟩ := of_some e2
    obtain ⟨ys, τ3, e3, f3⟩ := bnd_some f2
    cases ret_some f3
    obtain ⟨wd, hz⟩ : walkD ik xs = some items ∧ items.length ≤ sizeLine := by
      unfold walkC at g2
      split at g2
      · rename_i its hw
        split at g2
        · rename_i hl
          cases g2
          exact ⟨hw, lineOk_le hl⟩
        · cases g2
      · cases g2
    refine ⟨G, ρ, τ, xs, _, items, R, e1, wd, fun G1 H1 J x1 R1 wk Dd hD => ?_⟩
    generalize hf : (fun d => (M.of (setTg tg d (wipeE ρ tg.slots))).bnd fun ρ' => (if cond.gone then .ret true else (evE C cond ρ').bnd fun x => .of (truD x)).bnd fun k => if k then (evE C elt ρ').bnd fun y => .ret (some y) else .ret none : D → M (Option D)) = f at e3
    have htD : ta ≠ some Dd := fun z => by
      obtain ⟨_, vs, h2, _⟩ := R1.tin Dd z
      rw [hD] at h2; cases h2
    have hoD : ∀ (i : Nat) ds, ρ[i]? = some (some (.own ds)) → σ[i]? ≠ some (some (.ref Dd)) := fun i ds e z => R1.ownThere i ds e Dd z hD
    have hg1 : G1 Dd = none := R1.sub.free hD
    refine ⟨fun i m H2 => i ≤ items.length ∧ m = items.length - i ∧ ∃ Gi τi zs us, Ext ta G1 H1 Gi H2 ∧ Rel X.K ta Gi σ H2 ρ τi ∧ H2 Dd = some (.lst us) ∧ Gi Dd = none ∧ DRs X.K Gi us zs ∧ us.length ≤ i ∧ ∃ rest, compL f (items.drop i) τi = some (rest, τ') ∧ ys = zs ++ rest,
      ⟨_, Nat.zero_le _, rfl, G1, _, [], [], Ext.fresh hD, R1.fresh hD, upd_same, hg1, .nil, Nat.le_refl _, ys, e3, rfl⟩, ?_⟩
    rintro i m H2 ⟨hi', rfl, Gi, τi, zs, us, xi, Ri, hDi, hGi, dri, hli, rest, ei, rfl⟩
    have sv : Same (minus ta H1) H2 := minus_ext xi
    by_cases hlt : i < items.length
    · right
      refine ⟨wk.go i H2 sv hlt, fun H' => (i + 1 ≤ items.length ∧ items.length - (i + 1) = items.length - (i + 1) ∧ ∃ Gi τi zs' us, Ext ta G1 H1 Gi H' ∧ Rel X.K ta Gi σ H' ρ τi ∧ H' Dd = some (.lst us) ∧ Gi Dd = none ∧ DRs X.K Gi us zs' ∧ us.length ≤ i + 1 ∧ ∃ rest', compL f (items.drop (i + 1)) τi = some (rest', τ') ∧ zs ++ rest = zs' ++ rest'),
        fun H' h => ⟨items.length - (i + 1), by omega, h⟩, fun x H' y => ?_⟩
      have hd : items[i]? = some items[i] := List.getElem?_eq_getElem hlt
      rw [List.drop_eq_getElem_cons hlt] at ei
      obtain ⟨o, τa, ea, fa⟩ := bnd_some (x := f items[i]) ei
      obtain ⟨r', τb, eb, fb⟩ := bnd_some fa
      cases ret_some fb
      -- the item comes
      obtain ⟨x', R', dx, kp⟩ := item_ok (tg := tg) wk hpr xi Ri sv hd y
      have hD' := kp _ _ hDi
      have hG' := hGi
      rw [← hf] at ea
      obtain ⟨ρ', τc, ec, fc⟩ := bnd_some ea
      obtain ⟨gc, rfl⟩ := of_some ec
      obtain ⟨k, τd, ed, fd⟩ := bnd_some fc
      refine gT_ok (R'.wipe tg.slots) dx gc fun σ2 R2 w2 => ⟨by rw [w2 _ fun _ h => h, wipe_wipe], Gi, ρ', _, k, τd, R2, ed, fun G3 H3 x3 R3 => ?_⟩
      have hx3 := x'.trans x3
      have hD3 : H3 Dd = some (.lst us) := x3.keep Dd _ htD hD'
      have hG3 : G3 Dd = none := by
        cases q2 : G3 Dd with
        | none => rfl
        | some o =>
          rcases x3.new Dd o q2 with z | z
          · rw [hG'] at z; cases z
          · rw [hD'] at z; cases z
      cases k with
      | false =>
        cases ret_some fd
        refine iteF ⟨hlt, rfl, G3, _, zs, us, xi.trans hx3, R'.ext x3 R3.sub (fun a e => (R3.tin a e).2), hD3, hG3, (dri.same hx3.g), Nat.le_succ_of_le hli, r', eb, rfl⟩
      | true =>
        obtain ⟨y', τe, ee, fe⟩ := bnd_some (x := evE C elt ρ') fd
        cases ret_some fe
        refine iteT ⟨G3, ρ', τd, y', _, R3, ee, fun v G4 H4 x4 R4 w4 => ?_⟩
        have hx4 := hx3.trans x4
        have hD4 : H4 Dd = some (.lst us) := x4.keep Dd _ htD hD3
        have hG4 : G4 Dd = none := by
          cases q2 : G4 Dd with
          | none => rfl
          | some o =>
            rcases x4.new Dd o q2 with z | z
            · rw [hG3] at z; cases z
            · rw [hD3] at z; cases z
        refine ⟨us, hD4, by omega, hlt, rfl, G4, _, zs ++ [y'], us ++ [v], (xi.trans hx4).updNew hD, ?_, upd_same, hG4, (dri.same hx4.g).append (.cons w4 .nil), by rw [List.length_append]; simp; omega, r', eb, by rw [List.append_assoc]; rfl⟩
        exact (R'.ext (x3.trans x4) R4.sub (fun a e => (R4.tin a e).2)).updFree hG4 htD hoD
    · left
      have hn : i = items.length := by omega
      subst hn
      rw [List.drop_length] at ei
      cases ret_some ei
      refine ⟨wk.stop H2 sv, ?_⟩
      rw [List.append_nil] at q
      exact q _ Gi H2 (x1.trans xi) Ri (.inr ⟨Dd, .lst us, .lst zs, rfl, rfl, x1.none_of hD, htD, hGi, hDi, .lst dri⟩)
  exact ⟨key, PE.mono (pe_lc hc hN hi ok hg ht he hs) key⟩
end KN

set_option maxRecDepth 100000
set_option maxHeartbeats 2000000
namespace KN
open PySem L2 PyProof.Rows
theorem walkC_some {ik : IK} {xs items : List D} (h : walkC ik xs = some items) : walkD ik xs = some items ∧ items.length ≤ sizeLine := by
  unfold walkC at h
  split at h
  · rename_i its hw
    split at h
    · rename_i hl
      cases h
      exact ⟨hw, lineOk_le hl⟩
    · cases h
  · cases h
theorem Ext.free_of {ta : Option Addr} {G H G' H' : Hp} (x : Ext ta G H G' H') {a : Addr} {o : HO} (hG : G a = none) (hH : H a = some o) : G' a = none := by
  cases q : G' a with
  | none => rfl
  | some u =>
    rcases x.new a u q with z | z
    · rw [hG] at z; cases z
    · rw [hH] at z; cases z
/-- what a list, a dict under way is beside the state -/
structure Acc (K : Fg) (ta : Option Addr) (G1 H1 G H : Hp) (Dd : Addr) (o : HO) : Prop where
  ext : Ext ta G1 H1 G H
  at_ : H Dd = some o
  free : G Dd = none
theorem Acc.step {K : Fg} {ta : Option Addr} {G1 H1 G H G' H' : Hp} {Dd : Addr} {o : HO} (A : Acc K ta G1 H1 G H Dd o) (ht : ta ≠ some Dd) (x : Ext ta G H G' H') : Acc K ta G1 H1 G' H' Dd o :=
  ⟨A.ext.trans x, x.keep Dd _ ht A.at_, x.free_of A.free A.at_⟩
theorem Acc.put {K : Fg} {ta : Option Addr} {G1 H1 G H : Hp} {Dd : Addr} {o o' : HO} (A : Acc K ta G1 H1 G H Dd o) (h : H1 Dd = none) : Acc K ta G1 H1 G (upd H Dd o') Dd o' :=
  ⟨A.ext.updNew h, upd_same, A.free⟩
theorem setDs_own {i : Nat} {o : Od} : ∀ {is : List Nat} {ds : List D} {ρ ρ' : En}, setDs is ds ρ = some ρ' → ρ'[i]? = some (some (.own o)) → ρ[i]? = some (some (.own o)) ∧ i ∉ is
  | [], [], ρ, ρ', e, h => by cases e; exact ⟨h, by simp⟩
  | [], _ :: _, _, _, e, _ => by cases e
  | _ :: _, [], _, _, e, _ => by cases e
  | j :: is, d :: ds, ρ, ρ', e, h => by
    obtain ⟨h1, h2⟩ := setDs_own (is := is) (ds := ds) e h
    rcases get_set h1 with ⟨_, _, z⟩ | ⟨hj, h3⟩
    · cases z
    · exact ⟨h3, by simp [hj, h2]⟩
theorem setTg_own {i : Nat} {o : Od} {tg : Tg} {d : D} {ρ ρ' : En} (e : setTg tg d ρ = some ρ') (h : ρ'[i]? = some (some (.own o))) : ρ[i]? = some (some (.own o)) ∧ i ∉ tg.slots := by
  cases tg with
  | nm j =>
    cases e
    rcases get_set h with ⟨_, _, z⟩ | ⟨hj, h3⟩
    · cases z
    · exact ⟨h3, by simp [Tg.slots, hj]⟩
  | tup is =>
    cases d with
    | tuple ds => exact setDs_own e h
    | _ => cases e
section
variable {X : Cx} {ta : Option Addr} {C : Nat → List D → M D}
/-- the step of a comprehension behind its item -/
def stepM (C : Nat → List D → M D) (tg : Tg) (ρ : En) (vs : List Nat) (cond : E) {α : Type} (no : α) (yes : En → M α) (d : D) : M α :=
  (M.of (setTg tg d (wipeE ρ vs))).bnd fun ρ' => (if cond.gone then .ret true else (evE C cond ρ').bnd fun x => .of (truD x)).bnd fun k => if k then yes ρ' else .ret no
theorem stepM_some {tg : Tg} {ρ : En} {vs : List Nat} {cond : E} {α : Type} {no : α} {yes : En → M α} {d : D} {τ τ' : List D} {r : α} (h : stepM C tg ρ vs cond no yes d τ = some (r, τ')) :
    ∃ ρ' k τ1, setTg tg d (wipeE ρ vs) = some ρ' ∧ (if cond.gone then M.ret true else (evE C cond ρ').bnd fun x => M.of (truD x)) τ = some (k, τ1) ∧ (if k then yes ρ' else M.ret no) τ1 = some (r, τ') := by
  obtain ⟨ρ', τ1, e1, f1⟩ := bnd_some h
  obtain ⟨g1, rfl⟩ := of_some e1
  obtain ⟨k, τ2, e2, f2⟩ := bnd_some f1
  exact ⟨ρ', k, τ2, g1, e2, f2⟩
theorem rd_comp2 {el tg' it tg1' it1 : Expr} {ifs ifs1 : List Expr} {scope : Scope} {own : List (Str × Nat)} {pos : Pos} {elt cond cond1 : E} {tg tg1 : Tg} {ik ik1 : IK} {src src1 : List E}
    (hc : X.calm = true) (hN : X.N.Nodup) (hi : PI X tg' it (tI X.K ta C ik src)) (ok : BlkOk X.N X.env.scope scope own) (ho : own.map (·.2) = tg.slots ++ tg1.slots)
    (hg : ∀ (s : Shared) (H : Hp) (C' : Addr) (cl : List (Str × Addr)) (fp : List Addr), PG (X.blk s H scope (compEnvC scope cl C' X.env) fp) tg' (gT X.K tg))
    (ht : ∀ (s : Shared) (H : Hp) (C' : Addr) (cl : List (Str × Addr)) (fp : List Addr), PTs (X.blk s H scope (compEnvC scope cl C' X.env) fp) ifs (tCond X.K ta C cond))
    (hi1 : ∀ (s : Shared) (H : Hp) (C' : Addr) (cl : List (Str × Addr)) (fp : List Addr), PI (X.blk s H scope (compEnvC scope cl C' X.env) fp) tg1' it1 (tIf X.K ta C ik1 src1))
    (hg1 : ∀ (s : Shared) (H : Hp) (C' : Addr) (cl : List (Str × Addr)) (fp : List Addr), PG (X.blk s H scope (compEnvC scope cl C' X.env) fp) tg1' (gT X.K tg1))
    (ht1 : ∀ (s : Shared) (H : Hp) (C' : Addr) (cl : List (Str × Addr)) (fp : List Addr), PTs (X.blk s H scope (compEnvC scope cl C' X.env) fp) ifs1 (tCond X.K ta C cond1))
    (he : ∀ (s : Shared) (H : Hp) (C' : Addr) (cl : List (Str × Addr)) (fp : List Addr), PE (X.blk s H scope (compEnvC scope cl C' X.env) fp) el (tE X.K ta C .dat elt)) (hs : ∀ x, foldedSetIterable it X.env x = pure x) (hs1 : ∀ env x, foldedSetIterable it1 env x = pure x)
    (hpr : pairIk ik = true → ∃ is, tg = .tup is) (hpr1 : pairIk ik1 = true → ∃ is, tg1 = .tup is) :
    (∀ σ H Q, tE X.K ta C .fresh (.comp2 elt tg ik src cond tg1 ik1 src1 cond1) σ H Q → tLc2 (tI X.K ta C ik src) (gT X.K tg) (tCond X.K ta C cond) (tIf X.K ta C ik1 src1) (gT X.K tg1) (tCond X.K ta C cond1) (tE X.K ta C .dat elt) (own.map (·.2)) tg1.slots σ H Q) ∧
    PE X (.ListComp el [⟨tg', it, ifs, 0⟩, ⟨tg1', it1, ifs1, 0⟩] scope pos) (tE X.K ta C .fresh (.comp2 elt tg ik src cond tg1 ik1 src1 cond1)) := by
  have key : ∀ σ H Q, tE X.K ta C .fresh (.comp2 elt tg ik src cond tg1 ik1 src1 cond1) σ H Q → tLc2 (tI X.K ta C ik src) (gT X.K tg) (tCond X.K ta C cond) (tIf X.K ta C ik1 src1) (gT X.K tg1) (tCond X.K ta C cond1) (tE X.K ta C .dat elt) (own.map (·.2)) tg1.slots σ H Q := by
    intro σ H Q h
    rw [ho]
    obtain ⟨G, ρ, τ, d, τ', R, e, q⟩ := h
    obtain ⟨xs, τ1, e1, f1⟩ := bnd_some (x := evEs C src ρ) e
    obtain ⟨items, τ2, e2, f2⟩ := bnd_some f1
    obtain ⟨g2, rfl⟩ := of_some e2
    obtain ⟨ys, τ3, e3, f3⟩ := bnd_some f2
    have f3 : (if lineOk ys.length then M.ret (PyData.list ys) else M.fail) τ3 = some (d, τ') := f3
    split at f3
    · rename_i hly
      cases ret_some f3
      have hly := lineOk_le hly
      obtain ⟨wd, hz⟩ := walkC_some g2
      refine ⟨G, ρ, τ, xs, _, items, R, e1, wd, fun G1 H1 J x1 R1 wk Dd hD => ?_⟩
      generalize hin : (fun ρ' => (evEs C src1 ρ').bnd fun xs => (M.of (walkC ik1 xs)).bnd fun items =>
          compL (stepM C tg1 ρ' tg1.slots cond1 none fun ρ'' => (evE C elt ρ'').bnd fun y => .ret (some y)) items : En → M (List D)) = inn
      have e3 : comp2L (stepM C tg ρ (tg.slots ++ tg1.slots) cond [] inn) items τ2 = some (ys, τ') := by rw [← hin]; exact e3
      have htD : ta ≠ some Dd := fun z => by
        obtain ⟨_, vs, h2, _⟩ := R1.tin Dd z
        rw [hD] at h2; cases h2
      have hoD : ∀ (i : Nat) ds, ρ[i]? = some (some (.own ds)) → σ[i]? ≠ some (some (.ref Dd)) := fun i ds e z => R1.ownThere i ds e Dd z hD
      refine ⟨fun i m H2 => i ≤ items.length ∧ m = items.length - i ∧ ∃ Gi τi zs us, Acc X.K ta G1 H1 Gi H2 Dd (.lst us) ∧ Rel X.K ta Gi σ H2 ρ τi ∧ DRs X.K Gi us zs ∧ ∃ rest, comp2L (stepM C tg ρ (tg.slots ++ tg1.slots) cond [] inn) (items.drop i) τi = some (rest, τ') ∧ ys = zs ++ rest,
        ⟨_, Nat.zero_le _, rfl, G1, _, [], [], ⟨Ext.fresh hD, upd_same, R1.sub.free hD⟩, R1.fresh hD, .nil, ys, e3, rfl⟩, ?_⟩
      rintro i m H2 ⟨hi', rfl, Gi, τi, zs, us, A, Ri, dri, rest, ei, hys⟩
      have sv : Same (minus ta H1) H2 := minus_ext A.ext
      by_cases hlt : i < items.length
      · right
        refine ⟨wk.go i H2 sv hlt, fun H' => (i + 1 ≤ items.length ∧ items.length - (i + 1) = items.length - (i + 1) ∧ ∃ Gi τi zs' us, Acc X.K ta G1 H1 Gi H' Dd (.lst us) ∧ Rel X.K ta Gi σ H' ρ τi ∧ DRs X.K Gi us zs' ∧ ∃ rest', comp2L (stepM C tg ρ (tg.slots ++ tg1.slots) cond [] inn) (items.drop (i + 1)) τi = some (rest', τ') ∧ ys = zs' ++ rest'),
          fun H' h => ⟨items.length - (i + 1), by omega, h⟩, fun x H' y => ?_⟩
        rw [List.drop_eq_getElem_cons hlt] at ei
        obtain ⟨part, τa, ea, fa⟩ := bnd_some (x := stepM C tg ρ (tg.slots ++ tg1.slots) cond [] inn items[i]) ei
        obtain ⟨r', τb, eb, fb⟩ := bnd_some fa
        cases ret_some fb
        obtain ⟨x', R', dx, kp⟩ := item_ok (tg := tg) wk hpr A.ext Ri sv (List.getElem?_eq_getElem hlt) y
        have A1 := A.step htD x'
        obtain ⟨ρ', k, τd, gc, ed, fd⟩ := stepM_some ea
        refine gT_ok (R'.wipe (tg.slots ++ tg1.slots)) dx gc fun σ2 R2 w2 => ⟨by rw [w2 _ fun _ h => List.mem_append_left _ h, wipe_wipe], Gi, ρ', _, k, τd, R2, ed, fun G3 H3 x3 R3 => ?_⟩
        have A3 := A1.step htD x3
        have R03 : Rel X.K ta G3 σ H3 ρ τd := R'.ext x3 R3.sub fun a e => (R3.tin a e).2
        cases k with
        | false =>
          cases ret_some fd
          exact iteF ⟨hlt, rfl, G3, _, zs, us, A3, R03, dri.same x3.g, r', eb, hys⟩
        | true =>
          have fd : inn ρ' τd = some (part, τa) := fd
          rw [← hin] at fd
          obtain ⟨xs1, τe, ee, fe⟩ := bnd_some (x := evEs C src1 ρ') fd
          obtain ⟨items1, τf, ef, ff⟩ := bnd_some fe
          obtain ⟨gf, rfl⟩ := of_some ef
          obtain ⟨wd1, hz1⟩ := walkC_some gf
          refine iteT ⟨G3, ρ', τd, xs1, _, items1, R3, ee, wd1, fun G4 H4 J1 x4 R4 wk1 => ?_⟩
          have A4 := A3.step htD x4
          refine ⟨fun j k H5 => j ≤ items1.length ∧ k = items1.length - j ∧ ∃ Gj τj zs' us', Acc X.K ta G1 H1 Gj H5 Dd (.lst us') ∧ Same G4 Gj ∧ Rel X.K ta Gj σ2 H5 ρ' τj ∧ Rel X.K ta Gj σ H5 ρ τj ∧ DRs X.K Gj us' zs' ∧
              ∃ rest1, compL (stepM C tg1 ρ' tg1.slots cond1 none fun ρ'' => (evE C elt ρ'').bnd fun y => .ret (some y)) (items1.drop j) τj = some (rest1, τa) ∧ zs ++ part = zs' ++ rest1,
            ⟨_, Nat.zero_le _, rfl, G4, _, zs, us, A4, (fun _ _ h => h), R4, R03.ext x4 R4.sub (fun a e => (R4.tin a e).2), dri.same (x3.g.trans x4.g), part, ff, rfl⟩, ?_⟩
          rintro j k H5 ⟨hj', rfl, Gj, τj, zs', us', Aj, sj, Rj, R0j, drj, rest1, ej, hpz⟩
          have svj : Same G4 H5 := fun b o h => Rj.sub b o (sj b o h)
          by_cases hlj : j < items1.length
          · right
            refine ⟨wk1.go j H5 svj hlj, fun H' => (j + 1 ≤ items1.length ∧ items1.length - (j + 1) = items1.length - (j + 1) ∧ ∃ Gj τj zs' us', Acc X.K ta G1 H1 Gj H' Dd (.lst us') ∧ Same G4 Gj ∧ Rel X.K ta Gj σ2 H' ρ' τj ∧ Rel X.K ta Gj σ H' ρ τj ∧ DRs X.K Gj us' zs' ∧
                ∃ rest1, compL (stepM C tg1 ρ' tg1.slots cond1 none fun ρ'' => (evE C elt ρ'').bnd fun y => .ret (some y)) (items1.drop (j + 1)) τj = some (rest1, τa) ∧ zs ++ part = zs' ++ rest1),
              fun H' h => ⟨items1.length - (j + 1), by omega, h⟩, fun x5 H' y5 => ?_⟩
            rw [List.drop_eq_getElem_cons hlj] at ej
            obtain ⟨o5, τg, eg, fg⟩ := bnd_some (x := stepM C tg1 ρ' tg1.slots cond1 none (fun ρ'' => (evE C elt ρ'').bnd fun y => .ret (some y)) items1[j]) ej
            obtain ⟨r5, τh, eh, fh⟩ := bnd_some fg
            cases ret_some fh
            have wkj : Wk X.K Gj Gj J1 items1 (pairIk ik1) := ⟨fun i H s h => wk1.go i H (fun b o q => s b o (sj b o q)) h, fun H s => wk1.stop H (fun b o q => s b o (sj b o q)), fun i H x H' d s e y => by
              rcases wk1.yld i H x H' d (fun b o q => s b o (sj b o q)) e y with ⟨h1, h2⟩ | ⟨h0, T, a, b, va, vb, h1, h2, h3, h4, h5, h6⟩
              · exact .inl ⟨h1, h2.same sj⟩
              · exact .inr ⟨h0, T, a, b, va, vb, h1, h2, h3, h4, h5.same sj, h6.same sj⟩⟩
            obtain ⟨x5', R5, dx5, kp5⟩ := item_ok (tg := tg1) wkj hpr1 (H1 := H5) Ext.refl Rj Rj.sub (List.getElem?_eq_getElem hlj) y5
            have A5 := Aj.step htD x5'
            have R05 : Rel X.K ta Gj σ H' ρ τj := R0j.ext x5' R5.sub fun a e => (R5.tin a e).2
            obtain ⟨ρ'', k5, τk, gc5, ed5, fd5⟩ := stepM_some eg
            refine gT_ok (R5.wipe tg1.slots) dx5 gc5 fun σ3 R6 w6 => ⟨by rw [w6 _ fun _ h => h, wipe_wipe], Gj, ρ'', _, k5, τk, R6, ed5, fun G6 H6 x6 R7 => ?_⟩
            have A6 := A5.step htD x6
            have R56 : Rel X.K ta G6 σ2 H6 ρ' τk := R5.ext x6 R7.sub fun a e => (R7.tin a e).2
            have R06 : Rel X.K ta G6 σ H6 ρ τk := R05.ext x6 R7.sub fun a e => (R7.tin a e).2
            cases k5 with
            | false =>
              cases ret_some fd5
              exact iteF ⟨hlj, rfl, G6, _, zs', us', A6, sj.trans x6.g, R56, R06, drj.same x6.g, r5, eh, hpz⟩
            | true =>
              have fd5 : ((evE C elt ρ'').bnd fun y => M.ret (some y)) τk = some (o5, τg) := fd5
              obtain ⟨y', τm, em, fm⟩ := bnd_some (x := evE C elt ρ'') fd5
              cases ret_some fm
              refine iteT ⟨G6, ρ'', τk, y', _, R7, em, fun v G7 H7 x7 R8 w8 => ?_⟩
              have A7 := A6.step htD x7
              have R57 : Rel X.K ta G7 σ2 H7 ρ' τg := R56.ext x7 R8.sub fun a e => (R8.tin a e).2
              have R07 : Rel X.K ta G7 σ H7 ρ τg := R06.ext x7 R8.sub fun a e => (R8.tin a e).2
              have g17 : H1 Dd = none := hD
              have hoD2 : ∀ (i : Nat) ds, ρ'[i]? = some (some (.own ds)) → σ2[i]? ≠ some (some (.ref Dd)) := fun i ds e z => by
                obtain ⟨h1, h2⟩ := setTg_own gc e
                obtain ⟨h3, h4⟩ := wipeE_some h1
                refine hoD i ds h3 ?_
                have hw := congrArg (fun l => l[i]?) (w2 tg.slots fun _ h => h)
                simp only [wipe_get, h2, h4, false_and, if_false] at hw
                rw [← hw]
                exact z
              have hlen : us'.length < sizeLine := by
                rw [drj.length]
                have l1 := congrArg List.length hpz
                have l2 := congrArg List.length hys
                simp only [List.length_append, List.length_cons] at l1 l2
                omega
              refine ⟨us', A7.at_, hlen, hlj, rfl, G7, _, zs' ++ [y'], us' ++ [v], A7.put hD, sj.trans (x6.g.trans x7.g), R57.updFree A7.free htD hoD2, R07.updFree A7.free htD hoD, (drj.same (x6.g.trans x7.g)).append (.cons w8 .nil), r5, eh, by rw [hpz]; simp⟩
          · left
            have hn : j = items1.length := by omega
            subst hn
            rw [List.drop_length] at ej
            cases ret_some ej
            rw [List.append_nil] at hpz
            refine ⟨wk1.stop H5 svj, hlt, rfl, Gj, _, zs', us', Aj, R0j, drj, r', eb, ?_⟩
            rw [hys, ← hpz, List.append_assoc]
      · left
        have hn : i = items.length := by omega
        subst hn
        rw [List.drop_length] at ei
        cases ret_some ei
        refine ⟨wk.stop H2 sv, ?_⟩
        rw [List.append_nil] at hys
        subst hys
        exact q _ Gi H2 (x1.trans A.ext) Ri (.inr ⟨Dd, .lst us, .lst ys, rfl, rfl, x1.none_of hD, htD, A.free, A.at_, .lst dri⟩)
    · cases f3
  exact ⟨key, PE.mono (pe_lc2 hc hN hi ok (fun i hi => by rw [ho]; exact List.mem_append_right _ hi) hg ht hi1 hg1 ht1 he hs hs1) key⟩
end
end KN

set_option maxRecDepth 100000
set_option maxHeartbeats 2000000
namespace KN
open PySem L2 PyProof.Rows
theorem mergeKD_snoc : ∀ (acc l : List (D × D)) (k v : D), mergeKD acc (l ++ [(k, v)]) = putKD (mergeKD acc l) k v
  | acc, [], k, v => rfl
  | acc, (j, u) :: r, k, v => mergeKD_snoc (putKD acc j u) r k v
theorem putKD_len (l : List (D × D)) (k v : D) : (putKD l k v).length ≤ l.length + 1 := by
  unfold putKD
  split
  · rw [List.length_map]; omega
  · simp
theorem pairsD_cons {x : D} {r : List D} {kvs : List (D × D)} (h : pairsD (x :: r) = some kvs) : ∃ p l, pairD x = some p ∧ pairsD r = some l ∧ kvs = p :: l := by
  simp only [pairsD] at h
  split at h
  · rename_i p l h1 h2
    cases h
    exact ⟨p, l, h1, h2, rfl⟩
  · cases h
section
variable {X : Cx} {ta : Option Addr} {C : Nat → List D → M D}
theorem lk_fresh {K : Fg} {G H G1 H1 : Hp} {σ : L2.St} {ρ : En} {τ : List D} {Dd : Addr} {ks : List (Key × V)} {ds : List (D × D)} {Q : VK} (R : Rel K ta G1 σ H1 ρ τ) (x : Ext ta G H G1 H1) (h0 : H Dd = none) (ht : ta ≠ some Dd) (hf : G1 Dd = none) (ha : H1 Dd = some (.dK ks)) (hoD : ∀ (i : Nat) ds, ρ[i]? = some (some (.own ds)) → σ[i]? ≠ some (some (.ref Dd))) (dr : DRk K G1 ks ds)
    (q : ∀ v G' H', Ext ta G H G' H' → Rel K ta G' σ H' ρ τ → Val K ta H G' H' .fresh v (.dict ds) → Q v H') : lk Q (.ref Dd) H1 := by
  refine .inr ⟨Dd, ks, rfl, ha, fun od => ?_⟩
  exact q _ G1 _ (x.updNew h0) (R.updFree hf ht hoD) (.inr ⟨Dd, .frz od (.dK ks), .dic ds, rfl, rfl, h0, ht, hf, upd_same, .dic dr⟩)
theorem rd_dcomp {kx vx tg' it : Expr} {ifs : List Expr} {scope : Scope} {own : List (Str × Nat)} {pos : Pos} {ke ve cond : E} {tg : Tg} {ik : IK} {src : List E}
    (hc : X.calm = true) (hN : X.N.Nodup) (hi : PI X tg' it (tI X.K ta C ik src)) (ok : BlkOk X.N X.env.scope scope own) (ho : own.map (·.2) = tg.slots)
    (hg : ∀ (s : Shared) (H : Hp) (C' : Addr) (cl : List (Str × Addr)) (fp : List Addr), PG (X.blk s H scope (compEnvC scope cl C' X.env) fp) tg' (gT X.K tg))
    (ht : ∀ (s : Shared) (H : Hp) (C' : Addr) (cl : List (Str × Addr)) (fp : List Addr), PTs (X.blk s H scope (compEnvC scope cl C' X.env) fp) ifs (tCond X.K ta C cond))
    (hk : ∀ (s : Shared) (H : Hp) (C' : Addr) (cl : List (Str × Addr)) (fp : List Addr), PE (X.blk s H scope (compEnvC scope cl C' X.env) fp) kx (tE X.K ta C .dat ke))
    (he : ∀ (s : Shared) (H : Hp) (C' : Addr) (cl : List (Str × Addr)) (fp : List Addr), PE (X.blk s H scope (compEnvC scope cl C' X.env) fp) vx (tE X.K ta C .dat ve)) (hs : ∀ x, foldedSetIterable it X.env x = pure x) (hpr : pairIk ik = true → ∃ is, tg = .tup is) :
    PE X (.DictComp kx vx [⟨tg', it, ifs, 0⟩] scope pos) (tE X.K ta C .fresh (.dcomp ke ve tg ik src cond)) := by
  refine PE.mono (pe_lk (pe_dc hc hN hi ok hg ht hk he hs)) fun σ H Q h => ?_
  rw [ho]
  obtain ⟨G, ρ, τ, d, τ', R, e, q⟩ := h
  obtain ⟨xs, τ1, e1, f1⟩ := bnd_some (x := evEs C src ρ) e
  obtain ⟨items, τ2, e2, f2⟩ := bnd_some f1
  obtain ⟨g2, rfl⟩ := of_some e2
  obtain ⟨ys, τ3, e3, f3⟩ := bnd_some f2
  obtain ⟨kvs, τ4, e4, f4⟩ := bnd_some f3
  obtain ⟨g4, rfl⟩ := of_some e4
  cases ret_some f4
  obtain ⟨wd, hz⟩ := walkC_some g2
  refine ⟨G, ρ, τ, xs, _, items, R, e1, wd, fun G1 H1 J x1 R1 wk Dd hD => ?_⟩
  have e3 : compL (stepM C tg ρ tg.slots cond none fun ρ' => (evE C ke ρ').bnd fun y => (evE C ve ρ').bnd fun z => .ret (some (.tuple [y, z]))) items τ2 = some (ys, τ') := e3
  generalize hf : (stepM C tg ρ tg.slots cond none fun ρ' => (evE C ke ρ').bnd fun y => (evE C ve ρ').bnd fun z => M.ret (some (PyData.tuple [y, z]))) = f at e3
  have htD : ta ≠ some Dd := fun z => by
    obtain ⟨_, vs, h2, _⟩ := R1.tin Dd z
    rw [hD] at h2; cases h2
  have hoD : ∀ (i : Nat) ds, ρ[i]? = some (some (.own ds)) → σ[i]? ≠ some (some (.ref Dd)) := fun i ds e z => R1.ownThere i ds e Dd z hD
  refine ⟨fun i m H2 => i ≤ items.length ∧ m = items.length - i ∧ ∃ Gi τi dn ks, Acc X.K ta G1 H1 Gi H2 Dd (.dK ks) ∧ Rel X.K ta Gi σ H2 ρ τi ∧ DRk X.K Gi ks (mergeKD [] dn) ∧ ks.length ≤ i ∧ ∃ rest rk, compL f (items.drop i) τi = some (rest, τ') ∧ pairsD rest = some rk ∧ kvs = dn ++ rk,
    ⟨_, Nat.zero_le _, rfl, G1, _, [], [], ⟨Ext.fresh hD, upd_same, R1.sub.free hD⟩, R1.fresh hD, .nil, Nat.le_refl _, ys, kvs, e3, g4, rfl⟩, ?_⟩
  rintro i m H2 ⟨hi', rfl, Gi, τi, dn, ks, A, Ri, dri, hl, rest, rk, ei, pk, rfl⟩
  have sv : Same (minus ta H1) H2 := minus_ext A.ext
  by_cases hlt : i < items.length
  · right
    refine ⟨wk.go i H2 sv hlt, fun H' => (i + 1 ≤ items.length ∧ items.length - (i + 1) = items.length - (i + 1) ∧ ∃ Gi τi dn' ks, Acc X.K ta G1 H1 Gi H' Dd (.dK ks) ∧ Rel X.K ta Gi σ H' ρ τi ∧ DRk X.K Gi ks (mergeKD [] dn') ∧ ks.length ≤ i + 1 ∧ ∃ rest' rk', compL f (items.drop (i + 1)) τi = some (rest', τ') ∧ pairsD rest' = some rk' ∧ dn ++ rk = dn' ++ rk'),
      fun H' h => ⟨items.length - (i + 1), by omega, h⟩, fun x H' y => ?_⟩
    rw [List.drop_eq_getElem_cons hlt] at ei
    obtain ⟨o, τa, ea, fa⟩ := bnd_some (x := f items[i]) ei
    obtain ⟨r', τb, eb, fb⟩ := bnd_some fa
    cases ret_some fb
    obtain ⟨x', R', dx, kp⟩ := item_ok (tg := tg) wk hpr A.ext Ri sv (List.getElem?_eq_getElem hlt) y
    have A1 := A.step htD x'
    rw [← hf] at ea
    obtain ⟨ρ', k, τd, gc, ed, fd⟩ := stepM_some ea
    refine gT_ok (R'.wipe tg.slots) dx gc fun σ2 R2 w2 => ⟨by rw [w2 _ fun _ h => h, wipe_wipe], Gi, ρ', _, k, τd, R2, ed, fun G3 H3 x3 R3 => ?_⟩
    have A3 := A1.step htD x3
    have R03 : Rel X.K ta G3 σ H3 ρ τd := R'.ext x3 R3.sub fun a e => (R3.tin a e).2
    cases k with
    | false =>
      cases ret_some fd
      exact iteF ⟨hlt, rfl, G3, _, dn, ks, A3, R03, dri.same x3.g, Nat.le_succ_of_le hl, r', rk, eb, pk, rfl⟩
    | true =>
      have fd : ((evE C ke ρ').bnd fun y => (evE C ve ρ').bnd fun z => M.ret (some (PyData.tuple [y, z]))) τd = some (o, τa) := fd
      obtain ⟨y', τe, ee, fe⟩ := bnd_some (x := evE C ke ρ') fd
      obtain ⟨z', τf, ef, ff⟩ := bnd_some fe
      cases ret_some ff
      obtain ⟨p, l, p1, p2, rfl⟩ := pairsD_cons pk
      simp only [pairD] at p1
      split at p1
      · rename_i hkey
        cases p1
        obtain ⟨kk, rfl⟩ := isKey_kD hkey
        refine iteT ⟨G3, ρ', τd, _, τe, R3, ee, fun v G4 H4 x4 R4 w4 => ⟨G4, ρ', τe, z', _, R4, ef, fun v5 G5 H5 x5 R5 w5 => ?_⟩⟩
        have A5 := (A3.step htD x4).step htD x5
        have R05 : Rel X.K ta G5 σ H5 ρ _ := (R03.ext x4 R4.sub fun a e => (R4.tin a e).2).ext x5 R5.sub fun a e => (R5.tin a e).2
        have dr5 := putK_dr kk w5 (dri.same (x3.g.trans (x4.g.trans x5.g)))
        refine ⟨ks, kk, V_kD w4, A5.at_, by omega, hlt, rfl, G5, _, dn ++ [(kD kk, z')], putK ks kk v5, A5.put hD, R05.updFree A5.free htD hoD, by rw [mergeKD_snoc]; exact dr5, ?_, r', l, eb, p2, by simp⟩
        rw [dr5.length]
        have := putKD_len (mergeKD [] dn) (kD kk) z'
        rw [← dri.length] at this
        omega
      · cases p1
  · left
    have hn : i = items.length := by omega
    subst hn
    rw [List.drop_length] at ei
    cases ret_some ei
    cases pk
    rw [List.append_nil] at q
    exact ⟨wk.stop H2 sv, lk_fresh Ri (x1.trans A.ext) (x1.none_of hD) htD A.free A.at_ hoD dri q⟩
/-! ### displays of dicts, d.get(k, x) -/
theorem rd_dic0 {pos : Pos} : PE X (.Dict [] [] pos) (tE X.K ta C .fresh (.dic0)) :=
  PE.mono (pe_lk pe_dnewK) fun σ H Q h => by
    obtain ⟨G, ρ, τ, d, τ', R, e, q⟩ := h
    cases ret_some e
    intro p hp
    have htD : ta ≠ some p := fun z => by
      obtain ⟨_, vs, h2, _⟩ := R.tin p z
      rw [hp] at h2; cases h2
    exact lk_fresh (R.fresh hp) (Ext.fresh hp) hp htD (R.sub.free hp) upd_same (fun i ds e z => R.ownThere i ds e p z hp) .nil q
theorem rd_dic1 {k v : Expr} {a b : E} {pos : Pos} (ha : PE X k (tE X.K ta C .dat a)) (hb : PE X v (tE X.K ta C .dat b)) : PE X (.Dict [some k] [v] pos) (tE X.K ta C .fresh (.dic1 a b)) :=
  PE.mono (pe_lk (pe_disp (pps_cons ha hb pps_nil) rfl rfl (by simp) (by simp))) fun σ H Q h => by
    obtain ⟨G, ρ, τ, d, τ', R, e, q⟩ := h
    obtain ⟨y, τ2, e2, f2⟩ := bnd_some (x := evE C a ρ) e
    obtain ⟨z, τ4, e4, f4⟩ := bnd_some f2
    have f4 : (if isKey y then M.ret (PyData.dict [(y, z)]) else M.fail) τ4 = some (d, τ') := f4
    split at f4
    · rename_i hk
      cases ret_some f4
      obtain ⟨kk, rfl⟩ := isKey_kD hk
      intro p hp
      have htD : ta ≠ some p := fun z => by
        obtain ⟨_, vs, h2, _⟩ := R.tin p z
        rw [hp] at h2; cases h2
      have hoD : ∀ (i : Nat) ds, ρ[i]? = some (some (.own ds)) → σ[i]? ≠ some (some (.ref p)) := fun i ds e z => R.ownThere i ds e p z hp
      refine ⟨G, ρ, τ, _, τ2, R.fresh hp, e2, fun v1 G1 H1 x1 R1 w1 => ⟨G1, ρ, τ2, z, _, R1, e4, fun v2 G2 H2 x2 R2 w2 => ?_⟩⟩
      have A : Acc X.K ta G H G2 H2 p (.dK []) := ((⟨Ext.fresh hp, upd_same, R.sub.free hp⟩ : Acc X.K ta G H G (upd H p (.dK [])) p (.dK [])).step htD x1).step htD x2
      refine ⟨A.at_, [(kk, v2)], ?_, by simp, ?_⟩
      · show [(v1, v2)] = [(kV kk, v2)]
        rw [V_kD w1]
      · have dr : DRk X.K G2 (mergeK [] [(kk, v2)]) [(kD kk, z)] := mergeK_dr (.cons w2 .nil) .nil
        exact lk_fresh (R2.updFree A.free htD hoD) (A.put hp).ext hp htD A.free upd_same hoD dr q
    · cases f4
theorem rd_dget {o y z : Expr} {a k x : E} {ka kk : Kd} {ap cp : Pos} (hu : X.A.units + 64 < cLine) (ha : PE X o (tE X.K ta C ka a)) (hk : PE X y (tE X.K ta C kk k)) (hx : PE X z (tE X.K ta C .dat x)) (hb : baseOk o = true) (ny : notStar y = true) (nz : notStar z = true) (hl : (ap.endLine == cp.line) = true) :
    PE X (.Call (.Attribute o "get" ap) [y, z] [] cp) (tE X.K ta C .dat (.dget a k x)) := by
  have tr : starEach [y, z] X.env = [(false, eval y X.env), (false, eval z X.env)] := by rw [star_no ny, star_no nz]; rfl
  have m2 : M2 X o "get" ap y z cp := ⟨base_of hb, by rw [tr]; rfl, hl, by rw [tr]; rfl⟩
  refine PE.mono (pe_dget2 (by omega) ha hk hx m2) fun σ H Q h => ?_
  obtain ⟨G, ρ, τ, d, τ', R, e, q⟩ := h
  obtain ⟨d1, τ1, e1, f1⟩ := bnd_some (x := evE C a ρ) e
  obtain ⟨d2, τ2, e2, f2⟩ := bnd_some f1
  obtain ⟨d3, τ3, e3, f3⟩ := bnd_some f2
  obtain ⟨g3, rfl⟩ := of_some f3
  refine ⟨G, ρ, τ, d1, τ1, R, e1, fun v1 G1 H1 x1 R1 w1 => ?_⟩
  cases d1 with
  | dict ds =>
    have g3 : (if isKey d2 then some ((lookK ds d2).getD d3) else none) = some d := g3
    split at g3
    · rename_i hky
      cases g3
      obtain ⟨kk, rfl⟩ := isKey_kD hky
      obtain ⟨p, od, ks, rfl, hp, dr⟩ := w1.view.dic R1.sub
      refine ⟨p, rfl, .inl ⟨ks, .inr ⟨od, hp⟩⟩, G1, ρ, τ1, _, τ2, R1, e2, fun v2 G2 H2 x2 R2 w2 => ⟨G2, ρ, τ2, d3, _, R2, e3, fun v3 G3 H3 x3 R3 w3 => ?_⟩⟩
      have vw := ((w1.view.ext x2).ext x3)
      obtain ⟨p', od', ks', e', hp', dr'⟩ := vw.dic R3.sub
      cases e'
      have hv2 : v2 = kV kk := V_kD ((w2.view.dr (still_kD kk)))
      refine ⟨valV ks' kk, .inl ⟨ks', kk, .inr ⟨od', hp'⟩, hv2, rfl⟩, ?_⟩
      rcases dr'.look kk with ⟨h1, h2⟩ | ⟨w, z', h1, h2, h3⟩
      · rw [h1]
        rw [h2] at q
        exact q v3 G3 H3 ((x1.trans x2).trans x3) R3 w3
      · rw [h1]
        rw [h2] at q
        exact q w G3 H3 ((x1.trans x2).trans x3) R3 h3
    · cases g3
  | _ => cases g3
end
end KN

set_option maxRecDepth 100000
set_option maxHeartbeats 4000000
namespace KN
open PySem L2 PyProof.Rows
/-! ### small things -/
theorem len1 {α : Type} {l : List α} (h : l.length = 1) : ∃ a, l = [a] := by
  match l, h with
  | [a], _ => exact ⟨a, rfl⟩
theorem len2 {α : Type} {l : List α} (h : l.length = 2) : ∃ a b, l = [a, b] := by
  match l, h with
  | [a, b], _ => exact ⟨a, b, rfl⟩
theorem tupE_of {t : Expr} (h : isTupE t = true) : ∃ es k p, t = .Tuple es k p := by
  cases t <;> first | exact ⟨_, _, _, rfl⟩ | cases h
theorem kw_len : ∀ {kws : List Keyword}, kwAll kws = true → (kwNames kws).length = kws.length
  | [], _ => rfl
  | ⟨some x, e, p⟩ :: r, h => by simp [kwNames, kw_len (kws := r) h]
  | ⟨none, e, p⟩ :: r, h => by cases h
theorem tys_len {Γ : Cn} : ∀ {ts : List String} {cs : List Expr}, tysOk Γ ts cs = true → cs.length = ts.length
  | [], [], _ => rfl
  | [], _ :: _, h => by simp [tysOk] at h
  | _ :: _, [], h => by simp [tysOk] at h
  | t :: ts, c :: cs, h => by
    cases c with
    | Name x p =>
      simp only [tysOk, Bool.and_eq_true] at h
      simp [tys_len h.2]
    | _ => simp [tysOk] at h
theorem tys_one {Γ : Cn} {ts : List String} {c : Expr} (h : tysOk Γ ts [c] = true) : ∃ T, ts = [T] ∧ notStar c = true := by
  have hl := tys_len h
  obtain ⟨T, rfl⟩ := len1 hl.symm
  refine ⟨T, rfl, ?_⟩
  cases c <;> first | rfl | simp [tysOk] at h
theorem blkOf_snd (Γ : Cn) (tg : Tg) : (blkOf Γ tg).map (·.2) = tg.slots := by
  unfold blkOf
  rw [List.map_map]
  exact List.map_id' _
theorem mIs_cons {t : E} {r : List E} {Γ : Cn} {xs : List Expr} (h : notStarE t = true) : mIs (t :: r) Γ xs = (match xs with
    | x :: q => notStar x && plain t && mE t Γ x && mIs r Γ q
    | [] => false) := by
  cases t <;> first | rfl | cases h
section
variable {X : Cx} {ta : Option Addr} {C : Nat → List D → M D} {c : E} {x : Expr}
theorem pts_gone (h : c.gone = true) : PTs X [] (tCond X.K ta C c) := by
  refine ⟨fun pins s σ H Q I q => pts_nil.run pins s σ H Q I ?_⟩
  obtain ⟨G, ρ, τ, b, τ', R, e, q⟩ := q
  rw [if_pos h] at e
  cases ret_some e
  exact q G H Ext.refl R
theorem pts_cond (h : c.gone = false) (hc : PT X x (tT X.K ta C c)) : PTs X [x] (tCond X.K ta C c) := by
  refine ⟨fun pins s σ H Q I q => (pts_one hc).run pins s σ H Q I ?_⟩
  obtain ⟨G, ρ, τ, b, τ', R, e, q⟩ := q
  rw [if_neg (by rw [h]; simp)] at e
  exact ⟨G, ρ, τ, b, τ', R, e, q⟩
variable {a b : E} {l m r : Expr} {pos : Pos}
theorem rt_chain {o1 o2 : CmpOp} {ka kb kc : Kd} (hu : X.A.units + 64 < cLine) (ha : PE X l (tE X.K ta C ka a)) (hb : PE X m (tE X.K ta C kb b)) (hc : PE X r (tE X.K ta C kc c)) (hm : lastMarks [o1, o2] [m, r] = false) :
    PT X (.Compare l [o1, o2] [m, r] pos) (tT X.K ta C (.chain o1 o2 a b c)) :=
  PT.mono (pt_chain (op_cmpD o1 hu) (op_cmpD o2 hu) ha hb hc hm) fun σ H Q h => by
    obtain ⟨G, ρ, τ, d, τ', R, e, q⟩ := h
    obtain ⟨z0, τ0, e0, et⟩ := bnd_some (x := evE C (.chain o1 o2 a b c) ρ) e
    obtain ⟨x, τ1, e1, f1⟩ := bnd_some (x := evE C a ρ) e0
    obtain ⟨y, τ2, e2, f2⟩ := bnd_some (x := evE C b ρ) f1
    obtain ⟨z, τ3, e3, f3⟩ := bnd_some f2
    obtain ⟨g3, rfl⟩ := of_some e3
    obtain ⟨gt, rfl⟩ := of_some et
    refine ⟨G, ρ, τ, x, τ1, R, e1, fun v1 G1 H1 x1 R1 w1 => ⟨G1, ρ, τ1, y, _, R1, e2, fun v2 G2 H2 x2 R2 w2 => ?_⟩⟩
    obtain ⟨k, rfl⟩ := cmp_bool g3
    refine ⟨G2, x, y, _, R2.sub, ((w1.view).ext x2).weak, w2.view.weak, g3, fun v G' H' x' s' w' => ?_⟩
    cases w'
    have R3 := R2.step x' s'
    cases k with
    | true =>
      obtain ⟨u, τ4, e4, f4⟩ := bnd_some (x := evE C c ρ) f3
      obtain ⟨g5, rfl⟩ := of_some f4
      obtain ⟨k5, rfl⟩ := cmp_bool g5
      refine ⟨true, rfl, iteT ⟨G', ρ, _, u, _, R3, e4, fun v3 G3 H3 x3 R4 w3 => ?_⟩⟩
      refine ⟨G3, y, u, _, R4.sub, ((w2.view.ext x'.weak).ext x3).weak, w3.view.weak, g5, fun v G5 H5 x5 s5 w5 => ?_⟩
      cases w5
      cases gt
      exact ⟨_, rfl, q G5 H5 ((((x1.trans x2).trans x'.weak).trans x3).trans x5.weak) (R4.step x5 s5)⟩
    | false =>
      cases ret_some f3
      cases gt
      exact ⟨false, rfl, iteF ⟨false, rfl, q G' H' ((x1.trans x2).trans x'.weak) R3⟩⟩
theorem rt_ite {c' : Expr} (hc : PT X c' (tT X.K ta C c)) (ha : PT X l (tT X.K ta C a)) (hb : PT X r (tT X.K ta C b)) : PT X (.IfExp c' l r pos) (tT X.K ta C (.ite c a b)) := by
  refine ⟨fun pins s σ H Q I h => ?_⟩
  obtain ⟨G, ρ, τ, d, τ', R, e, q⟩ := h
  obtain ⟨z, τ3, e, et⟩ := bnd_some (x := evE C (.ite c a b) ρ) e
  obtain ⟨x, τ1, e1, f1⟩ := bnd_some (x := evE C c ρ) e
  obtain ⟨k, τ2, e2, f2⟩ := bnd_some f1
  obtain ⟨g2, rfl⟩ := of_some e2
  obtain ⟨gt, rfl⟩ := of_some et
  have run := hc.run pins s σ H (fun k' H1 => if k' = true then tT X.K ta C a σ H1 Q else tT X.K ta C b σ H1 Q) I ⟨G, ρ, τ, k, _, R, tru_bnd (τ2 := τ) e1 g2, fun G1 H1 x1 R1 => by
    cases k with
    | true => exact iteT ⟨G1, ρ, _, d, _, R1, tru_bnd (τ2 := τ) f2 gt, fun G2 H2 x2 R2 => q G2 H2 (x1.trans x2) R2⟩
    | false => exact iteF ⟨G1, ρ, _, d, _, R1, tru_bnd (τ2 := τ) f2 gt, fun G2 H2 x2 R2 => q G2 H2 (x1.trans x2) R2⟩⟩
  refine wpAny_bind (thn run fun k' s1 hk => ?_)
  obtain ⟨H1, I1, q1⟩ := hk
  cases k' with
  | true =>
    have q1 : tT X.K ta C a σ H1 Q := by simpa using q1
    exact ha.run pins s1 σ H1 Q I1 q1
  | false =>
    have q1 : tT X.K ta C b σ H1 Q := by simpa using q1
    exact hb.run pins s1 σ H1 Q I1 q1
end
theorem tup_tg {Γ : Cn} {tg : Tg} {t : Expr} (h : mTg Γ tg t = true) (ht : isTupE t = true) : ∃ is, tg = .tup is := by
  obtain ⟨es, k, p, rfl⟩ := tupE_of ht
  cases tg with
  | nm i => simp [mTg] at h
  | tup is => exact ⟨is, rfl⟩
theorem pair_tg {Γ Γ' : Cn} {tg : Tg} {ik : IK} {t it : Expr} {m mr : List Expr → Bool} (h : srcB ik Γ t it m mr = true) (ht : mTg Γ' tg t = true) (hp : pairIk ik = true) : ∃ is, tg = .tup is := by
  refine tup_tg ht ?_
  cases ik with
  | enum => unfold srcB at h; simp only [Bool.and_eq_true] at h; exact h.1
  | zip => unfold srcB at h; simp only [Bool.and_eq_true] at h; exact h.1
  | items => unfold srcB at h; simp only [Bool.and_eq_true] at h; exact h.1
  | _ => cases hp
theorem blkOf2_snd (Γ : Cn) (tg tg1 : Tg) : (blkOf2 Γ tg tg1).map (·.2) = tg.slots ++ tg1.slots := by
  unfold blkOf2
  rw [List.map_map]
  exact List.map_id' _
theorem notStar_of {t : E} {Γ : Cn} {x : Expr} (h : mE t Γ x = true) : notStarE t = true := by
  cases t with
  | star e => rw [mE_star] at h; cases h
  | _ => rfl
theorem plain_ne {t : E} (h : plain t = true) : kdOf t ≠ .peek := by
  intro z
  unfold plain at h
  rw [z] at h
  cases h
section
variable {Γ : Cn} {n : Nat} {X : Cx} {ta : Option Addr}
theorem XOk.var (O : XOk Γ n X) {i : Nat} {x : Str} (h : nameOk Γ i x = true) : X.N[i]? = some x ∧ Vis X.env.scope x ∧ (x == ("__debug__" : Str)) = false ∧ (x == ("__classdict__" : Str)) = false := by
  simp only [nameOk, Bool.and_eq_true, decide_eq_true_eq, Bool.not_eq_true'] at h
  obtain ⟨⟨⟨h1, h2⟩, h3⟩, h4⟩ := h
  refine ⟨by rw [O.N]; exact h1, ?_, h3, h4⟩
  unfold visB at h2
  unfold Vis
  rw [O.sc]
  split at h2
  · rename_i e; exact .inl e
  · rename_i e; exact .inr (.inl e)
  · rename_i e; exact .inr (.inr e)
  · cases h2
theorem XOk.glob (O : XOk Γ n X) {x : Str} (h : glOk Γ x = true) : Gl X x ∧ x ≠ "__name__" ∧ (x == ("__debug__" : Str)) = false := by
  simp only [glOk, Bool.and_eq_true, decide_eq_true_eq, Bool.not_eq_true'] at h
  obtain ⟨⟨h1, h2⟩, h3⟩ := h
  refine ⟨?_, h3, h2⟩
  show X.env.scope.names.lookup x = some .globalImplicit
  rw [O.sc]
  split at h1
  · rename_i e; exact e
  · cases h1
theorem XOk.units (O : XOk Γ n X) : X.A.units + 64 < cLine := O.room.units
theorem XOk.blk (O : XOk Γ n X) (s : Shared) (H : Hp) (scope : Scope) (cl : List (Str × Addr)) (C : Addr) (fp : List Addr) : XOk (Γ.inner scope) n (X.blk s H scope (compEnvC scope cl C X.env) fp) where
  N := O.N
  nd := O.nd
  sc := by
    show relS scope X.env.scope = relS scope Γ.sc
    rw [O.sc]
  fn := rfl
  calm := O.calm
  room := O.room
  bi := O.bi
  gl := O.gl
  fns := O.fns
theorem plainIx {y : Expr} (h : notSlice y = true) : PlainIx y := by
  intro o i
  cases y <;> first | rfl | cases h
theorem foldSet {it : Expr} {env : PySem.Env} (h : notSet it = true) : ∀ x, foldedSetIterable it env x = pure x := by
  intro x
  cases it <;> first | rfl | cases h
/-- a value and its test -/
def Snd (Γ : Cn) (n : Nat) (X : Cx) (ta : Option Addr) (t : E) (e : Expr) : Prop :=
  PE X e (tE X.K ta (callF Γ.B n) (kdOf t) t) ∧ PT X e (tT X.K ta (callF Γ.B n) t) ∧ ∀ op vs p, e = .BoolOp op vs p → PW X e (tT X.K ta (callF Γ.B n) t)
theorem Snd.of {t : E} {e : Expr} (h : PE X e (tE X.K ta (callF Γ.B n) (kdOf t) t)) (he : ∀ whole, isTrue e X.env whole = (do let v ← whole; standAt e.pos; holding [v] (truthy v))) (hb : ∀ op vs p, e ≠ .BoolOp op vs p) : Snd Γ n X ta t e :=
  ⟨h, rt_plain h he, fun op vs p z => absurd z (hb op vs p)⟩
theorem Snd.dat {t : E} {e : Expr} (h : Snd Γ n X ta t e) (hp : plain t = true) : PE X e (tE X.K ta (callF Γ.B n) .dat t) := PE.mono h.1 (tE_dat (plain_ne hp))
end
theorem src_ok {n : Nat} {ta : Option Addr} {Γ : Cn} {X : Cx} (O : XOk Γ n X) {ik : IK} {src : List E} {t it : Expr}
    (hV : ∀ xs, mEs src Γ xs = true → PA X xs (tV X.K ta (callF Γ.B n) src) ∧ noStars xs = true ∧ (∀ t ∈ src, notStarE t = true) ∧ xs.length = src.length ∧ ∀ t x, src = [t] → xs = [x] → Snd Γ n X ta t x)
    (h6 : srcB ik Γ t it (fun xs => mEs src Γ xs) (fun xs => mEs src Γ xs) = true) : PI X t it (tI X.K ta (callF Γ.B n) ik src) := by
  unfold srcB at h6
  cases ik with
  | ex =>
    obtain ⟨v1, v2, v3, v4, v5⟩ := hV _ h6
    obtain ⟨s0, hs0⟩ := len1 v4.symm
    have hp := v5 s0 it hs0 rfl
    rw [hs0]
    exact ri_ex hp.1 (v3 s0 (by rw [hs0]; exact List.mem_cons_self))
  | range =>
    simp only at h6
    split at h6
    · simp only [Bool.and_eq_true, decide_eq_true_eq] at h6
      obtain ⟨⟨⟨rfl, k2⟩, k3⟩, k4⟩ := h6
      obtain ⟨g1, _, _⟩ := O.glob k2
      obtain ⟨v1, v2, v3, v4, _⟩ := hV _ k3
      rcases k4 with k4 | k4
      · obtain ⟨a, rfl⟩ := len1 k4
        simp only [noStars, Bool.and_eq_true] at v2
        exact ri_range1 O.bi g1 v1 v2.1 v3 (v4 ▸ k4)
      · obtain ⟨a, b, rfl⟩ := len2 k4
        simp only [noStars, Bool.and_eq_true] at v2
        exact ri_range2 O.bi g1 v1 v2.1 v2.2.1 v3 (v4 ▸ k4)
    · cases h6
  | enum =>
    simp only [Bool.and_eq_true] at h6
    obtain ⟨ht, h6⟩ := h6
    obtain ⟨es', k', p', rfl⟩ := tupE_of ht
    split at h6
    · simp only [Bool.and_eq_true, decide_eq_true_eq] at h6
      obtain ⟨⟨⟨rfl, k2⟩, k3⟩, k4⟩ := h6
      obtain ⟨g1, _, _⟩ := O.glob k2
      obtain ⟨v1, v2, v3, v4, _⟩ := hV _ k3
      obtain ⟨a, rfl⟩ := len1 k4
      simp only [noStars, Bool.and_eq_true] at v2
      exact ri_enum O.bi g1 v1 v2.1
    · cases h6
  | zip =>
    simp only [Bool.and_eq_true] at h6
    obtain ⟨ht, h6⟩ := h6
    obtain ⟨es', k', p', rfl⟩ := tupE_of ht
    split at h6
    · simp only [Bool.and_eq_true, decide_eq_true_eq] at h6
      obtain ⟨⟨⟨rfl, k2⟩, k3⟩, k4⟩ := h6
      obtain ⟨g1, _, _⟩ := O.glob k2
      obtain ⟨v1, v2, v3, v4, _⟩ := hV _ k3
      obtain ⟨a, b, rfl⟩ := len2 k4
      simp only [noStars, Bool.and_eq_true] at v2
      exact ri_zip O.bi g1 v1 v2.1 v2.2.1
    · cases h6
  | items =>
    simp only [Bool.and_eq_true] at h6
    obtain ⟨ht, h6⟩ := h6
    obtain ⟨es', k', p', rfl⟩ := tupE_of ht
    split at h6
    · simp only [Bool.and_eq_true, decide_eq_true_eq] at h6
      obtain ⟨⟨⟨rfl, k2⟩, k3⟩, k4⟩ := h6
      obtain ⟨v1, v2, v3, v4, v5⟩ := hV _ k4
      obtain ⟨s0, hs0⟩ := len1 v4.symm
      have hp := v5 s0 _ hs0 rfl
      rw [hs0]
      exact ri_items hp.1 (v3 s0 (by rw [hs0]; exact List.mem_cons_self)) k2 k3
    · cases h6
  | vals =>
    simp only at h6
    split at h6
    · simp only [Bool.and_eq_true, decide_eq_true_eq] at h6
      obtain ⟨⟨⟨rfl, k2⟩, k3⟩, k4⟩ := h6
      obtain ⟨v1, v2, v3, v4, v5⟩ := hV _ k4
      obtain ⟨s0, hs0⟩ := len1 v4.symm
      have hp := v5 s0 _ hs0 rfl
      rw [hs0]
      exact ri_vals hp.1 (v3 s0 (by rw [hs0]; exact List.mem_cons_self)) k2 k3
    · cases h6
theorem srcf_ok {n : Nat} {ta : Option Addr} {Γ : Cn} {X : Cx} (O : XOk Γ n X) {ik : IK} {src : List E} {t it : Expr}
    (hV : ∀ xs, mEs src Γ xs = true → PA X xs (tV X.K ta (callF Γ.B n) src) ∧ noStars xs = true ∧ (∀ t ∈ src, notStarE t = true) ∧ xs.length = src.length ∧ ∀ t x, src = [t] → xs = [x] → Snd Γ n X ta t x)
    (hK : ∀ xs, mDs src Γ xs = true → PA X xs (tK X.K ta (callF Γ.B n) src) ∧ noStars xs = true ∧ (∀ t ∈ src, notStarE t = true) ∧ xs.length = src.length ∧ ∀ t x, src = [t] → xs = [x] → PE X x (tE X.K ta (callF Γ.B n) .dat t))
    (h6 : srcB ik Γ t it (fun xs => mDs src Γ xs) (fun xs => mEs src Γ xs) = true) : PI X t it (tIf X.K ta (callF Γ.B n) ik src) := by
  unfold srcB at h6
  cases ik with
  | ex =>
    obtain ⟨v1, v2, v3, v4, v5⟩ := hK _ h6
    obtain ⟨s0, hs0⟩ := len1 v4.symm
    have hp := v5 s0 it hs0 rfl
    rw [hs0]
    exact rif_ex hp (v3 s0 (by rw [hs0]; exact List.mem_cons_self))
  | range =>
    simp only at h6
    split at h6
    · simp only [Bool.and_eq_true, decide_eq_true_eq] at h6
      obtain ⟨⟨⟨rfl, k2⟩, k3⟩, k4⟩ := h6
      obtain ⟨g1, _, _⟩ := O.glob k2
      obtain ⟨v1, v2, v3, v4, _⟩ := hV _ k3
      rcases k4 with k4 | k4
      · obtain ⟨a, rfl⟩ := len1 k4
        simp only [noStars, Bool.and_eq_true] at v2
        exact rif_range1 O.bi g1 v1 v2.1 v3 (v4 ▸ k4)
      · obtain ⟨a, b, rfl⟩ := len2 k4
        simp only [noStars, Bool.and_eq_true] at v2
        exact rif_range2 O.bi g1 v1 v2.1 v2.2.1 v3 (v4 ▸ k4)
    · cases h6
  | enum =>
    simp only [Bool.and_eq_true] at h6
    obtain ⟨ht, h6⟩ := h6
    obtain ⟨es', k', p', rfl⟩ := tupE_of ht
    split at h6
    · simp only [Bool.and_eq_true, decide_eq_true_eq] at h6
      obtain ⟨⟨⟨rfl, k2⟩, k3⟩, k4⟩ := h6
      obtain ⟨g1, _, _⟩ := O.glob k2
      obtain ⟨v1, v2, v3, v4, _⟩ := hK _ k3
      obtain ⟨a, rfl⟩ := len1 k4
      simp only [noStars, Bool.and_eq_true] at v2
      exact rif_enum O.bi g1 v1 v2.1
    · cases h6
  | zip =>
    simp only [Bool.and_eq_true] at h6
    obtain ⟨ht, h6⟩ := h6
    obtain ⟨es', k', p', rfl⟩ := tupE_of ht
    split at h6
    · simp only [Bool.and_eq_true, decide_eq_true_eq] at h6
      obtain ⟨⟨⟨rfl, k2⟩, k3⟩, k4⟩ := h6
      obtain ⟨g1, _, _⟩ := O.glob k2
      obtain ⟨v1, v2, v3, v4, _⟩ := hK _ k3
      obtain ⟨a, b, rfl⟩ := len2 k4
      simp only [noStars, Bool.and_eq_true] at v2
      exact rif_zip O.bi g1 v1 v2.1 v2.2.1
    · cases h6
  | items =>
    simp only [Bool.and_eq_true] at h6
    obtain ⟨ht, h6⟩ := h6
    obtain ⟨es', k', p', rfl⟩ := tupE_of ht
    split at h6
    · simp only [Bool.and_eq_true, decide_eq_true_eq] at h6
      obtain ⟨⟨⟨rfl, k2⟩, k3⟩, k4⟩ := h6
      obtain ⟨v1, v2, v3, v4, v5⟩ := hK _ k4
      obtain ⟨s0, hs0⟩ := len1 v4.symm
      have hp := v5 s0 _ hs0 rfl
      rw [hs0]
      exact rif_items hp (v3 s0 (by rw [hs0]; exact List.mem_cons_self)) k2 k3
    · cases h6
  | vals =>
    simp only at h6
    split at h6
    · simp only [Bool.and_eq_true, decide_eq_true_eq] at h6
      obtain ⟨⟨⟨rfl, k2⟩, k3⟩, k4⟩ := h6
      obtain ⟨v1, v2, v3, v4, v5⟩ := hK _ k4
      obtain ⟨s0, hs0⟩ := len1 v4.symm
      have hp := v5 s0 _ hs0 rfl
      rw [hs0]
      exact rif_vals hp (v3 s0 (by rw [hs0]; exact List.mem_cons_self)) k2 k3
    · cases h6
section
variable {n : Nat} {ta : Option Addr}
mutual
theorem snd : ∀ (t : E) {Γ : Cn} {X : Cx} {e : Expr} (O : XOk Γ n X), mE t Γ e = true → Snd Γ n X ta t e
  | .var i, Γ, X, e, O, h => by
    rw [mE_var] at h
    split at h
    · obtain ⟨h1, h2, h3, h4⟩ := O.var h
      exact .of (rd_var h1 h2 h3 h4) (fun _ => rfl) (fun _ _ _ z => nomatch z)
    · cases h
  | .peek i, Γ, X, e, O, h => by
    rw [mE_peek] at h
    split at h
    · obtain ⟨h1, h2, h3, h4⟩ := O.var h
      exact .of (rd_peek h1 h2 h3 h4) (fun _ => rfl) (fun _ _ _ z => nomatch z)
    · cases h
  | .non, Γ, X, e, O, h => by
    rw [mE_non] at h
    split at h
    · exact .of (rd_const pe_non (fun _ => .non) fun _ => rfl) (fun _ => rfl) (fun _ _ _ z => nomatch z)
    · cases h
  | .bl b, Γ, X, e, O, h => by
    rw [mE_bl] at h
    split at h
    · have z := beq_iff_eq.mp h
      subst z
      exact .of (rd_const pe_bl (fun _ => .bl _) fun _ => rfl) (fun _ => rfl) (fun _ _ _ z => nomatch z)
    · cases h
  | .int i, Γ, X, e, O, h => by
    rw [mE_int] at h
    split at h
    · have z := beq_iff_eq.mp h
      subst z
      exact .of (rd_const pe_int (fun _ => .int _) fun _ => rfl) (fun _ => rfl) (fun _ _ _ z => nomatch z)
    · cases h
  | .str x, Γ, X, e, O, h => by
    rw [mE_str] at h
    split at h
    · have z := of_decide_eq_true h
      subst z
      exact .of (rd_const pe_str (fun _ => .str _) fun _ => rfl) (fun _ => rfl) (fun _ _ _ z => nomatch z)
    · cases h
  | .glob x z, Γ, X, e, O, h => by
    rw [mE_glob] at h
    split at h
    · simp only [Bool.and_eq_true, decide_eq_true_eq] at h
      obtain ⟨⟨rfl, h2⟩, h3⟩ := h
      obtain ⟨g1, g2, g3⟩ := O.glob h2
      obtain ⟨⟨px, pz⟩, hp, hq⟩ := List.any_eq_true.mp h3
      simp only [Bool.and_eq_true, decide_eq_true_eq] at hq
      obtain ⟨rfl, hq⟩ := hq
      rcases O.gl _ hp with ⟨z', t, h1, ht⟩ | ⟨i, t, h1, ht⟩
      · obtain rfl : pz = .str z' := h1
        have : z = .str z' := by
          cases z <;> simp [eqK] at hq
          rw [hq]
        subst this
        exact .of (rd_const (pe_glob (v := .str z') g1 ht ⟨t, rfl⟩ g3) (fun _ => .str _) fun _ => rfl) (fun _ => rfl) (fun _ _ _ z => nomatch z)
      · obtain rfl : pz = .int i := h1
        have : z = .int i := by
          cases z <;> simp [eqK] at hq
          rw [hq]
        subst this
        exact .of (rd_const (pe_glob (v := .int i) g1 ht ⟨t, rfl⟩ g3) (fun _ => .int _) fun _ => rfl) (fun _ => rfl) (fun _ _ _ z => nomatch z)
    · cases h
  | .bin op a b, Γ, X, e, O, h => by
    rw [mE_bin] at h
    split at h
    · simp only [Bool.and_eq_true, decide_eq_true_eq] at h
      obtain ⟨⟨rfl, h2⟩, h3⟩ := h
      exact .of (rd_bin (snd a O h2).1 (snd b O h3).1) (fun _ => rfl) (fun _ _ _ z => nomatch z)
    · cases h
  | .cmp op a b, Γ, X, e, O, h => by
    rw [mE_cmp] at h
    split at h
    · simp only [Bool.and_eq_true, decide_eq_true_eq, Bool.not_eq_true'] at h
      obtain ⟨⟨⟨rfl, h2⟩, h3⟩, h4⟩ := h
      exact ⟨rd_cmp O.units (snd a O h2).1 (snd b O h3).1 h4, rt_cmp O.units (snd a O h2).1 (snd b O h3).1 h4, fun _ _ _ z => nomatch z⟩
    · cases h
  | .chain o1 o2 a b c, Γ, X, e, O, h => by
    rw [mE_chain] at h
    split at h
    · simp only [Bool.and_eq_true, decide_eq_true_eq, Bool.not_eq_true'] at h
      obtain ⟨⟨⟨⟨⟨rfl, rfl⟩, h2⟩, h3⟩, h4⟩, h5⟩ := h
      exact ⟨rd_chain O.units (snd a O h2).1 (snd b O h3).1 (snd c O h4).1 h5, rt_chain O.units (snd a O h2).1 (snd b O h3).1 (snd c O h4).1 h5, fun _ _ _ z => nomatch z⟩
    · cases h
  | .neg a, Γ, X, e, O, h => by
    rw [mE_neg] at h
    split at h
    · exact .of (rd_neg (snd a O h).1) (fun _ => rfl) (fun _ _ _ z => nomatch z)
    · cases h
  | .not a, Γ, X, e, O, h => by
    rw [mE_not] at h
    split at h
    · exact ⟨rd_not (snd a O h).1, rt_not (snd a O h).2.1, fun _ _ _ z => nomatch z⟩
    · cases h
  | .and a b, Γ, X, e, O, h => by
    rw [mE_and] at h
    simp only [Bool.and_eq_true] at h
    obtain ⟨⟨pa, pb⟩, h⟩ := h
    split at h
    · simp only [Bool.and_eq_true] at h
      obtain ⟨h1, h2⟩ := h
      have ha := snd a O h1
      split at h2
      · have hb := snd b O h2
        rename_i ps _
        have w := rt_and (pos := ps) ha.2.1 (pw_and1 hb.2.1)
        exact ⟨rd_and (ha.dat pa) (pe_one (hb.dat pb)), w.pt, fun _ _ _ _ => w⟩
      · have hb := snd b O h2
        have w := rt_and ha.2.1 (hb.2.2 _ _ _ rfl)
        exact ⟨rd_and (ha.dat pa) (hb.dat pb), w.pt, fun _ _ _ _ => w⟩
    · cases h
  | .or a b, Γ, X, e, O, h => by
    rw [mE_or] at h
    simp only [Bool.and_eq_true] at h
    obtain ⟨⟨pa, pb⟩, h⟩ := h
    have fr : ∀ {t : E} {e : Expr}, kdOf t = .fresh → Snd Γ n X ta t e → PE X e (tE X.K ta (callF Γ.B n) .fresh t) := fun {t e} hk hs => by have := hs.1; rw [hk] at this; exact this
    split at h
    · simp only [Bool.and_eq_true] at h
      obtain ⟨h1, h2⟩ := h
      have ha := snd a O h1
      split at h2
      · have hb := snd b O h2
        rename_i ps _
        have w := rt_or (pos := ps) ha.2.1 (pw_or1 hb.2.1)
        refine ⟨?_, w.pt, fun _ _ _ _ => w⟩
        show PE X _ (tE X.K ta (callF Γ.B n) (if kdOf a = .fresh ∧ kdOf b = .fresh then .fresh else .dat) (.or a b))
        split
        · rename_i hk
          exact rd_or (by decide) (fr hk.1 ha) (pe_one (fr hk.2 hb))
        · exact rd_or (by decide) (ha.dat pa) (pe_one (hb.dat pb))
      · have hb := snd b O h2
        have w := rt_or ha.2.1 (hb.2.2 _ _ _ rfl)
        refine ⟨?_, w.pt, fun _ _ _ _ => w⟩
        show PE X _ (tE X.K ta (callF Γ.B n) (if kdOf a = .fresh ∧ kdOf b = .fresh then .fresh else .dat) (.or a b))
        split
        · rename_i hk
          exact rd_or (by decide) (fr hk.1 ha) (fr hk.2 hb)
        · exact rd_or (by decide) (ha.dat pa) (hb.dat pb)
    · cases h
  | .ite c a b, Γ, X, e, O, h => by
    rw [mE_ite] at h
    simp only [Bool.and_eq_true] at h
    obtain ⟨⟨pa, pb⟩, h⟩ := h
    split at h
    · simp only [Bool.and_eq_true] at h
      obtain ⟨⟨h1, h2⟩, h3⟩ := h
      have hc := snd c O h1
      have ha := snd a O h2
      have hb := snd b O h3
      exact ⟨rd_ite hc.2.1 (ha.dat pa) (hb.dat pb), rt_ite hc.2.1 ha.2.1 hb.2.1, fun _ _ _ z => nomatch z⟩
    · cases h
  | .bi f es, Γ, X, e, O, h => by
    rw [mE_bi] at h
    split at h
    · simp only [Bool.and_eq_true, decide_eq_true_eq] at h
      obtain ⟨⟨rfl, h2⟩, h3⟩ := h
      obtain ⟨g1, g2, g3⟩ := O.glob h2
      obtain ⟨v1, v2, _⟩ := sndV es O h3
      exact .of (rd_bi O.calm O.units O.bi g1 g2 g3 v1 v2) (fun _ => rfl) (fun _ _ _ z => nomatch z)
    · cases h
  | .isi a ts tup, Γ, X, e, O, h => by
    rw [mE_isi] at h
    split at h
    · simp only [Bool.and_eq_true, decide_eq_true_eq] at h
      obtain ⟨⟨⟨⟨rfl, h2⟩, h3⟩, h4⟩, h5⟩ := h
      obtain ⟨g1, g2, g3⟩ := O.glob h2
      have ha := snd a O h4
      split at h5
      · simp only [Bool.and_eq_true, decide_eq_true_eq] at h5
        obtain ⟨h5, h6⟩ := h5
        have hl : ts.length ≤ 8 := by
          rw [tys_len h5] at h6; exact h6
        exact .of (rd_isiT O.bi g1 ha.1 h3 (pa_tys O.bi (fun x hx => O.glob hx) h5) hl) (fun _ => rfl) (fun _ _ _ z => nomatch z)
      · obtain ⟨T, rfl, hn⟩ := tys_one h5
        exact .of (rd_isi1 O.bi g1 ha.1 h3 (pa_tys O.bi (fun x hx => O.glob hx) h5) hn) (fun _ => rfl) (fun _ _ _ z => nomatch z)
      · cases h5
    · cases h
  | .tget i b, Γ, X, e, O, h => by
    rw [mE_tget] at h
    split at h
    · simp only [Bool.and_eq_true] at h
      obtain ⟨⟨h1, h2⟩, h3⟩ := h
      obtain ⟨g1, g2, g3, g4⟩ := O.var h1
      exact .of (rd_tget g1 g2 g3 g4 (snd b O h2).1 (plainIx h3)) (fun _ => rfl) (fun _ _ _ z => nomatch z)
    · cases h
  | .get a b, Γ, X, e, O, h => by
    rw [mE_get] at h
    split at h
    · simp only [Bool.and_eq_true] at h
      obtain ⟨⟨h1, h2⟩, h3⟩ := h
      exact .of (rd_get (snd a O h1).1 (snd b O h2).1 (plainIx h3)) (fun _ => rfl) (fun _ _ _ z => nomatch z)
    · cases h
  | .slice a lo hi, Γ, X, e, O, h => by
    rw [mE_slice] at h
    split at h
    · simp only [Bool.and_eq_true] at h
      obtain ⟨⟨h1, h2⟩, h3⟩ := h
      rename_i l hh _ _
      have q1 : PO X l (tP X.K ta (callF Γ.B n) lo) := by
        split at h2
        · exact rp_none h2
        · simp only [Bool.and_eq_true, Bool.not_eq_true'] at h2
          exact rp_some h2.1 (snd lo O h2.2).1
      have q2 : PO X hh (tP X.K ta (callF Γ.B n) hi) := by
        split at h3
        · exact rp_none h3
        · simp only [Bool.and_eq_true, Bool.not_eq_true'] at h3
          exact rp_some h3.1 (snd hi O h3.2).1
      exact .of (rd_slice (snd a O h1).1 q1 q2) (fun _ => rfl) (fun _ _ _ z => nomatch z)
    · cases h
  | .rev a, Γ, X, e, O, h => by
    rw [mE_rev] at h
    split at h
    · exact .of (rd_rev (snd a O h).1) (fun _ => rfl) (fun _ _ _ z => nomatch z)
    · cases h
  | .sset a, Γ, X, e, O, h => by
    rw [mE_sset] at h
    split at h
    · simp only [Bool.and_eq_true, decide_eq_true_eq] at h
      obtain ⟨⟨⟨⟨⟨rfl, rfl⟩, h3⟩, h4⟩, h5⟩, h6⟩ := h
      exact .of (rd_sset O.calm O.bi (O.glob h3).1 (O.glob h4).1 (snd a O h6).1 h5) (fun _ => rfl) (fun _ _ _ z => nomatch z)
    · cases h
  | .lst es, Γ, X, e, O, h => by
    rw [mE_lst] at h
    split at h
    · exact .of (rd_lst (sndI es O h)) (fun _ => rfl) (fun _ _ _ z => nomatch z)
    · cases h
  | .tup es, Γ, X, e, O, h => by
    rw [mE_tup] at h
    split at h
    · exact .of (rd_tup (sndI es O h)) (fun _ => rfl) (fun _ _ _ z => nomatch z)
    · cases h
  | .star _, Γ, X, e, O, h => by rw [mE_star] at h; cases h
  | .call f es, Γ, X, e, O, h => by
    rw [mE_call] at h
    split at h
    · simp only [Bool.and_eq_true] at h
      obtain ⟨⟨h1, h2⟩, h3⟩ := h
      obtain ⟨g1, g2, g3⟩ := O.glob h2
      obtain ⟨v1, v2, v3, v4, _⟩ := sndK es O h3
      exact .of (rd_call (fr := false) O (by obtain ⟨F, fa, fd, a1, a2, a3, a4, a5, _⟩ := fn_any O h1; exact ⟨F, fa, fd, a1, a2, a3, a4, a5⟩) g1 g3 v1 v2 fun z => by subst z; cases es with | nil => rfl | cons _ _ => simp at v4) (fun _ => rfl) (fun _ _ _ z => nomatch z)
    · cases h
  | .callN f es, Γ, X, e, O, h => by
    rw [mE_callN] at h
    split at h
    · simp only [Bool.and_eq_true] at h
      obtain ⟨⟨h1, h2⟩, h3⟩ := h
      obtain ⟨g1, g2, g3⟩ := O.glob h2
      obtain ⟨v1, v2, v3, v4, _⟩ := sndK es O h3
      exact .of (rd_call (fr := true) O (fn_new O h1) g1 g3 v1 v2 fun z => by subst z; cases es with | nil => rfl | cons _ _ => simp at v4) (fun _ => rfl) (fun _ _ _ z => nomatch z)
    · cases h
  | .callK f perm es ks, Γ, X, e, O, h => by
    rw [mE_callK] at h
    split at h
    · simp only [Bool.and_eq_true, decide_eq_true_eq] at h
      obtain ⟨⟨⟨⟨⟨h1, h2⟩, h3⟩, h4⟩, h5⟩, h6⟩ := h
      obtain ⟨g1, g2, g3⟩ := O.glob h2
      obtain ⟨v1, v2, v3, v4, _⟩ := sndK es O h4
      obtain ⟨w1, w3, w4⟩ := sndP ks O h5
      refine .of (rd_callK O h1 g1 g3 v1 v2 v4 (by rw [kw_len h3]; exact w4) w1 h3 h6 v3 w3) (fun _ => rfl) (fun _ _ _ z => nomatch z)
    · cases h
  | .callT f i es, Γ, X, e, O, h => by
    rw [mE_callT] at h
    split at h
    · simp only [Bool.and_eq_true] at h
      obtain ⟨⟨⟨h1, h2⟩, h3⟩, h4⟩ := h
      obtain ⟨g1, g2, g3⟩ := O.glob h2
      obtain ⟨k1, k2, k3, k4⟩ := O.var h3
      obtain ⟨v1, v2, v3, v4, _⟩ := sndK es O h4
      exact .of (rd_callT O h1 g1 g3 k1 k2 k3 k4 v1 v2) (fun _ => rfl) (fun _ _ _ z => nomatch z)
    · cases h
  | .callR f a es, Γ, X, e, O, h => by
    rw [mE_callR] at h
    split at h
    · simp only [Bool.and_eq_true, decide_eq_true_eq] at h
      obtain ⟨⟨⟨⟨⟨h1, h2⟩, h3⟩, h4⟩, h5⟩, h6⟩ := h
      obtain ⟨g1, g2, g3⟩ := O.glob h2
      obtain ⟨v1, v2, v3, v4, _⟩ := sndK es O h6
      have ha := (snd a O h5).1
      rw [h4] at ha
      exact .of (rd_callR O h1 g1 g3 ha h3 v1 v2) (fun _ => rfl) (fun _ _ _ z => nomatch z)
    · cases h
  | .comp elt tg ik src cond, Γ, X, e, O, h => by
    rw [mE_comp] at h
    split at h
    · simp only [Bool.and_eq_true, decide_eq_true_eq] at h
      obtain ⟨⟨⟨⟨⟨⟨⟨pe, h1⟩, h2⟩, h3⟩, _⟩, h4⟩, h5⟩, h6⟩ := h
      rename_i el t it ifs scope pos _
      have bo : BlkOk X.N X.env.scope scope (blkOf Γ tg) := by rw [O.N, O.sc]; exact blkOk_by h1
      have hi : PI X t it (tI X.K ta (callF Γ.B n) ik src) := src_ok O (fun xs hx => sndV src O hx) h6
      refine .of (rd_comp O.calm O.nd hi bo (blkOf_snd Γ tg) (fun s H C' cl fp => pg_T (O.blk s H scope cl C' fp).sto h2) (fun s H C' cl fp => ?_) (fun s H C' cl fp => (snd elt (O.blk s H scope cl C' fp) h4).dat pe) (foldSet h3) (pair_tg h6 h2)).2 (fun _ => rfl) (fun _ _ _ z => nomatch z)
      split at h5
      · exact pts_gone h5
      · simp only [Bool.and_eq_true, Bool.not_eq_true'] at h5
        exact pts_cond h5.1 (snd cond (O.blk s H scope cl C' fp) h5.2).2.1
      · cases h5
    · cases h
  | .comp2 elt tg ik src cond tg1 ik1 src1 cond1, Γ, X, e, O, h => by
    rw [mE_comp2] at h
    split at h
    · simp only [Bool.and_eq_true, decide_eq_true_eq] at h
      obtain ⟨⟨⟨⟨⟨⟨⟨⟨⟨⟨⟨pe, h1⟩, h2⟩, h3⟩, h4⟩, h5⟩, _⟩, h7⟩, h8⟩, h9⟩, h10⟩, h11⟩ := h
      rename_i el t it ifs t1 it1 ifs1 scope pos _
      have bo : BlkOk X.N X.env.scope scope (blkOf2 Γ tg tg1) := by rw [O.N, O.sc]; exact blkOk_by h1
      refine .of (rd_comp2 O.calm O.nd (src_ok O (fun xs hx => sndV src O hx) h10) bo (blkOf2_snd Γ tg tg1) (fun s H C' cl fp => pg_T (O.blk s H scope cl C' fp).sto h2) (fun s H C' cl fp => ?_)
        (fun s H C' cl fp => srcf_ok (O.blk s H scope cl C' fp) (fun xs hx => sndV src1 (O.blk s H scope cl C' fp) hx) (fun xs hx => sndK src1 (O.blk s H scope cl C' fp) hx) h11) (fun s H C' cl fp => pg_T (O.blk s H scope cl C' fp).sto h3) (fun s H C' cl fp => ?_)
        (fun s H C' cl fp => (snd elt (O.blk s H scope cl C' fp) h7).dat pe) (foldSet h4) (fun env => foldSet h5) (pair_tg h10 h2) (pair_tg h11 h3)).2 (fun _ => rfl) (fun _ _ _ z => nomatch z)
      · split at h8
        · exact pts_gone h8
        · simp only [Bool.and_eq_true, Bool.not_eq_true'] at h8
          exact pts_cond h8.1 (snd cond (O.blk s H scope cl C' fp) h8.2).2.1
        · cases h8
      · split at h9
        · exact pts_gone h9
        · simp only [Bool.and_eq_true, Bool.not_eq_true'] at h9
          exact pts_cond h9.1 (snd cond1 (O.blk s H scope cl C' fp) h9.2).2.1
        · cases h9
    · cases h
  | .dcomp ke ve tg ik src cond, Γ, X, e, O, h => by
    rw [mE_dcomp] at h
    split at h
    · simp only [Bool.and_eq_true, decide_eq_true_eq] at h
      obtain ⟨⟨⟨⟨⟨⟨⟨⟨⟨pk, pv⟩, h1⟩, h2⟩, h3⟩, _⟩, h4⟩, h5⟩, h6⟩, h7⟩ := h
      rename_i kx vx t it ifs scope pos _
      have bo : BlkOk X.N X.env.scope scope (blkOf Γ tg) := by rw [O.N, O.sc]; exact blkOk_by h1
      refine .of (rd_dcomp O.calm O.nd (src_ok O (fun xs hx => sndV src O hx) h7) bo (blkOf_snd Γ tg) (fun s H C' cl fp => pg_T (O.blk s H scope cl C' fp).sto h2) (fun s H C' cl fp => ?_) (fun s H C' cl fp => (snd ke (O.blk s H scope cl C' fp) h4).dat pk)
        (fun s H C' cl fp => (snd ve (O.blk s H scope cl C' fp) h5).dat pv) (foldSet h3) (pair_tg h7 h2)) (fun _ => rfl) (fun _ _ _ z => nomatch z)
      split at h6
      · exact pts_gone h6
      · simp only [Bool.and_eq_true, Bool.not_eq_true'] at h6
        exact pts_cond h6.1 (snd cond (O.blk s H scope cl C' fp) h6.2).2.1
      · cases h6
    · cases h
  | .dic0, Γ, X, e, O, h => by
    rw [mE_dic0] at h
    split at h
    · exact .of rd_dic0 (fun _ => rfl) (fun _ _ _ z => nomatch z)
    · cases h
  | .dic1 a b, Γ, X, e, O, h => by
    rw [mE_dic1] at h
    split at h
    · simp only [Bool.and_eq_true] at h
      obtain ⟨⟨⟨p1, p2⟩, h1⟩, h2⟩ := h
      exact .of (rd_dic1 ((snd a O h1).dat p1) ((snd b O h2).dat p2)) (fun _ => rfl) (fun _ _ _ z => nomatch z)
    · cases h
  | .dget a k x, Γ, X, e, O, h => by
    rw [mE_dget] at h
    split at h
    · simp only [Bool.and_eq_true, decide_eq_true_eq] at h
      obtain ⟨⟨⟨⟨⟨⟨⟨⟨rfl, h2⟩, h3⟩, h4⟩, h5⟩, h6⟩, h7⟩, h8⟩, h9⟩ := h
      exact .of (rd_dget O.units (snd a O h7).1 (snd k O h8).1 ((snd x O h9).dat h6) h2 h3 h4 h5) (fun _ => rfl) (fun _ _ _ z => nomatch z)
    · cases h
  | .sitm a, Γ, X, e, O, h => by rw [mE_sitm] at h; cases h
  | .absent, Γ, X, e, O, h => by rw [mE_absent] at h; cases h
theorem sndV : ∀ (ts : List E) {Γ : Cn} {X : Cx} {xs : List Expr} (O : XOk Γ n X), mEs ts Γ xs = true → PA X xs (tV X.K ta (callF Γ.B n) ts) ∧ noStars xs = true ∧ (∀ t ∈ ts, notStarE t = true) ∧ xs.length = ts.length ∧ ∀ t x, ts = [t] → xs = [x] → Snd Γ n X ta t x
  | [], Γ, X, xs, O, h => by
    cases xs with
    | nil => exact ⟨rv_nil, rfl, by simp, rfl, fun _ _ z => nomatch z⟩
    | cons _ _ => rw [mEs_nil] at h; cases h
  | t :: r, Γ, X, xs, O, h => by
    cases xs with
    | nil => rw [mEs_cons] at h; cases h
    | cons x q =>
      rw [mEs_cons] at h
      simp only [Bool.and_eq_true] at h
      obtain ⟨⟨h1, h2⟩, h3⟩ := h
      obtain ⟨v1, v2, v3, v4, _⟩ := sndV r O h3
      have ht := snd t O h2
      refine ⟨rv_cons ht.1 v1 h1 (notStar_of h2), by simp [noStars, h1, v2], fun u hu => ?_, by simp [v4], fun t0 x0 z1 z2 => by cases z1; cases z2; exact ht⟩
      rcases List.mem_cons.mp hu with z | z
      · rw [z]; exact notStar_of h2
      · exact v3 u z
theorem sndK : ∀ (ts : List E) {Γ : Cn} {X : Cx} {xs : List Expr} (O : XOk Γ n X), mDs ts Γ xs = true → PA X xs (tK X.K ta (callF Γ.B n) ts) ∧ noStars xs = true ∧ (∀ t ∈ ts, notStarE t = true) ∧ xs.length = ts.length ∧ ∀ t x, ts = [t] → xs = [x] → PE X x (tE X.K ta (callF Γ.B n) .dat t)
  | [], Γ, X, xs, O, h => by
    cases xs with
    | nil => exact ⟨rk_nil, rfl, by simp, rfl, fun _ _ z => nomatch z⟩
    | cons _ _ => rw [mDs_nil] at h; cases h
  | t :: r, Γ, X, xs, O, h => by
    cases xs with
    | nil => rw [mDs_cons] at h; cases h
    | cons x q =>
      rw [mDs_cons] at h
      simp only [Bool.and_eq_true] at h
      obtain ⟨⟨⟨h1, hp⟩, h2⟩, h3⟩ := h
      obtain ⟨v1, v2, v3, v4, _⟩ := sndK r O h3
      have ht := (snd t O h2).dat hp
      refine ⟨rk_cons ht v1 h1 (notStar_of h2), by simp [noStars, h1, v2], fun u hu => ?_, by simp [v4], fun t0 x0 z1 z2 => by cases z1; cases z2; exact ht⟩
      rcases List.mem_cons.mp hu with z | z
      · rw [z]; exact notStar_of h2
      · exact v3 u z
theorem sndP : ∀ (ts : List E) {Γ : Cn} {X : Cx} {kws : List Keyword} (O : XOk Γ n X), mDs ts Γ (kwVals kws) = true → PK X kws (tK X.K ta (callF Γ.B n) ts) ∧ (∀ t ∈ ts, notStarE t = true) ∧ kws.length = ts.length
  | [], Γ, X, kws, O, h => by
    cases kws with
    | nil => exact ⟨pk_nilK, by simp, rfl⟩
    | cons k _ => cases k; rw [mDs_nil] at h; cases h
  | t :: r, Γ, X, kws, O, h => by
    cases kws with
    | nil => rw [mDs_cons] at h; cases h
    | cons k q =>
      obtain ⟨nm, x, kp⟩ := k
      rw [mDs_cons] at h
      simp only [kwVals, Bool.and_eq_true] at h
      obtain ⟨⟨⟨h1, hp⟩, h2⟩, h3⟩ := h
      obtain ⟨v1, v3, v4⟩ := sndP r O h3
      refine ⟨pk_consK ((snd t O h2).dat hp) v1 (notStar_of h2), fun u hu => ?_, by simp [v4]⟩
      rcases List.mem_cons.mp hu with z | z
      · rw [z]; exact notStar_of h2
      · exact v3 u z
theorem sndI : ∀ (ts : List E) {Γ : Cn} {X : Cx} {xs : List Expr} (O : XOk Γ n X), mIs ts Γ xs = true → PA X xs (tK X.K ta (callF Γ.B n) ts)
  | [], Γ, X, xs, O, h => by
    cases xs with
    | nil => exact rk_nil
    | cons _ _ => rw [mIs_nil] at h; cases h
  | .star t :: r, Γ, X, xs, O, h => by
    simp only [mIs] at h
    split at h
    · simp only [Bool.and_eq_true] at h
      exact rk_star (snd t O h.1).1 (sndI r O h.2)
    · cases h
  | t :: r, Γ, X, xs, O, h => by
    by_cases hs : notStarE t = true
    · rw [mIs_cons hs] at h
      cases xs with
      | nil => simp at h
      | cons x q =>
        simp only [Bool.and_eq_true] at h
        obtain ⟨⟨⟨h1, hp⟩, h2⟩, h3⟩ := h
        exact rk_cons ((snd t O h2).dat hp) (sndI r O h3) h1 hs
    · cases t <;> first | (exact absurd rfl hs) | skip
      rename_i t0
      simp only [mIs] at h
      split at h
      · simp only [Bool.and_eq_true] at h
        exact rk_star (snd t0 O h.1).1 (sndI r O h.2)
      · cases h
end
end
end KN

set_option maxRecDepth 100000
set_option maxHeartbeats 4000000
namespace KN
open PySem L2 PyProof.Rows
/-! ### the text of statements -/
def isStarE : Expr → Bool
  | .Starred .. => true
  | _ => false
/-- how a, b = x, y is stored: some (some names): name by name; some none: by a tuple -/
def swN (sc : Scope) (ts vs : List Expr) : Option (Option (List Str)) :=
  if !(ts.length == 2 || ts.length == 3) || vs.length != ts.length then some none else
  if vs.any fun | .Starred .. => true | _ => false then some none else
  let line := (ts.head?.map (·.pos.line)).getD 0
  let names := ts.filterMap fun
    | .Name id pos => if sc.names.lookup id == some .local && pos.line == line then some id else none
    | _ => none
  if names.length != ts.length || names.eraseDups.length != names.length then some none else
  if vs.all (foldedForSure 8) then some none else
  if vs.all (constantsAlone 8) then none else some (some names)
def isComp : Expr → Bool
  | .ListComp .. => true
  | .SetComp .. => true
  | .DictComp .. => true
  | _ => false
def isTupV : Expr → Bool
  | .Tuple .. => true
  | _ => false
/-- name = value: stored within a comprehension's frame? some true: yes -/
def swC (sc : Scope) (x : Str) (px : Pos) (v : Expr) : Bool := match v with
  | .ListComp _ _ scope p => (sc.names.lookup x == some .local) && (px.line == p.line) && !(scope.names.any fun (n, k) => n == x && (k == .local || k == .cell))
  | _ => false
def isEComp : E → Bool
  | .comp _ _ _ _ _ => true
  | .comp2 _ _ _ _ _ _ _ _ _ => true
  | _ => false
def mSrc (ik : IK) (src : List E) (Γ : Cn) (t it : Expr) : Bool := srcB ik Γ t it (fun xs => mDs src Γ xs) (fun xs => mEs src Γ xs)
/-- the values of a parallel assignment: those to be one's own are new -/
def mPs : List (Nat × Bool) → List E → Cn → List Expr → Bool
  | [], [], _, [] => true
  | (_, b) :: ts, t :: r, Γ, x :: q => notStar x && (if b then decide (kdOf t = .fresh) else plain t) && mE t Γ x && mPs ts r Γ q
  | _, _, _, _ => false
def locsOk (Γ : Cn) : List (Nat × Bool) → List Expr → List Str → Bool
  | [], [], [] => true
  | (i, _) :: ts, .Name x _ :: es, y :: ys => decide (Γ.N[i]? = some x) && decide (x = y) && decide (Γ.sc.names.lookup x = some .local) && locsOk Γ ts es ys
  | _, _, _ => false
mutual
def mS (fr : Bool) : S → Cn → Stmt → Bool
  | .asg i e, Γ, s => (match s with
    | .Assign [.Name x px] v _ => decide (Γ.N[i]? = some x) && stOk Γ x && plain e && mE e Γ v && (!isComp v || isEComp e)
    | _ => false)
  | .asgO i e, Γ, s => (match s with
    | .Assign [.Name x px] v _ => decide (Γ.N[i]? = some x) && stOk Γ x && decide (kdOf e = .fresh) && mE e Γ v && (!isComp v || isEComp e)
    | _ => false)
  | .unp is e, Γ, s => (match s with
    | .Assign [.Tuple ts k p] v _ => mNames Γ is ts && plain e && mE e Γ v && (match v with
      | .Tuple vs _ _ => decide (swN Γ.sc ts vs = some none)
      | _ => true)
    | _ => false)
  | .par ts es, Γ, s => (match s with
    | .Assign [.Tuple tg _ _] (.Tuple vs _ _) _ => mNames Γ (ts.map (·.1)) tg && decide ((ts.map (·.1)).Nodup) && mPs ts es Γ vs && noStars vs && (match swN Γ.sc tg vs with
      | some (some ns) => locsOk Γ ts tg ns && decide (ts.length = 2 ∨ ts.length = 3)
      | some none => decide (ts.length ≤ 8)
      | none => false)
    | _ => false)
  | .sto i ix e, Γ, s => (match s with
    | .Assign [.Subscript (.Name x _) k _] v _ => nameOk Γ i x && plain e && mE e Γ v && mE ix Γ k && notSlice k
    | _ => false)
  | .stoT i ix e, Γ, s => (match s with
    | .Assign [.Subscript (.Name x _) k _] v _ => nameOk Γ i x && plain e && mE e Γ v && mE ix Γ k && notSlice k
    | _ => false)
  | .app i e, Γ, s => (match s with
    | .Expr (.Call (.Attribute (.Name x _) m ap) [v] [] cp) _ => decide (m = "append") && nameOk Γ i x && notStar v && plain e && mE e Γ v && (ap.endLine == cp.line)
    | _ => false)
  | .extd i e, Γ, s => (match s with
    | .Expr (.Call (.Attribute (.Name x _) m ap) [v] [] cp) _ => decide (m = "extend") && nameOk Γ i x && notStar v && mE e Γ v && (ap.endLine == cp.line)
    | _ => false)
  | .pop tg i, Γ, s => (match s with
    | .Assign [t] (.Call (.Attribute (.Name x _) m ap) [] [] cp) _ => decide (m = "pop") && nameOk Γ i x && mTg Γ tg t && !tg.slots.contains i && (ap.endLine == cp.line)
    | _ => false)
  | .rais, _, s => (match s with
    | .Raise _ _ _ => true
    | _ => false)
  | .expr e, Γ, s => (match s with
    | .Expr v _ => mE e Γ v && !isComp v
    | _ => false)
  | .ret e, Γ, s => (match s with
    | .Return (some v) _ => mE e Γ v && (if fr then decide (kdOf e = .fresh) else plain e)
    | _ => false)
  | .ite c a b, Γ, s => (match s with
    | .If t p q _ => mE c Γ t && mSs fr a Γ p && mSs fr b Γ q
    | _ => false)
  | .loop tg ik src body, Γ, s => (match s with
    | .For t it p [] _ => mTg Γ tg t && notSet it && mSrc ik src Γ t it && mSs fr body Γ p
    | _ => false)
  | .while _ c body, Γ, s => (match s with
    | .While t p [] _ => mE c Γ t && mSs fr body Γ p
    | _ => false)
  | .cont, Γ, s => (match s with
    | .Continue _ => true
    | _ => false)
  | .pass, Γ, s => (match s with
    | .Pass _ => true
    | _ => false)
  | .frz _, _, _ => false
def mSs (fr : Bool) : List S → Cn → List Stmt → Bool
  | [], _, ss => ss.isEmpty
  | .frz _ :: r, Γ, ss => mSs fr r Γ ss
  | t :: r, Γ, ss => (match ss with
    | s :: q => mS fr t Γ s && mSs fr r Γ q
    | [] => false)
end
/-! ### states of a def's body -/
structure RelS (K : Fg) (ta : Option Addr) (G₀ H₀ G : Hp) (σ : L2.St) (H : Hp) (ρ : En) (τ : List D) : Prop where
  rel : Rel K ta G σ H ρ τ
  ext : Ext ta G₀ H₀ G H
  new : ∀ (i : Nat) ds a, ρ[i]? = some (some (.own ds)) → σ[i]? = some (some (.ref a)) → H₀ a = none
section
variable {K : Fg} {ta : Option Addr} {G₀ H₀ G H G' H' : Hp} {σ : L2.St} {ρ : En} {τ τ' : List D} {v : V} {d : D}
/-- behind an expression -/
theorem RelS.step (S : RelS K ta G₀ H₀ G σ H ρ τ) (x : Ext ta G H G' H') (r : Rel K ta G' σ H' ρ τ') : RelS K ta G₀ H₀ G' σ H' ρ τ' := ⟨r, S.ext.trans x, S.new⟩
theorem RelS.setDat (S : RelS K ta G₀ H₀ G σ H ρ τ) (h : DR K G v d) (i : Nat) : RelS K ta G₀ H₀ G (σ.set i (some v)) H (ρ.set i (some (.dat d))) τ := by
  refine ⟨S.rel.setDat h i, S.ext, fun j ds a e1 e2 => ?_⟩
  rcases get_set e1 with ⟨rfl, _, z⟩ | ⟨hj, e1⟩
  · cases z
  · rw [List.getElem?_set_ne (Ne.symm hj)] at e2
    exact S.new j ds a e1 e2
/-- a list of one's own to a slot -/
theorem RelS.setOwn (S : RelS K ta G₀ H₀ G σ H ρ τ) {a : Addr} {o : HO} {ds : Od} (h0 : H₀ a = none) (ht : ta ≠ some a) (hG : G a = none) (hH : H a = some o) (dr : OwR K G o ds) (hn : ∀ (j : Nat) es, ρ[j]? = some (some (.own es)) → σ[j]? ≠ some (some (.ref a))) (i : Nat) :
    RelS K ta G₀ H₀ G (σ.set i (some (.ref a))) H (ρ.set i (some (.own ds))) τ := by
  have R := S.rel
  have ne : ∀ {j : Nat}, j ≠ i → (σ.set i (some (V.ref a)))[j]? = σ[j]? := fun {j} hj => List.getElem?_set_ne (Ne.symm hj)
  refine ⟨⟨R.sub, R.tin, fun j d' e => ?_, fun j es e => ?_, fun j k es fs b hjk e1 e2 e3 => ?_, fun j e => ?_, by rw [List.length_set, List.length_set]; exact R.len⟩, S.ext, fun j es b e1 e2 => ?_⟩
  · rcases get_set e with ⟨rfl, hl, z⟩ | ⟨hj, e⟩
    · cases z
    · rw [ne hj]; exact R.dat j d' e
  · rcases get_set e with ⟨rfl, hl, z⟩ | ⟨hj, e⟩
    · cases z
      exact ⟨a, o, List.getElem?_set_self (Nat.lt_of_lt_of_le hl R.len), ht, hG, hH, dr⟩
    · rw [ne hj]; exact R.own j es e
  · rcases get_set e1 with ⟨rfl, hl, z⟩ | ⟨hj, e1⟩
    · rcases get_set e2 with ⟨rfl, _, _⟩ | ⟨hk, e2⟩
      · exact absurd rfl hjk
      · rw [List.getElem?_set_self (Nat.lt_of_lt_of_le hl R.len)] at e3
        cases e3
        rw [ne hk]
        exact hn k fs e2
    · have e1' := e1
      rcases get_set e2 with ⟨z0, hl, z⟩ | ⟨hk, e2⟩
      · rw [ne hj] at e3
        rw [z0, List.getElem?_set_self (Nat.lt_of_lt_of_le hl R.len)]
        intro z2
        cases z2
        exact hn j es e1' e3
      · rw [ne hj] at e3
        rw [ne hk]
        exact R.apart j k es fs b hjk e1 e2 e3
  · rcases get_set e with ⟨rfl, hl, z⟩ | ⟨hj, e⟩
    · cases z
    · rw [ne hj]; exact R.tn j e
  · rcases get_set e1 with ⟨rfl, hl, z⟩ | ⟨hj, e1⟩
    · rw [List.getElem?_set_self (Nat.lt_of_lt_of_le hl R.len)] at e2
      cases e2
      exact h0
    · rw [ne hj] at e2
      exact S.new j es b e1 e2
/-- one's own list is changed -/
theorem RelS.write (S : RelS K ta G₀ H₀ G σ H ρ τ) {i : Nat} {a : Addr} {es : Od} {o : HO} {ds : Od} (ho : ρ[i]? = some (some (.own es))) (hs : σ[i]? = some (some (.ref a))) (dr : OwR K G o ds) :
    RelS K ta G₀ H₀ G σ (upd H a o) (ρ.set i (some (.own ds))) τ := by
  have R := S.rel
  obtain ⟨a', ws, q1, q2, q3, q4, q5⟩ := R.own i es ho
  rw [hs] at q1
  cases q1
  have h0 : H₀ a = none := S.new i es a ho hs
  have il : i < ρ.length := (List.getElem?_eq_some_iff.mp ho).1
  refine ⟨⟨fun b u h => ?_, fun b e => ?_, fun j d' e => ?_, fun j fs e => ?_, fun j k fs gs b hjk e1 e2 e3 => ?_, fun j e => ?_, by rw [List.length_set]; exact R.len⟩, S.ext.updNew h0, fun j fs b e1 e2 => ?_⟩
  · rw [upd_ne (fun z => by subst z; rw [q3] at h; cases h)]; exact R.sub b u h
  · obtain ⟨h1, us, h2, h3⟩ := R.tin b e
    exact ⟨h1, us, by rw [upd_ne (fun z => q2 (by rw [e, z]))]; exact h2, h3⟩
  · rcases get_set e with ⟨rfl, hl, z⟩ | ⟨hj, e⟩
    · cases z
    · exact R.dat j d' e
  · rcases get_set e with ⟨rfl, hl, z⟩ | ⟨hj, e⟩
    · cases z
      exact ⟨a, o, hs, q2, q3, upd_same, dr⟩
    · obtain ⟨b, us, h1, h2, h3, h4, h5⟩ := R.own j fs e
      refine ⟨b, us, h1, h2, h3, ?_, h5⟩
      rw [upd_ne (fun z => by subst z; exact R.apart j i fs es b hj e ho h1 hs)]
      exact h4
  · have back : ∀ {j : Nat} {fs : Od}, (ρ.set i (some (.own ds)))[j]? = some (some (.own fs)) → ∃ fs', ρ[j]? = some (some (.own fs')) := fun {j fs} e => by
      rcases get_set e with ⟨rfl, _, _⟩ | ⟨_, e⟩
      · exact ⟨es, ho⟩
      · exact ⟨fs, e⟩
    obtain ⟨f1, k1⟩ := back e1
    obtain ⟨f2, k2⟩ := back e2
    exact R.apart j k f1 f2 b hjk k1 k2 e3
  · rcases get_set e with ⟨rfl, hl, z⟩ | ⟨hj, e⟩
    · cases z
    · exact R.tn j e
  · rcases get_set e1 with ⟨rfl, hl, z⟩ | ⟨hj, e1⟩
    · rw [hs] at e2
      cases e2
      exact h0
    · exact S.new j fs b e1 e2
/-- the box is changed -/
theorem RelS.box (S : RelS K (some a) G₀ H₀ G σ H ρ τ) {vs : List V} {ds : List D} (dr : DRs K G vs ds) : RelS K (some a) G₀ H₀ G σ (upd H a (.lst vs)) ρ ds := by
  have R := S.rel
  obtain ⟨h1, us, h2, h3⟩ := R.tin a rfl
  refine ⟨⟨fun b u h => ?_, fun b e => ?_, R.dat, fun j fs e => ?_, R.apart, R.tn, R.len⟩, ⟨S.ext.g, S.ext.new, fun b u n h => ?_, fun b u h => ?_⟩, S.new⟩
  · rw [upd_ne (fun z => by subst z; rw [h1] at h; cases h)]; exact R.sub b u h
  · cases e
    exact ⟨h1, vs, upd_same, dr⟩
  · obtain ⟨b, us, k1, k2, k3, k4, k5⟩ := R.own j fs e
    exact ⟨b, us, k1, k2, k3, by rw [upd_ne (fun z => k2 (by rw [z]))]; exact k4, k5⟩
  · rw [upd_ne (fun z => n (by rw [z]))]; exact S.ext.keep b u n h
  · obtain ⟨o, e⟩ := S.ext.there b u h
    by_cases z : b = a
    · subst z; exact ⟨_, upd_same⟩
    · exact ⟨o, by rw [upd_ne z]; exact e⟩
/-- one's own list is laid to the frozen part -/
theorem RelS.freeze (S : RelS K ta G₀ H₀ G σ H ρ τ) {i : Nat} {es : Od} (ho : ρ[i]? = some (some (.own es))) : ∃ G', Same G G' ∧ RelS K ta G₀ H₀ G' σ H (ρ.set i (some (.dat es.data))) τ := by
  have R := S.rel
  obtain ⟨a, ws, q1, q2, q3, q4, q5⟩ := R.own i es ho
  have h0 : H₀ a = none := S.new i es a ho q1
  have sm : Same G (upd G a ws) := fun b o h => by rw [upd_ne (ne_of_none h q3)]; exact h
  refine ⟨upd G a ws, sm, ⟨fun b u h => ?_, fun b e => ?_, fun j d' e => ?_, fun j fs e => ?_, fun j k fs gs b hjk e1 e2 e3 => ?_, fun j e => ?_, by rw [List.length_set]; exact R.len⟩, ⟨S.ext.g.trans sm, fun b u h => ?_, S.ext.keep, S.ext.there⟩, fun j fs b e1 e2 => ?_⟩
  · by_cases z : b = a
    · subst z; rw [upd_same] at h; cases h; exact q4
    · rw [upd_ne z] at h; exact R.sub b u h
  · obtain ⟨h1, us, h2, h3⟩ := R.tin b e
    exact ⟨by rw [upd_ne (fun z => q2 (by rw [e, z]))]; exact h1, us, h2, h3.same sm⟩
  · rcases get_set e with ⟨rfl, hl, z⟩ | ⟨hj, e⟩
    · cases z
      exact ⟨_, q1, q5.dr sm upd_same⟩
    · obtain ⟨w, k1, k2⟩ := R.dat j d' e
      exact ⟨w, k1, k2.same sm⟩
  · rcases get_set e with ⟨rfl, hl, z⟩ | ⟨hj, e⟩
    · cases z
    · obtain ⟨b, us, h1, h2, h3, h4, h5⟩ := R.own j fs e
      exact ⟨b, us, h1, h2, by rw [upd_ne (fun z => by subst z; exact R.apart j i fs es b hj e ho h1 q1)]; exact h3, h4, h5.same sm⟩
  · rcases get_set e1 with ⟨rfl, _, z⟩ | ⟨_, e1⟩
    · cases z
    · rcases get_set e2 with ⟨rfl, _, z⟩ | ⟨_, e2⟩
      · cases z
      · exact R.apart j k fs gs b hjk e1 e2 e3
  · rcases get_set e with ⟨rfl, hl, z⟩ | ⟨hj, e⟩
    · cases z
    · exact R.tn j e
  · by_cases z : b = a
    · subst z; exact .inr h0
    · rw [upd_ne z] at h; exact S.ext.new b u h
  · rcases get_set e1 with ⟨rfl, _, z⟩ | ⟨_, e1⟩
    · cases z
    · exact S.new j fs b e1 e2
end
end KN

set_option maxRecDepth 100000
set_option maxHeartbeats 4000000
namespace KN
open PySem L2 PyProof.Rows
def FinO (K : Fg) (ta : Option Addr) (G₀ H₀ G : Hp) (kr : Kd) (Dn : Ends) (τ' : List D) : Out → Prop
  | .nx ρ' => ∀ σ' G' H', Same G G' → RelS K ta G₀ H₀ G' σ' H' ρ' τ' → Dn.nx σ' H'
  | .ct ρ' => ∀ σ' G' H', Same G G' → RelS K ta G₀ H₀ G' σ' H' ρ' τ' → Dn.ct σ' H'
  | .rt d => ∀ v G' H', Ext ta G₀ H₀ G' H' → Same G' H' → TinOk K ta G' H' τ' → Val K ta H₀ G' H' kr v d → Dn.rt v H'
def tS (K : Fg) (ta : Option Addr) (G₀ H₀ : Hp) (kr : Kd) (run : En → M Out) : TS := fun Dn σ H => ∃ G ρ τ o τ', RelS K ta G₀ H₀ G σ H ρ τ ∧ run ρ τ = some (o, τ') ∧ FinO K ta G₀ H₀ G kr Dn τ' o
section
variable {X : Cx} {ta : Option Addr} {G₀ H₀ : Hp} {kr : Kd} {C : Nat → List D → M D} {st : Stmt}
theorem tE_of {K : Fg} {k : Kd} {e : E} {G H : Hp} {σ : L2.St} {ρ : En} {τ τ1 : List D} {d : D} {Q : VK} (S : RelS K ta G₀ H₀ G σ H ρ τ) (e1 : evE C e ρ τ = some (d, τ1)) (q : ∀ v G1 H1, Same G G1 → RelS K ta G₀ H₀ G1 σ H1 ρ τ1 → Ext ta G H G1 H1 → Val K ta H G1 H1 k v d → Q v H1) : tE K ta C k e σ H Q :=
  ⟨G, ρ, τ, d, τ1, S.rel, e1, fun v G1 H1 x1 R1 w1 => q v G1 H1 x1.g (S.step x1 R1) x1 w1⟩
/-! names -/
theorem rs_asg {i : Nat} {e : E} {k : Kd} {te : TE} (hk : k ≠ .peek) (imp : ∀ σ H Q, tE X.K ta C k e σ H Q → te σ H Q) (h : PS X st (tAsg te (gName i))) : PS X st (tS X.K ta G₀ H₀ kr (evS C (.asg i e))) :=
  PS.mono h fun Dn σ H h => by
    obtain ⟨G, ρ, τ, o, τ', S, e0, fin⟩ := h
    obtain ⟨d, τ1, e1, f1⟩ := bnd_some (x := evE C e ρ) e0
    cases ret_some f1
    refine imp σ H _ (tE_dat hk σ H _ (tE_of (k := .dat) S e1 fun v G1 H1 sm S1 _ w => ?_))
    exact fin _ G1 H1 sm (S1.setDat w i)
theorem rs_asgO {i : Nat} {e : E} {te : TE} (imp : ∀ σ H Q, tE X.K ta C .fresh e σ H Q → te σ H Q) (h : PS X st (tAsg te (gName i))) : PS X st (tS X.K ta G₀ H₀ kr (evS C (.asgO i e))) :=
  PS.mono h fun Dn σ H h => by
    obtain ⟨G, ρ, τ, o, τ', S, e0, fin⟩ := h
    obtain ⟨d, τ1, e1, f1⟩ := bnd_some (x := evE C e ρ) e0
    obtain ⟨ds, τ2, e2, f2⟩ := bnd_some f1
    obtain ⟨g2, rfl⟩ := of_some e2
    cases ret_some f2
    refine imp σ H _ (tE_of (k := .fresh) S e1 fun v G1 H1 sm S1 x1 w => ?_)
    rcases w with ⟨_, z⟩ | ⟨a, ob, fs, rfl, hfs, h0, hta, hga, hha, dr⟩
    · exact absurd g2 (by cases d <;> simp [odP] <;> cases z)
    · have : ds = fs := by subst hfs; cases fs <;> cases g2 <;> rfl
      subst this
      refine fin _ G1 H1 sm (S1.setOwn (S.ext.none_of h0) hta hga hha dr (fun j es' ej hj => ?_) i)
      exact S.rel.ownThere j es' ej a hj h0
/-! a target of several names -/
theorem gNsS_ok {K : Fg} {G H : Hp} {τ : List D} {ρ' : En} {Q : L2.St → Hp → Prop} : ∀ {is : List Nat} {us : List V} {ds : List D} {σ : L2.St} {ρ : En}, RelS K ta G₀ H₀ G σ H ρ τ → DRs K G us ds → setDs is ds ρ = some ρ' →
    (∀ σ', RelS K ta G₀ H₀ G σ' H ρ' τ → Q σ' H) → gNs is us σ H Q
  | [], _, _, σ, ρ, R, .nil, e, q => by
    cases e
    exact ⟨rfl, q σ R⟩
  | [], _, _, σ, ρ, R, .cons _ _, e, q => by cases e
  | i :: is, _, _, σ, ρ, R, .nil, e, q => by cases e
  | i :: is, _, _, σ, ρ, R, .cons h r, e, q => ⟨_, _, rfl, gNsS_ok (R.setDat h i) r e q⟩
theorem gTS_ok {K : Fg} {G H : Hp} {σ : L2.St} {ρ ρ' : En} {τ : List D} {v : V} {d : D} {Q : L2.St → Hp → Prop} {tg : Tg} (R : RelS K ta G₀ H₀ G σ H ρ τ) (h : ItR K G H tg v d) (e : setTg tg d ρ = some ρ') (q : ∀ σ', RelS K ta G₀ H₀ G σ' H ρ' τ → Q σ' H) : gT K tg v σ H Q := by
  cases tg with
  | nm i =>
    cases e
    rcases h with h | ⟨⟨is, z⟩, _⟩
    · exact q _ (R.setDat h i)
    · cases z
  | tup is =>
    rcases h with h | ⟨_, a, xs, ds, rfl, rfl, hs, dr⟩
    · cases d with
      | tuple ds =>
        cases h with
        | tup hs dr => exact ⟨_, _, rfl, SqT.same R.rel.sub hs.sq, by rw [dr.length]; exact setDs_len e, gNsS_ok R dr e q⟩
      | _ => cases e
    · exact ⟨_, _, rfl, hs, by rw [dr.length]; exact setDs_len e, gNsS_ok R dr e q⟩
theorem rs_unp {is : List Nat} {e : E} (h : PS X st (tAsg (tE X.K ta C .dat e) (gT X.K (.tup is)))) : PS X st (tS X.K ta G₀ H₀ kr (evS C (.unp is e))) :=
  PS.mono h fun Dn σ H h => by
    obtain ⟨G, ρ, τ, o, τ', S, e0, fin⟩ := h
    obtain ⟨d, τ1, e1, f1⟩ := bnd_some (x := evE C e ρ) e0
    cases d with
    | tuple ds =>
      obtain ⟨ρ', τ2, e2, f2⟩ := bnd_some f1
      obtain ⟨g2, rfl⟩ := of_some e2
      cases ret_some f2
      refine tE_of (k := .dat) S e1 fun v G1 H1 sm S1 _ w => ?_
      exact gTS_ok (tg := .tup is) S1 (.inl w) g2 fun σ' S' => fin σ' G1 H1 sm S'
    | _ => cases f1
/-! ### several at once, some of them one's own -/
inductive MV (K : Fg) (ta : Option Addr) (Hb G H : Hp) : List Bool → List V → List D → List Addr → Prop
  | nil : MV K ta Hb G H [] [] [] []
  | dat {v : V} {d : D} {bs : List Bool} {vs : List V} {ds : List D} {as : List Addr} : DR K G v d → MV K ta Hb G H bs vs ds as → MV K ta Hb G H (false :: bs) (v :: vs) (d :: ds) as
  | own {a : Addr} {o : HO} {od : Od} {bs : List Bool} {vs : List V} {ds : List D} {as : List Addr} : Hb a = none → ta ≠ some a → G a = none → H a = some o → OwR K G o od → a ∉ as → MV K ta Hb G H bs vs ds as → MV K ta Hb G H (true :: bs) (.ref a :: vs) (od.data :: ds) (a :: as)
  | bad {v : V} {d : D} {bs : List Bool} {vs : List V} {ds : List D} {as : List Addr} : still d = true → MV K ta Hb G H bs vs ds as → MV K ta Hb G H (true :: bs) (v :: vs) (d :: ds) as
theorem MV.new {K : Fg} {Hb G H : Hp} : ∀ {bs : List Bool} {vs : List V} {ds : List D} {as : List Addr}, MV K ta Hb G H bs vs ds as → ∀ a ∈ as, Hb a = none ∧ H a ≠ none := by
  intro bs vs ds as h
  induction h with
  | nil => intro a h; cases h
  | dat _ _ ih => exact ih
  | bad _ _ ih => exact ih
  | own h1 _ _ h2 _ _ _ ih =>
    intro b hb
    rcases List.mem_cons.mp hb with z | z
    · rw [z]; exact ⟨h1, by rw [h2]; simp⟩
    · exact ih b z
theorem MV.base {K : Fg} {Hb Hc G H : Hp} (hh : ∀ a, Hc a = none → Hb a = none) {bs : List Bool} {vs : List V} {ds : List D} {as : List Addr} (h : MV K ta Hc G H bs vs ds as) : MV K ta Hb G H bs vs ds as := by
  induction h with
  | nil => exact .nil
  | dat h _ ih => exact .dat h ih
  | bad h _ ih => exact .bad h ih
  | own h1 h2 h3 h4 h5 h6 _ ih => exact .own (hh _ h1) h2 h3 h4 h5 h6 ih
theorem MV.lenB {K : Fg} {Hb G H : Hp} {bs : List Bool} {vs : List V} {ds : List D} {as : List Addr} (h : MV K ta Hb G H bs vs ds as) : vs.length = bs.length := by
  induction h with
  | nil => rfl
  | dat _ _ ih => simp [ih]
  | bad _ _ ih => simp [ih]
  | own _ _ _ _ _ _ _ ih => simp [ih]
def tM (K : Fg) (ta : Option Addr) (C : Nat → List D → M D) (bs : List Bool) (ts : List E) : TA := fun σ H Q => ∃ G ρ τ ds τ', Rel K ta G σ H ρ τ ∧ evEs C ts ρ τ = some (ds, τ') ∧
  ∀ vs as G' H', Ext ta G H G' H' → Rel K ta G' σ H' ρ τ' → MV K ta H G' H' bs vs ds as → Q vs H'
theorem rm_nil : PA X [] (tM X.K ta C [] []) :=
  PA.mono pa_nil fun σ H Q h => by
    obtain ⟨G, ρ, τ, d, τ', R, e, q⟩ := h
    cases ret_some e
    exact q [] [] G H Ext.refl R .nil
theorem rm_dat {t : E} {ts : List E} {x : Expr} {xs : List Expr} {bs : List Bool} (ha : PE X x (tE X.K ta C .dat t)) (hr : PA X xs (tM X.K ta C bs ts)) (hx : notStar x = true) (ht : notStarE t = true) : PA X (x :: xs) (tM X.K ta C (false :: bs) (t :: ts)) :=
  PA.mono (pa_cons ha hr (star_no hx)) fun σ H Q h => by
    obtain ⟨G, ρ, τ, d, τ', R, e, q⟩ := h
    rw [evEs_cons ht] at e
    obtain ⟨y, τ1, e1, f1⟩ := bnd_some (x := evE C t ρ) e
    obtain ⟨ys, τ2, e2, f2⟩ := bnd_some f1
    cases ret_some f2
    refine ⟨G, ρ, τ, y, τ1, R, e1, fun v1 G1 H1 x1 R1 w1 => ⟨G1, ρ, τ1, ys, _, R1, e2, fun vs as G2 H2 x2 R2 w2 => ?_⟩⟩
    exact q _ as G2 H2 (x1.trans x2) R2 (.dat (DR.same x2.g w1) (w2.base fun a h => x1.none_of h))
theorem rm_own {t : E} {ts : List E} {x : Expr} {xs : List Expr} {bs : List Bool} (ha : PE X x (tE X.K ta C .fresh t)) (hr : PA X xs (tM X.K ta C bs ts)) (hx : notStar x = true) (ht : notStarE t = true) : PA X (x :: xs) (tM X.K ta C (true :: bs) (t :: ts)) :=
  PA.mono (pa_cons ha hr (star_no hx)) fun σ H Q h => by
    obtain ⟨G, ρ, τ, d, τ', R, e, q⟩ := h
    rw [evEs_cons ht] at e
    obtain ⟨y, τ1, e1, f1⟩ := bnd_some (x := evE C t ρ) e
    obtain ⟨ys, τ2, e2, f2⟩ := bnd_some f1
    cases ret_some f2
    refine ⟨G, ρ, τ, y, τ1, R, e1, fun v1 G1 H1 x1 R1 w1 => ⟨G1, ρ, τ1, ys, _, R1, e2, fun vs as G2 H2 x2 R2 w2 => ?_⟩⟩
    have w2' := w2.base (Hb := H) fun a h => x1.none_of h
    rcases w1 with ⟨_, z⟩ | ⟨a, o, od, rfl, rfl, h0, h1, h2, h3, h4⟩
    · exact q _ as G2 H2 (x1.trans x2) R2 (.bad z w2')
    · refine q _ (a :: as) G2 H2 (x1.trans x2) R2 (.own h0 h1 (x2.free_of h2 h3) (x2.keep a _ h1 h3) (h4.same x2.g) (fun m => ?_) w2')
      have := (w2.new a m).1
      rw [h3] at this
      cases this
def setL (σ : L2.St) : List Nat → List V → L2.St
  | i :: is, v :: vs => setL (σ.set i (some v)) is vs
  | _, _ => σ
theorem odP_data (o : Od) : odP o.data = some o := by cases o <;> rfl
theorem par_ok {K : Fg} {G H : Hp} {τ : List D} {Hb : Hp} (hb : ∀ a, Hb a = none → H₀ a = none) : ∀ (ts : List (Nat × Bool)) {vs : List V} {ds : List D} {as : List Addr} {σ : L2.St} {ρ ρ' : En}, RelS K ta G₀ H₀ G σ H ρ τ → MV K ta Hb G H (ts.map (·.2)) vs ds as →
    (∀ a ∈ as, ∀ (j : Nat) es, ρ[j]? = some (some (.own es)) → σ[j]? ≠ some (some (.ref a))) → setPar ts ds ρ = some ρ' → RelS K ta G₀ H₀ G (setL σ (ts.map (·.1)) vs) H ρ' τ := by
  intro ts
  induction ts with
  | nil =>
    intro vs ds as σ ρ ρ' S w hn e
    cases w
    cases e
    exact S
  | cons t ts ih =>
    intro vs ds as σ ρ ρ' S w hn e
    obtain ⟨i, b⟩ := t
    cases b with
    | false =>
      cases w with
      | dat h r =>
        refine ih (S.setDat h i) r (fun a ha j es ej hj => ?_) e
        rcases get_set ej with ⟨_, _, z⟩ | ⟨hji, ej⟩
        · cases z
        · rw [List.getElem?_set_ne (Ne.symm hji)] at hj
          exact hn a ha j es ej hj
    | true =>
      generalize hbs : List.map (fun x : Nat × Bool => x.2) ((i, true) :: ts) = bs at w
      cases w with
      | nil => cases hbs
      | dat h r => cases hbs
      | own h1 h2 h3 h4 h5 h6 r =>
        rename_i a o od bs vs ds as
        cases hbs
        simp only [setPar, odP_data] at e
        refine ih (S.setOwn (hb _ h1) h2 h3 h4 h5 (hn a List.mem_cons_self) i) r (fun b hb' j es ej hj => ?_) e
        rcases get_set ej with ⟨rfl, hl, z⟩ | ⟨hji, ej⟩
        · rw [List.getElem?_set_self (Nat.lt_of_lt_of_le hl S.rel.len)] at hj
          cases hj
          exact h6 hb'
        · rw [List.getElem?_set_ne (Ne.symm hji)] at hj
          exact hn b (List.mem_cons_of_mem _ hb') j es ej hj
      | bad h r =>
        rename_i v d bs vs ds
        have : odP d = none := by cases d <;> first | rfl | cases h
        simp only [setPar, this] at e
        cases e
theorem MV.fresh {K : Fg} {Hb G H : Hp} {p : Addr} {o : HO} (hp : H p = none) {bs : List Bool} {vs : List V} {ds : List D} {as : List Addr} (h : MV K ta Hb G H bs vs ds as) : MV K ta Hb G (upd H p o) bs vs ds as := by
  induction h with
  | nil => exact .nil
  | dat h _ ih => exact .dat h ih
  | bad h _ ih => exact .bad h ih
  | own h1 h2 h3 h4 h5 h6 _ ih => exact .own h1 h2 h3 (by rw [upd_ne (ne_of_none h4 hp)]; exact h4) h5 h6 ih
theorem rs_par {ts : List (Nat × Bool)} {es : List E} {t : TS} (h : PS X st t) (imp : ∀ Dn σ H, (tM X.K ta C (ts.map (·.2)) es σ H fun vs H1 => Dn.nx (setL σ (ts.map (·.1)) vs) H1 ∧ ∀ p o, H1 p = none → Dn.nx (setL σ (ts.map (·.1)) vs) (upd H1 p o)) → t Dn σ H) : PS X st (tS X.K ta G₀ H₀ kr (evS C (.par ts es))) :=
  PS.mono h fun Dn σ H h => by
    obtain ⟨G, ρ, τ, o, τ', S, e0, fin⟩ := h
    obtain ⟨ds, τ1, e1, f1⟩ := bnd_some (x := evEs C es ρ) e0
    obtain ⟨ρ', τ2, e2, f2⟩ := bnd_some f1
    obtain ⟨g2, rfl⟩ := of_some e2
    cases ret_some f2
    refine imp Dn σ H ⟨G, ρ, τ, ds, _, S.rel, e1, fun vs as G1 H1 x1 R1 w1 => ?_⟩
    have hn : ∀ a ∈ as, ∀ (j : Nat) es, ρ[j]? = some (some (.own es)) → σ[j]? ≠ some (some (.ref a)) := fun a ha j es ej hj => S.rel.ownThere j es ej a hj (w1.new a ha).1
    have hb : ∀ a, H a = none → H₀ a = none := fun a h => S.ext.none_of h
    have S1 := S.step x1 R1
    exact ⟨fin _ G1 H1 x1.g (par_ok hb ts S1 w1 hn g2), fun p o hp => fin _ G1 _ x1.g (par_ok hb ts (S1.step (Ext.fresh hp) (R1.fresh hp)) (w1.fresh hp) hn g2)⟩
theorem setL_gNs {Q : L2.St → Hp → Prop} {H : Hp} : ∀ {is : List Nat} {vs : List V} {σ : L2.St}, vs.length = is.length → Q (setL σ is vs) H → gNs is vs σ H Q
  | [], [], σ, _, q => ⟨rfl, q⟩
  | [], _ :: _, _, h, _ => by cases h
  | _ :: _, [], _, h, _ => by cases h
  | i :: is, v :: vs, σ, h, q => ⟨_, _, rfl, setL_gNs (by simpa using h) q⟩
def rSetO (H00 : Hp) : TSet := fun o i v H Q => rSetL o i v H Q ∨ ∃ a od kvs k, o = .ref a ∧ i = kV k ∧ H a = some (.frz od (.dK kvs)) ∧ H00 a = none ∧ kvs.length < sizeLine ∧ ∀ od', Q (upd H a (.frz od' (.dK (putK kvs k v))))
theorem set_own (hu : X.A.units + 64 < cLine) : PSet X (rSetO X.H_0) := by
  intro pins s σ H o i v ov iv u Q I ro ri rv h
  rcases h with h | ⟨a, od, kvs, k, rfl, rfl, ha, h0, hl, q⟩
  · exact set_list pins s σ H o i v ov iv u Q I ro ri rv h
  · cases ro
    have J := I.unlock ha (fun o' u' z => by rw [h0] at z; cases z)
    refine d_setItem (by omega) J (DPut.k upd_same hl) ri rv fun s' I' => ?_
    rw [upd_upd] at I'
    obtain ⟨od', I2⟩ := I'.lock upd_same (by simp [Mut])
    rw [upd_upd] at I2
    exact ⟨_, I2, q od'⟩
theorem rs_sto {i : Nat} {ix e : E} {k : Kd} (hH : X.H_0 = H₀) (h : PS X st (tAsg (tE X.K ta C .dat e) (gSub (tVar i) (tE X.K ta C k ix) (rSetO X.H_0)))) : PS X st (tS X.K ta G₀ H₀ kr (evS C (.sto i ix e))) :=
  PS.mono h fun Dn σ H h => by
    obtain ⟨G, ρ, τ, o, τ', S, e0, fin⟩ := h
    obtain ⟨d, τ1, e1, f1⟩ := bnd_some (x := evE C e ρ) e0
    obtain ⟨y, τ2, e2, f2⟩ := bnd_some (x := evE C ix ρ) f1
    obtain ⟨ds, τ3, e3, f3⟩ := bnd_some f2
    obtain ⟨ds', τ4, e4, f4⟩ := bnd_some f3
    obtain ⟨g4, rfl⟩ := of_some e4
    cases ret_some f4
    have e3 : (match ρ[i]? with
      | some (some (.own ds)) => some (ds, τ2)
      | _ => none) = some (ds, τ') := e3
    split at e3
    · rename_i es ho
      cases e3
      refine tE_of (k := .dat) S e1 fun v G1 H1 sm S1 _ w => ?_
      obtain ⟨a, ws, q1, q2, q3, q4, q5⟩ := S1.rel.own i _ ho
      refine ⟨_, q1, tE_of (k := k) S1 e2 fun v2 G2 H2 sm2 S2 x2 w2 => ?_⟩
      obtain ⟨a', ws', p1, p2, p3, p4, p5⟩ := S2.rel.own i _ ho
      rw [q1] at p1
      cases p1
      cases ds with
      | lst ds =>
        obtain ⟨us, rfl, p6⟩ := p5.ofL
        cases y with
        | int kk =>
          have g4 : ((match ixN ds.length kk with
            | some j => some (ds.set j d)
            | none => none).map Od.lst) = some ds' := g4
          split at g4
          · rename_i j hj
            cases g4
            refine .inl ⟨a, us, kk, j, rfl, w2.view.int, p4, by rw [p6.length]; exact hj, ?_⟩
            exact fin _ G2 _ (sm.trans sm2) (S2.write ho q1 (.lst (DRs.set (DR.same sm2 w) j p6)))
          · cases g4
        | _ => cases g4
      | dic ds =>
        obtain ⟨od, us, rfl, p6⟩ := p5.ofD
        have g4 : (if isKey y && lineOk (ds.length + 1) then some (Od.dic (putKD ds y d)) else none) = some ds' := g4
        split at g4
        · rename_i hz
          simp only [Bool.and_eq_true] at hz
          cases g4
          obtain ⟨kk, rfl⟩ := isKey_kD hz.1
          have hl := lineOk_le hz.2
          refine .inr ⟨a, od, us, kk, rfl, V_kD (w2.view.dr (still_kD kk)), p4, by rw [hH]; exact S2.new i _ a ho q1, by rw [p6.length]; omega, fun od' => ?_⟩
          exact fin _ G2 _ (sm.trans sm2) (S2.write ho q1 (.dic (putK_dr kk (DR.same sm2 w) p6)))
        · cases g4
    · cases e3
theorem rs_stoT {i : Nat} {ix e : E} {k : Kd} (h : PS X st (tAsg (tE X.K ta C .dat e) (gSub (tVar i) (tE X.K ta C k ix) rSetL))) : PS X st (tS X.K ta G₀ H₀ kr (evS C (.stoT i ix e))) :=
  PS.mono h fun Dn σ H h => by
    obtain ⟨G, ρ, τ, o, τ', S, e0, fin⟩ := h
    obtain ⟨d, τ1, e1, f1⟩ := bnd_some (x := evE C e ρ) e0
    obtain ⟨y, τ2, e2, f2⟩ := bnd_some (x := evE C ix ρ) f1
    have f2 : (if isTin ρ i then (match stoD τ2 y d with
      | some τ' => some (Out.nx ρ, τ')
      | none => none) else none) = some (o, τ') := f2
    split at f2
    · rename_i ht
      split at f2
      · rename_i τ3 hs
        cases f2
        obtain ⟨a, rfl, h1⟩ := S.rel.tn i (isTin_at ht)
        refine tE_of (k := .dat) S e1 fun v G1 H1 sm S1 _ w => ?_
        refine ⟨_, h1, tE_of (k := k) S1 e2 fun v2 G2 H2 sm2 S2 x2 w2 => ?_⟩
        obtain ⟨p1, ws, p2, p3⟩ := S2.rel.tin a rfl
        cases y with
        | int kk =>
          have hs : (match ixN τ2.length kk with
            | some j => some (τ2.set j d)
            | none => none) = some τ' := hs
          split at hs
          · rename_i j hj
            cases hs
            refine ⟨a, ws, kk, j, rfl, w2.view.int, p2, by rw [p3.length]; exact hj, ?_⟩
            exact fin _ G2 _ (sm.trans sm2) (S2.box (DRs.set (DR.same sm2 w) j p3))
          · cases hs
        | _ => cases hs
      · cases f2
    · cases f2
theorem lstAt_some {ρ : En} {i : Nat} {τ τ' : List D} {ds : List D} (h : lstAt ρ i τ = some (ds, τ')) : ρ[i]? = some (some (.own (.lst ds))) ∧ τ' = τ := by
  unfold lstAt at h
  split at h
  · rename_i es ho
    cases h
    exact ⟨ho, rfl⟩
  · cases h
theorem rs_app {i : Nat} {e : E} (he : notStarE e = true) (h : PS X st (tDrop (tBM X.K "list" rAppend (tVar i) (tK X.K ta C [e])))) : PS X st (tS X.K ta G₀ H₀ kr (evS C (.app i e))) :=
  PS.mono h fun Dn σ H h => by
    obtain ⟨G, ρ, τ, o, τ', S, e0, fin⟩ := h
    obtain ⟨d, τ1, e1, f1⟩ := bnd_some (x := evE C e ρ) e0
    obtain ⟨ds, τ2, e2, f2⟩ := bnd_some f1
    obtain ⟨ho, rfl⟩ := lstAt_some e2
    split at f2
    · rename_i hz
      cases ret_some f2
      obtain ⟨a, ws, q1, q2, q3, q4, q5⟩ := S.rel.own i _ ho
      obtain ⟨us, rfl, q6⟩ := q5.ofL
      refine ⟨_, q1, .inl ⟨rfl, _, SqL.of q4⟩, G, ρ, τ, [d], τ', S.rel, ?_, fun vs G1 H1 x1 R1 w1 => ?_⟩
      · rw [evEs_cons he]
        unfold M.bnd
        rw [e1]
        rfl
      · cases w1 with
        | cons d1 r1 =>
          cases r1
          obtain ⟨a', ws', p1, p2, p3, p4, p5⟩ := R1.own i _ ho
          obtain ⟨us', rfl, p6⟩ := p5.ofL
          rw [q1] at p1
          cases p1
          have hl : us'.length < sizeLine := by
            have := lineOk_le hz
            rw [p6.length]
            omega
          exact ⟨a, us', _, rfl, rfl, p4, hl, fin _ G1 _ x1.g ((S.step x1 R1).write ho q1 (.lst (p6.append (.cons d1 .nil))))⟩
    · cases f2
/-- l.extend(x), x any list -/
theorem ext_meets (l : Addr) (xs : Array Value) (n : Nat) (b : Addr) (ys : Array Value) (n2 : Nat) (sl : Array (Option Value)) (h0 : ¬(!xs.isEmpty && Builtin.List.listTooLong (xs.size + ys.size)) = true) (h1 : xs.size ≤ sizeLine) (h2 : xs.size + ys.size ≤ sizeLine + 1) :
    Meets (Builtin.«list.extend» ⟨[.ref l, .ref b], []⟩) (fun _ R s => s.heap.get? l = some { cls := .type "list", dict := none, data := .seq xs n, slots := #[] } ∧ s.heap.get? b = some { cls := .type "list", dict := none, data := .seq ys n2, slots := sl } ∧ R (.ok (.ret Value.none)) { s with heap := s.heap.update l (Obj.mapSeq fun x => x ++ ys), toks := s.toks }) :=
  .of_wp fun prog w A R s h => by
    obtain ⟨hp, gs, dr, tk, oz⟩ := s
    obtain ⟨q1, q2, q⟩ := h
    have i1 := AutoSeq1.idx_int
    have i2 := AutoSeq1.sub_tuple_tuple
    have i3 := AutoSeq1.sub_list_list
    have i4 := AutoSeq1.sub_tuple_list
    have i5 := AutoSeq1.sub_list_tuple
    have hz : (xs ++ ys).size ≤ sizeLine + 1 := Array.size_append ▸ h2
    wp_walk using (wpAny_updateSeq q1 rfl (hz := h1) (_hz' := hz)), AutoSeq1.wpAny_loadPart' q1, AutoSeq1.wpAny_loadPart' q2
    exact ⟨_, rfl, q⟩
theorem mt_ext : MtM X "list.extend" (fun x vs H Q => ∃ l b xs zs, x = .ref l ∧ vs = [.ref b] ∧ H l = some (.lst xs) ∧ SqL X.K H b zs ∧ xs.length + zs.length ≤ sizeLine ∧ Q .non (upd H l (.lst (xs ++ zs)))) := by
  intro pins s σ H x vs v us Q I rx rv h
  obtain ⟨l, b, xs, zs, rfl, rfl, hH, hB, hz, q⟩ := h
  cases rx
  rw [Vals.ref1 rv]
  obtain ⟨z1, i1, n1, r1, l1, g1⟩ := I.lstM hH
  obtain ⟨i2, r2, ⟨⟨oc, od, dt, sl⟩, n2, g2, p1, p2, p3⟩, hz2⟩ := I.list hB
  cases p1
  cases p2
  cases p3
  have l2 := r2.length
  have hsz : i1.toArray.size + i2.toArray.size ≤ sizeLine := by rw [List.size_toArray, List.size_toArray]; omega
  have hlong : ¬ (!i1.toArray.isEmpty && Builtin.List.listTooLong (i1.toArray.size + i2.toArray.size)) = true := by
    rw [notLongL hsz, Bool.and_false]
    exact Bool.false_ne_true
  refine call_meets F.slot_list_extend ⟨_, g1, rfl⟩ F.entry_list_extend (F.args_list_extend_2 _ _) (ext_meets l i1.toArray n1 b i2.toArray n2 sl hlong (by rw [List.size_toArray]; omega) (by omega)) ⟨g1, g2, ?_⟩
  exact ⟨.non, _, I.lset (its' := i1 ++ i2) hH g1 (by simp) (r1.append r2) (by rw [List.length_append]; omega), rfl, q⟩
theorem rs_extd {i : Nat} {e : E} (he : notStarE e = true) (h : PS X st (tDrop (tBM X.K "list" (fun x vs H Q => ∃ l b xs zs, x = .ref l ∧ vs = [.ref b] ∧ H l = some (.lst xs) ∧ SqL X.K H b zs ∧ xs.length + zs.length ≤ sizeLine ∧ Q .non (upd H l (.lst (xs ++ zs)))) (tVar i) (tV X.K ta C [e])))) : PS X st (tS X.K ta G₀ H₀ kr (evS C (.extd i e))) :=
  PS.mono h fun Dn σ H h => by
    obtain ⟨G, ρ, τ, o, τ', S, e0, fin⟩ := h
    obtain ⟨d, τ1, e1, f1⟩ := bnd_some (x := evE C e ρ) e0
    obtain ⟨es, τ2, e2, f2⟩ := bnd_some f1
    obtain ⟨g2, rfl⟩ := of_some e2
    obtain ⟨ds, τ3, e3, f3⟩ := bnd_some f2
    obtain ⟨ho, rfl⟩ := lstAt_some e3
    split at f3
    · rename_i hz
      cases ret_some f3
      obtain ⟨a, ws, q1, q2, q3, q4, q5⟩ := S.rel.own i _ ho
      obtain ⟨us, rfl, q6⟩ := q5.ofL
      refine ⟨_, q1, .inl ⟨rfl, _, SqL.of q4⟩, G, ρ, τ, [d], τ', S.rel, ?_, fun vs G1 H1 x1 R1 w1 => ?_⟩
      · rw [evEs_cons he]
        unfold M.bnd
        rw [e1]
        rfl
      · cases w1 with
        | cons d1 r1 =>
          cases r1
          obtain ⟨a', ws', p1, p2, p3, p4, p5⟩ := R1.own i _ ho
          obtain ⟨us', rfl, p6⟩ := p5.ofL
          rw [q1] at p1
          cases p1
          have hl := lineOk_le hz
          cases d with
          | list fs =>
            cases g2
            obtain ⟨b, zs, rfl, hr, dr⟩ := d1.lst R1.sub
            refine ⟨a, b, us', zs, rfl, rfl, p4, hr, by rw [p6.length, dr.length]; exact hl, ?_⟩
            exact fin _ G1 _ x1.g ((S.step x1 R1).write ho q1 (.lst (p6.append dr)))
          | _ => cases g2
    · cases f3
theorem rs_pop {tg : Tg} {i : Nat} (hi : i ∉ tg.slots) (h : PS X st (tAsg (tBM0 X.K "list" rPop (tVar i)) (gT X.K tg))) : PS X st (tS X.K ta G₀ H₀ kr (evS C (.pop tg i))) :=
  PS.mono h fun Dn σ H h => by
    obtain ⟨G, ρ, τ, o, τ', S, e0, fin⟩ := h
    obtain ⟨ds, τ1, e1, f1⟩ := bnd_some (x := lstAt ρ i) e0
    obtain ⟨ho, rfl⟩ := lstAt_some e1
    have f1 : (match ds.getLast? with
      | some d => (M.of (setTg tg d (ρ.set i (some (.own (.lst ds.dropLast)))))).bnd fun ρ' => M.ret (Out.nx ρ')
      | none => M.fail) _ = some (o, τ') := f1
    cases hd : ds.getLast? with
    | some d =>
      rw [hd] at f1
      obtain ⟨ρ', τ2, e2, f2⟩ := bnd_some f1
      obtain ⟨g2, rfl⟩ := of_some e2
      cases ret_some f2
      obtain ⟨a, ws, q1, q2, q3, q4, q5⟩ := S.rel.own i _ ho
      obtain ⟨us, rfl, q6⟩ := q5.ofL
      have hg : ds[ds.length - 1]? = some d := by rw [← List.getLast?_eq_getElem?]; exact hd
      obtain ⟨u, hu, hdr⟩ := q6.get hg
      refine ⟨_, q1, .inl ⟨rfl, _, SqL.of q4⟩, a, us, u, rfl, rfl, q4, by rw [q6.length]; exact hu, ?_⟩
      have dl : DRs X.K G us.dropLast ds.dropLast := by
        rw [List.dropLast_eq_take, List.dropLast_eq_take, q6.length]
        exact q6.take _
      exact gTS_ok (S.write ho q1 (.lst dl)) (.inl hdr) g2 fun σ' S' => fin σ' G _ (fun _ _ h => h) S'
    | none =>
      rw [hd] at f1
      cases f1
theorem rs_expr {e : E} {k : Kd} (h : PS X st (tDrop (tE X.K ta C k e))) : PS X st (tS X.K ta G₀ H₀ kr (evS C (.expr e))) :=
  PS.mono h fun Dn σ H h => by
    obtain ⟨G, ρ, τ, o, τ', S, e0, fin⟩ := h
    obtain ⟨d, τ1, e1, f1⟩ := bnd_some (x := evE C e ρ) e0
    cases ret_some f1
    exact tE_of (k := k) S e1 fun v G1 H1 sm S1 _ _ => fin _ G1 H1 sm S1
theorem rs_ret {e : E} (hk : kr ≠ .peek) (h : PS X st (tRet (tE X.K ta C kr e))) : PS X st (tS X.K ta G₀ H₀ kr (evS C (.ret e))) :=
  PS.mono h fun Dn σ H h => by
    obtain ⟨G, ρ, τ, o, τ', S, e0, fin⟩ := h
    obtain ⟨d, τ1, e1, f1⟩ := bnd_some (x := evE C e ρ) e0
    cases ret_some f1
    refine tE_of (k := kr) S e1 fun v G1 H1 sm S1 x1 w => fin v G1 H1 S1.ext S1.rel.sub S1.rel.tin ?_
    exact w.first S.ext hk
theorem rs_ite {c : E} {a b : List S} {u v : TS} (h : PS X st (tIfS (tT X.K ta C c) (tS X.K ta G₀ H₀ kr (evSs C a)) (tS X.K ta G₀ H₀ kr (evSs C b)))) : PS X st (tS X.K ta G₀ H₀ kr (evS C (.ite c a b))) :=
  PS.mono h fun Dn σ H h => by
    obtain ⟨G, ρ, τ, o, τ', S, e0, fin⟩ := h
    obtain ⟨x, τ1, e1, f1⟩ := bnd_some (x := evE C c ρ) e0
    obtain ⟨k, τ2, e2, f2⟩ := bnd_some f1
    obtain ⟨g2, rfl⟩ := of_some e2
    refine ⟨G, ρ, τ, k, _, S.rel, tru_bnd (τ2 := τ) e1 g2, fun G1 H1 x1 R1 => ?_⟩
    have fin' : FinO X.K ta G₀ H₀ G1 kr Dn τ' o := by
      cases o with
      | nx ρ' => exact fun σ' G' H' s S' => fin σ' G' H' (x1.g.trans s) S'
      | ct ρ' => exact fun σ' G' H' s S' => fin σ' G' H' (x1.g.trans s) S'
      | rt d => exact fin
    cases k with
    | true => exact iteT ⟨G1, ρ, _, o, τ', S.step x1 R1, f2, fin'⟩
    | false => exact iteF ⟨G1, ρ, _, o, τ', S.step x1 R1, f2, fin'⟩
theorem FinO.up {K : Fg} {G G1 : Hp} {Dn : Ends} {τ' : List D} {o : Out} (s : Same G G1) (f : FinO K ta G₀ H₀ G kr Dn τ' o) : FinO K ta G₀ H₀ G1 kr Dn τ' o := by
  cases o with
  | nx ρ' => exact fun σ' G' H' s' S' => f σ' G' H' (s.trans s') S'
  | ct ρ' => exact fun σ' G' H' s' S' => f σ' G' H' (s.trans s') S'
  | rt d => exact f
/-! loops -/
theorem rs_loop {tg : Tg} {ik : IK} {src : List E} {body : List S} (hpr : pairIk ik = true → ∃ is, tg = .tup is) (h : PS X st (tFor (tIf X.K ta C ik src) (gT X.K tg) (tS X.K ta G₀ H₀ kr (evSs C body)))) : PS X st (tS X.K ta G₀ H₀ kr (evS C (.loop tg ik src body))) :=
  PS.mono h fun Dn σ H h => by
    obtain ⟨G, ρ, τ, o, τ', S, e0, fin⟩ := h
    obtain ⟨xs, τ1, e1, f1⟩ := bnd_some (x := evEs C src ρ) e0
    obtain ⟨items, τ2, e2, f2⟩ := bnd_some f1
    obtain ⟨g2, rfl⟩ := of_some e2
    refine ⟨G, ρ, τ, xs, _, items, S.rel, e1, g2, fun G1 H1 J x1 R1 wk => ?_⟩
    generalize hf : (fun d ρ => (M.of (setTg tg d ρ)).bnd fun ρ' => evSs C body ρ' : D → En → M Out) = f at f2
    refine ⟨fun i m σ2 H2 => i ≤ items.length ∧ m = items.length - i ∧ ∃ Gi ρi τi, Same G1 Gi ∧ RelS X.K ta G₀ H₀ Gi σ2 H2 ρi τi ∧ loopL f (items.drop i) ρi τi = some (o, τ'),
      ⟨_, Nat.zero_le _, rfl, G1, ρ, _, fun _ _ h => h, S.step x1 R1, f2⟩, ?_⟩
    rintro i m σ2 H2 ⟨hi, rfl, Gi, ρi, τi, sm, Si, ei⟩
    have sv : Same G1 H2 := sm.trans Si.rel.sub
    by_cases hlt : i < items.length
    · right
      refine ⟨wk.go i H2 sv hlt, fun σ' H' => i + 1 ≤ items.length ∧ items.length - (i + 1) = items.length - (i + 1) ∧ ∃ Gi ρi τi, Same G1 Gi ∧ RelS X.K ta G₀ H₀ Gi σ' H' ρi τi ∧ loopL f (items.drop (i + 1)) ρi τi = some (o, τ'),
        fun σ' H' h => ⟨items.length - (i + 1), by omega, h⟩, fun x H' y => ?_⟩
      have hd : items[i]? = some items[i] := List.getElem?_eq_getElem hlt
      rw [List.drop_eq_getElem_cons hlt] at ei
      obtain ⟨o1, τa, ea, fa⟩ := bnd_some (x := f items[i] ρi) ei
      have wki : Wk X.K Gi Gi J items (pairIk ik) := ⟨fun i H s h => wk.go i H (fun b o q => s b o (sm b o q)) h, fun H s => wk.stop H (fun b o q => s b o (sm b o q)), fun i H x H' d s e y => by
        rcases wk.yld i H x H' d (fun b o q => s b o (sm b o q)) e y with ⟨h1, h2⟩ | ⟨h0, T, a, b, va, vb, h1, h2, h3, h4, h5, h6⟩
        · exact .inl ⟨h1, h2.same sm⟩
        · exact .inr ⟨h0, T, a, b, va, vb, h1, h2, h3, h4, h5.same sm, h6.same sm⟩⟩
      obtain ⟨x0, R0, dx, _⟩ := item_ok (tg := tg) wki hpr (H1 := H2) Ext.refl Si.rel Si.rel.sub hd y
      have S' := Si.step x0 R0
      have x' : Same Gi Gi := fun _ _ h => h
      rw [← hf] at ea
      obtain ⟨ρ', τc, ec, fc⟩ := bnd_some ea
      obtain ⟨gc, rfl⟩ := of_some ec
      refine gTS_ok S' dx gc fun σ3 S3 => ⟨Gi, ρ', _, o1, τa, S3, fc, ?_⟩
      cases o1 with
      | nx ρ1 => exact fun σ' G'' H'' s S'' => ⟨hlt, rfl, G'', ρ1, τa, (sm.trans x').trans s, S'', fa⟩
      | ct ρ1 => exact fun σ' G'' H'' s S'' => ⟨hlt, rfl, G'', ρ1, τa, (sm.trans x').trans s, S'', fa⟩
      | rt d1 =>
        cases ret_some fa
        exact fin
    · left
      have hn : i = items.length := by omega
      subst hn
      rw [List.drop_length] at ei
      cases ret_some ei
      exact ⟨wk.stop H2 sv, fin σ2 Gi H2 (x1.g.trans sm) Si⟩
theorem rs_while {n0 : Nat} {c : E} {body : List S} (h : PS X st (tWhile (tT X.K ta C c) (tS X.K ta G₀ H₀ kr (evSs C body)))) : PS X st (tS X.K ta G₀ H₀ kr (evS C (.while n0 c body))) :=
  PS.mono h fun Dn σ H h => by
    obtain ⟨G, ρ, τ, o, τ', S, e0, fin⟩ := h
    refine ⟨fun m σ2 H2 => ∃ Gi ρi τi, Same G Gi ∧ RelS X.K ta G₀ H₀ Gi σ2 H2 ρi τi ∧ whileL (fun ρ => (evE C c ρ).bnd fun x => .of (truD x)) (fun ρ => evSs C body ρ) m ρi τi = some (o, τ'), ⟨n0, G, ρ, τ, fun _ _ h => h, S, e0⟩, ?_⟩
    rintro m σ2 H2 ⟨Gi, ρi, τi, sm, Si, ei⟩
    cases m with
    | zero => cases ei
    | succ m =>
      obtain ⟨k, τa, ea, fa⟩ := bnd_some (x := (evE C c ρi).bnd fun x => .of (truD x)) ei
      refine ⟨Gi, ρi, τi, k, τa, Si.rel, ea, fun G1 H1 x1 R1 => ?_⟩
      cases k with
      | false =>
        cases ret_some fa
        exact iteF (fin σ2 G1 H1 (sm.trans x1.g) (Si.step x1 R1))
      | true =>
        obtain ⟨o1, τb, eb, fb⟩ := bnd_some (x := evSs C body ρi) fa
        refine iteT ⟨fun σ' H' => ∃ Gi ρi τi, Same G Gi ∧ RelS X.K ta G₀ H₀ Gi σ' H' ρi τi ∧ whileL (fun ρ => (evE C c ρ).bnd fun x => .of (truD x)) (fun ρ => evSs C body ρ) m ρi τi = some (o, τ'), fun σ' H' h => ⟨m, Nat.lt_succ_self _, h⟩, G1, ρi, τa, o1, τb, Si.step x1 R1, eb, ?_⟩
        cases o1 with
        | nx ρ1 => exact fun σ' G'' H'' s S'' => ⟨G'', ρ1, τb, (sm.trans x1.g).trans s, S'', fb⟩
        | ct ρ1 => exact fun σ' G'' H'' s S'' => ⟨G'', ρ1, τb, (sm.trans x1.g).trans s, S'', fb⟩
        | rt d1 =>
          cases ret_some fb
          exact fin
theorem rs_cont (h : PS X st tCont) : PS X st (tS X.K ta G₀ H₀ kr (evS C .cont)) :=
  PS.mono h fun Dn σ H h => by
    obtain ⟨G, ρ, τ, o, τ', S, e0, fin⟩ := h
    cases ret_some e0
    exact fin σ G H (fun _ _ h => h) S
theorem rs_pass (h : PS X st tNext) : PS X st (tS X.K ta G₀ H₀ kr (evS C .pass)) :=
  PS.mono h fun Dn σ H h => by
    obtain ⟨G, ρ, τ, o, τ', S, e0, fin⟩ := h
    cases ret_some e0
    exact fin σ G H (fun _ _ h => h) S
/-! blocks -/
theorem rss_nil : PSs X [] (tS X.K ta G₀ H₀ kr (evSs C [])) :=
  PSs.mono pss_nil fun Dn σ H h => by
    obtain ⟨G, ρ, τ, o, τ', S, e0, fin⟩ := h
    cases ret_some e0
    exact fin σ G H (fun _ _ h => h) S
theorem rss_cons {s : S} {r : List S} {sts : List Stmt} (h1 : PS X st (tS X.K ta G₀ H₀ kr (evS C s))) (h2 : PSs X sts (tS X.K ta G₀ H₀ kr (evSs C r))) : PSs X (st :: sts) (tS X.K ta G₀ H₀ kr (evSs C (s :: r))) :=
  PSs.mono (pss_cons h1 h2) fun Dn σ H h => by
    obtain ⟨G, ρ, τ, o, τ', S, e0, fin⟩ := h
    obtain ⟨o1, τ1, e1, f1⟩ := bnd_some (x := evS C s ρ) e0
    refine ⟨G, ρ, τ, o1, τ1, S, e1, ?_⟩
    cases o1 with
    | nx ρ1 => exact fun σ' G' H' sm S' => ⟨G', ρ1, τ1, o, τ', S', f1, fin.up sm⟩
    | ct ρ1 =>
      cases ret_some f1
      exact fin
    | rt d1 =>
      cases ret_some f1
      exact fin
theorem rss_frz {i : Nat} {r : List S} {sts : List Stmt} (h2 : PSs X sts (tS X.K ta G₀ H₀ kr (evSs C r))) : PSs X sts (tS X.K ta G₀ H₀ kr (evSs C (.frz i :: r))) :=
  PSs.mono h2 fun Dn σ H h => by
    obtain ⟨G, ρ, τ, o, τ', S, e0, fin⟩ := h
    obtain ⟨o1, τ1, e1, f1⟩ := bnd_some (x := evS C (.frz i) ρ) e0
    obtain ⟨ds, τ2, e2, f2⟩ := bnd_some e1
    cases ret_some f2
    have e2 : (match ρ[i]? with
      | some (some (.own ds)) => some (ds, τ)
      | _ => none) = some (ds, τ1) := e2
    split at e2
    · rename_i es ho
      cases e2
      obtain ⟨G', sm, S'⟩ := S.freeze ho
      exact ⟨G', _, _, o, τ', S', f1, fin.up sm⟩
    · cases e2
end
end KN

set_option maxRecDepth 100000
set_option maxHeartbeats 4000000
namespace KN
open PySem L2 PyProof.Rows
theorem blk_fun {env : PySem.Env} (hk : env.scope.kind = .function) : env.blockKind = .function := by
  unfold Env.blockKind
  rw [hk]
  rfl
theorem sw_eq {env : PySem.Env} {ts vs : List Expr} {k k2 : Nat} {p p2 : Pos} {r : Option (List Str)} (hk : env.scope.kind = .function) (h : swN env.scope ts vs = some r) : swappedStores [.Tuple ts k p] (.Tuple vs k2 p2) env = pure r := by
  have hb := blk_fun hk
  unfold swappedStores
  unfold swN at h
  simp only [hb]
  have e0 : (ScopeKind.function != ScopeKind.function) = false := by decide
  simp only [e0, Bool.or_false]
  by_cases c1 : (!(ts.length == 2 || ts.length == 3) || vs.length != ts.length) = true
  · rw [if_pos c1] at h
    rw [if_pos c1]
    cases h
    rfl
  · rw [if_neg c1] at h
    rw [if_neg c1]
    split at h
    · rename_i c2
      cases h
      exact if_pos c2
    · rename_i c2
      refine (if_neg c2).trans ?_
      simp only at h
      split at h
      · rename_i c3
        cases h
        exact if_pos c3
      · rename_i c3
        refine (if_neg c3).trans ?_
        split at h
        · rename_i c4
          cases h
          exact if_pos c4
        · rename_i c4
          refine (if_neg c4).trans ?_
          split at h
          · cases h
          · rename_i c5
            cases h
            exact if_neg c5
theorem swap_comp {env : PySem.Env} {el : Expr} {gs : List Comprehension} {scope : Scope} {pos py : Pos} {y : Str} {l : Nat} (hk : env.scope.kind = .function) :
    swapsWith (.ListComp el gs scope pos) (some (.Name y py)) l env = pure (swC env.scope y py (.ListComp el gs scope pos)) := by
  have hb := blk_fun hk
  unfold swapsWith
  simp only [hb, Expr.pos]
  have e0 : (ScopeKind.function == ScopeKind.function) = true := by decide
  simp only [e0, Bool.true_and]
  rfl
section
variable {Γ : Cn} {n : Nat} {X : Cx} {ta : Option Addr}
/-- name = value, whatever the value -/
theorem asg_parts {i : Nat} {x : Str} {px pos : Pos} {v : Expr} {e : E} (O : XOk Γ n X) (hk : X.env.scope.kind = .function) (hi : Γ.N[i]? = some x) (hs : stOk Γ x = true) (he : mE e Γ v = true) (hc : (!isComp v || isEComp e) = true) :
    ∃ te, (∀ σ H Q, tE X.K ta (callF Γ.B n) (kdOf e) e σ H Q → te σ H Q) ∧ PS X (.Assign [.Name x px] v pos) (tAsg te (gName i)) := by
  have hN : X.N[i]? = some x := by rw [O.N]; exact hi
  have st := O.sto.at hs
  by_cases hv : isComp v = true
  · have hec : isEComp e = true := by simpa [hv] using hc
    cases e with
    | comp elt tg ik src cond =>
      have h := he
      rw [mE_comp] at h
      split at h
      · simp only [Bool.and_eq_true, decide_eq_true_eq] at h
        obtain ⟨⟨⟨⟨⟨⟨⟨pe, h1⟩, h2⟩, h3⟩, _⟩, h4⟩, h5⟩, h6⟩ := h
        rename_i el t it ifs scope p _
        have bo : BlkOk X.N X.env.scope scope (blkOf Γ tg) := by rw [O.N, O.sc]; exact blkOk_by h1
        have q1 : PI X t it (tI X.K ta (callF Γ.B n) ik src) := src_ok O (fun xs hx => sndV src O hx) h6
        have q4 : ∀ (s : Shared) (H : Hp) (C' : Addr) (cl : List (Str × Addr)) (fp : List Addr), PTs (X.blk s H scope (compEnvC scope cl C' X.env) fp) ifs (tCond X.K ta (callF Γ.B n) cond) := by
          intro s H C' cl fp
          split at h5
          · exact pts_gone h5
          · simp only [Bool.and_eq_true, Bool.not_eq_true'] at h5
            exact pts_cond h5.1 (snd cond (O.blk s H scope cl C' fp) h5.2).2.1
          · cases h5
        have q3 : ∀ (s : Shared) (H : Hp) (C' : Addr) (cl : List (Str × Addr)) (fp : List Addr), PG (X.blk s H scope (compEnvC scope cl C' X.env) fp) t (gT X.K tg) := fun s H C' cl fp => pg_T (O.blk s H scope cl C' fp).sto h2
        have q5 : ∀ (s : Shared) (H : Hp) (C' : Addr) (cl : List (Str × Addr)) (fp : List Addr), PE (X.blk s H scope (compEnvC scope cl C' X.env) fp) el (tE X.K ta (callF Γ.B n) .dat elt) := fun s H C' cl fp => (snd elt (O.blk s H scope cl C' fp) h4).dat pe
        have key := rd_comp (pos := p) O.calm O.nd q1 bo (blkOf_snd Γ tg) q3 q4 q5 (foldSet h3) (pair_tg h6 h2)
        have sw := swap_comp (env := X.env) (el := el) (gs := [⟨t, it, ifs, 0⟩]) (scope := scope) (pos := p) (py := px) (y := x) (l := pos.line) hk
        cases hw : swC X.env.scope x px (.ListComp el [⟨t, it, ifs, 0⟩] scope p) with
        | true =>
          rw [hw] at sw
          have hyl : X.env.scope.names.lookup x = some .local := by
            simp only [swC, Bool.and_eq_true, beq_iff_eq] at hw
            exact hw.1.1
          exact ⟨_, key.1, ps_setLc O.calm O.nd hN hyl sw q1 bo q3 q4 q5 (foldSet h3)⟩
        | false =>
          rw [hw] at sw
          exact ⟨_, fun σ H Q h => h, ps_set O.nd hN st.1 key.2 sw st.2⟩
      · cases h
    | comp2 elt tg ik src cond tg1 ik1 src1 cond1 =>
      have h := he
      rw [mE_comp2] at h
      split at h
      · simp only [Bool.and_eq_true, decide_eq_true_eq] at h
        obtain ⟨⟨⟨⟨⟨⟨⟨⟨⟨⟨⟨pe, h1⟩, h2⟩, h3⟩, h4⟩, h5⟩, _⟩, h7⟩, h8⟩, h9⟩, h10⟩, h11⟩ := h
        rename_i el t it ifs t1 it1 ifs1 scope p _
        have bo : BlkOk X.N X.env.scope scope (blkOf2 Γ tg tg1) := by rw [O.N, O.sc]; exact blkOk_by h1
        have q1 : PI X t it (tI X.K ta (callF Γ.B n) ik src) := src_ok O (fun xs hx => sndV src O hx) h10
        have q4 : ∀ (s : Shared) (H : Hp) (C' : Addr) (cl : List (Str × Addr)) (fp : List Addr), PTs (X.blk s H scope (compEnvC scope cl C' X.env) fp) ifs (tCond X.K ta (callF Γ.B n) cond) := by
          intro s H C' cl fp
          split at h8
          · exact pts_gone h8
          · simp only [Bool.and_eq_true, Bool.not_eq_true'] at h8
            exact pts_cond h8.1 (snd cond (O.blk s H scope cl C' fp) h8.2).2.1
          · cases h8
        have q9 : ∀ (s : Shared) (H : Hp) (C' : Addr) (cl : List (Str × Addr)) (fp : List Addr), PTs (X.blk s H scope (compEnvC scope cl C' X.env) fp) ifs1 (tCond X.K ta (callF Γ.B n) cond1) := by
          intro s H C' cl fp
          split at h9
          · exact pts_gone h9
          · simp only [Bool.and_eq_true, Bool.not_eq_true'] at h9
            exact pts_cond h9.1 (snd cond1 (O.blk s H scope cl C' fp) h9.2).2.1
          · cases h9
        have q3 : ∀ (s : Shared) (H : Hp) (C' : Addr) (cl : List (Str × Addr)) (fp : List Addr), PG (X.blk s H scope (compEnvC scope cl C' X.env) fp) t (gT X.K tg) := fun s H C' cl fp => pg_T (O.blk s H scope cl C' fp).sto h2
        have q8 : ∀ (s : Shared) (H : Hp) (C' : Addr) (cl : List (Str × Addr)) (fp : List Addr), PG (X.blk s H scope (compEnvC scope cl C' X.env) fp) t1 (gT X.K tg1) := fun s H C' cl fp => pg_T (O.blk s H scope cl C' fp).sto h3
        have q5 : ∀ (s : Shared) (H : Hp) (C' : Addr) (cl : List (Str × Addr)) (fp : List Addr), PE (X.blk s H scope (compEnvC scope cl C' X.env) fp) el (tE X.K ta (callF Γ.B n) .dat elt) := fun s H C' cl fp => (snd elt (O.blk s H scope cl C' fp) h7).dat pe
        have q7 : ∀ (s : Shared) (H : Hp) (C' : Addr) (cl : List (Str × Addr)) (fp : List Addr), PI (X.blk s H scope (compEnvC scope cl C' X.env) fp) t1 it1 (tIf X.K ta (callF Γ.B n) ik1 src1) :=
          fun s H C' cl fp => srcf_ok (O.blk s H scope cl C' fp) (fun xs hx => sndV src1 (O.blk s H scope cl C' fp) hx) (fun xs hx => sndK src1 (O.blk s H scope cl C' fp) hx) h11
        have key := rd_comp2 (pos := p) O.calm O.nd q1 bo (blkOf2_snd Γ tg tg1) q3 q4 q7 q8 q9 q5 (foldSet h4) (fun env => foldSet h5) (pair_tg h10 h2) (pair_tg h11 h3)
        have sw := swap_comp (env := X.env) (el := el) (gs := [⟨t, it, ifs, 0⟩, ⟨t1, it1, ifs1, 0⟩]) (scope := scope) (pos := p) (py := px) (y := x) (l := pos.line) hk
        cases hw : swC X.env.scope x px (.ListComp el [⟨t, it, ifs, 0⟩, ⟨t1, it1, ifs1, 0⟩] scope p) with
        | true =>
          rw [hw] at sw
          have hyl : X.env.scope.names.lookup x = some .local := by
            simp only [swC, Bool.and_eq_true, beq_iff_eq] at hw
            exact hw.1.1
          exact ⟨_, key.1, ps_setLc2 O.calm O.nd hN hyl sw q1 bo (fun i hi => by rw [blkOf2_snd]; exact List.mem_append_right _ hi) q3 q4 q7 q8 q9 q5 (foldSet h4) (fun env => foldSet h5)⟩
        | false =>
          rw [hw] at sw
          exact ⟨_, fun σ H Q h => h, ps_set O.nd hN st.1 key.2 sw st.2⟩
      · cases h
    | _ => cases hec
  · have hs' : swapsWith v (some (.Name x px)) pos.line X.env = pure false := by
      cases v <;> first | rfl | exact absurd rfl hv
    exact ⟨_, fun σ H Q h => h, ps_set O.nd hN st.1 (snd e O he).1 hs' st.2⟩
/-- several at once -/
theorem par_parts (O : XOk Γ n X) : ∀ {ts : List (Nat × Bool)} {es : List E} {vs : List Expr}, mPs ts es Γ vs = true → PA X vs (tM X.K ta (callF Γ.B n) (ts.map (·.2)) es)
  | [], [], [], _ => rm_nil
  | [], [], _ :: _, h => by cases h
  | [], _ :: _, _, h => by cases h
  | _ :: _, [], _, h => by cases h
  | _ :: _, _ :: _, [], h => by cases h
  | (i, b) :: ts, t :: r, x :: q, h => by
    simp only [mPs, Bool.and_eq_true] at h
    obtain ⟨⟨⟨h1, h2⟩, h3⟩, h4⟩ := h
    cases b with
    | false =>
      have h2 : plain t = true := by simpa using h2
      exact rm_dat ((snd t O h3).dat h2) (par_parts O h4) h1 (notStar_of h3)
    | true =>
      have h2 : kdOf t = .fresh := by simpa using h2
      have he := (snd (ta := ta) t O h3).1
      rw [h2] at he
      exact rm_own he (par_parts O h4) h1 (notStar_of h3)
theorem locs_cons {i : Nat} {b : Bool} {ts : List (Nat × Bool)} {tg : List Expr} {ns : List Str} (h : locsOk Γ ((i, b) :: ts) tg ns = true) : ∃ x px es ys, tg = .Name x px :: es ∧ ns = x :: ys ∧ Γ.N[i]? = some x ∧ Γ.sc.names.lookup x = some .local ∧ locsOk Γ ts es ys = true := by
  unfold locsOk at h
  split at h
  · rename_i a1; cases a1
  · rename_i a1
    cases a1
    simp only [Bool.and_eq_true, decide_eq_true_eq] at h
    obtain ⟨⟨⟨h1, rfl⟩, h3⟩, h4⟩ := h
    exact ⟨_, _, _, _, rfl, rfl, h1, h3, h4⟩
  · cases h
theorem locs_nil {tg : List Expr} {ns : List Str} (h : locsOk Γ [] tg ns = true) : tg = [] ∧ ns = [] := by
  unfold locsOk at h
  split at h
  · exact ⟨rfl, rfl⟩
  · rename_i a1; cases a1
  · cases h
theorem mPs_len : ∀ {ts : List (Nat × Bool)} {es : List E} {vs : List Expr}, mPs ts es Γ vs = true → vs.length = ts.length
  | [], [], [], _ => rfl
  | [], [], _ :: _, h => by cases h
  | [], _ :: _, _, h => by cases h
  | _ :: _, [], _, h => by cases h
  | _ :: _, _ :: _, [], h => by cases h
  | (i, b) :: ts, t :: r, x :: q, h => by
    simp only [mPs, Bool.and_eq_true] at h
    simp [mPs_len h.2]
theorem tM_len {K : Fg} {C : Nat → List D → M D} {bs : List Bool} {es : List E} {σ : L2.St} {H : Hp} {Q Q' : List V → Hp → Prop} (imp : ∀ vs H, vs.length = bs.length → Q vs H → Q' vs H) (h : tM K ta C bs es σ H Q) : tM K ta C bs es σ H Q' := by
  obtain ⟨G, ρ, τ, ds, τ', R, e, q⟩ := h
  exact ⟨G, ρ, τ, ds, τ', R, e, fun vs as G' H' x r w => imp vs H' w.lenB (q vs as G' H' x r w)⟩
theorem lenV2 {α : Type} {vs : List α} (h : vs.length = 2) : ∃ a b, vs = [a, b] := len2 h
theorem len3 {α : Type} {vs : List α} (h : vs.length = 3) : ∃ a b c, vs = [a, b, c] := by
  match vs, h with
  | [a, b, c], _ => exact ⟨a, b, c, rfl⟩
end
theorem sub_asg {o k : Expr} {pos : Pos} {env : PySem.Env} (h : notSlice k = true) : ∀ v, assign (.Subscript o k pos) env v = (do
      let ov ← holding [v] (eval o env)
      let iv ← holding [v, ov] (eval k env)
      standAt pos
      holding [v, ov, iv] (setItem ov iv v)
      release [v, ov, iv] []) := by
  intro v
  cases k <;> first | rfl | cases h
section
variable {Γ : Cn} {n : Nat} {X : Cx} {ta : Option Addr} {G₀ H₀ : Hp} {fr : Bool}
def krOf (fr : Bool) : Kd := if fr then .fresh else .dat
theorem krOf_ne : krOf fr ≠ .peek := by cases fr <;> decide
mutual
theorem sndS (O : XOk Γ n X) (hk : X.env.scope.kind = .function) (hx : X.xe = fun _ _ => False) (hH : X.H_0 = H₀) : ∀ (s : S) {st : Stmt}, mS fr s Γ st = true → PS X st (tS X.K ta G₀ H₀ (krOf fr) (evS (callF Γ.B n) s))
  | .asg i e, st, h => by
    simp only [mS] at h
    split at h
    · simp only [Bool.and_eq_true, decide_eq_true_eq] at h
      obtain ⟨⟨⟨⟨h1, h2⟩, h3⟩, h4⟩, h5⟩ := h
      obtain ⟨te, imp, ps⟩ := asg_parts (ta := ta) O hk h1 h2 h4 h5
      exact rs_asg (plain_ne h3) imp ps
    · cases h
  | .asgO i e, st, h => by
    simp only [mS] at h
    split at h
    · simp only [Bool.and_eq_true, decide_eq_true_eq] at h
      obtain ⟨⟨⟨⟨h1, h2⟩, h3⟩, h4⟩, h5⟩ := h
      obtain ⟨te, imp, ps⟩ := asg_parts (ta := ta) O hk h1 h2 h4 h5
      rw [h3] at imp
      exact rs_asgO imp ps
    · cases h
  | .unp is e, st, h => by
    simp only [mS] at h
    split at h
    · simp only [Bool.and_eq_true] at h
      obtain ⟨⟨⟨h1, h2⟩, h3⟩, h4⟩ := h
      rename_i ts k p v pos
      have hw : swappedStores [.Tuple ts k p] v X.env = pure none := by
        cases v <;> first
          | rfl
          | (simp only [decide_eq_true_eq] at h4; exact sw_eq hk (by rw [O.sc]; exact h4))
      refine rs_unp (ps_asg ((snd e O h3).dat h2) (pg_T O.sto (tg := .tup is) (e := .Tuple ts k p) h1) ?_ hw rfl)
      cases v <;> rfl
    · cases h
  | .par ts es, st, h => by
    simp only [mS] at h
    split at h
    · simp only [Bool.and_eq_true, decide_eq_true_eq] at h
      obtain ⟨⟨⟨⟨h1, h2⟩, h3⟩, h4⟩, h5⟩ := h
      rename_i tg k1 p1 vs k2 p2 pos
      have pa := par_parts (ta := ta) O h3
      split at h5
      · rename_i ns hns
        simp only [Bool.and_eq_true, decide_eq_true_eq] at h5
        obtain ⟨h6, h7⟩ := h5
        have hsw := sw_eq (k := k1) (k2 := k2) (p := p1) (p2 := p2) hk (show swN X.env.scope tg vs = some (some ns) by rw [O.sc]; exact hns)
        rcases h7 with h7 | h7
        · obtain ⟨⟨i, bi⟩, ⟨j, bj⟩, rfl⟩ := len2 h7
          obtain ⟨x, px, tg1, ns1, rfl, rfl, a1, a3, h6⟩ := locs_cons h6
          obtain ⟨y, py, tg2, ns2, rfl, rfl, b1, b3, h6⟩ := locs_cons h6
          obtain ⟨rfl, rfl⟩ := locs_nil h6
          obtain ⟨a, b, rfl⟩ := len2 (mPs_len h3)
          simp only [List.map_cons, List.map_nil, List.nodup_cons, List.mem_cons, List.not_mem_nil, or_false] at h2
          refine rs_par (ps_par O.calm O.nd (by rw [O.N]; exact a1) (by rw [O.N]; exact b1) h2.1 (by rw [O.sc]; exact a3) (by rw [O.sc]; exact b3) pa hsw rfl) fun Dn σ H h => ?_
          refine tM_len (fun us H1 hl q => ?_) h
          obtain ⟨u, w, rfl⟩ := len2 hl
          exact ⟨u, w, rfl, q.1⟩
        · obtain ⟨⟨i, bi⟩, ⟨j, bj⟩, ⟨l, bl⟩, rfl⟩ := len3 h7
          obtain ⟨x, px, tg1, ns1, rfl, rfl, a1, a3, h6⟩ := locs_cons h6
          obtain ⟨y, py, tg2, ns2, rfl, rfl, b1, b3, h6⟩ := locs_cons h6
          obtain ⟨z, pz, tg3, ns3, rfl, rfl, c1, c3, h6⟩ := locs_cons h6
          obtain ⟨rfl, rfl⟩ := locs_nil h6
          obtain ⟨a, b, c, rfl⟩ := len3 (mPs_len h3)
          simp only [List.map_cons, List.map_nil, List.nodup_cons, List.mem_cons, List.not_mem_nil, or_false, not_or] at h2
          refine rs_par (ps_par3 O.calm O.nd (by rw [O.N]; exact a1) (by rw [O.N]; exact b1) (by rw [O.N]; exact c1) h2.1.1 h2.1.2 h2.2.1 (by rw [O.sc]; exact a3) (by rw [O.sc]; exact b3) (by rw [O.sc]; exact c3) pa hsw rfl) fun Dn σ H h => ?_
          refine tM_len (fun us H1 hl q => ?_) h
          obtain ⟨u, v, w, rfl⟩ := len3 hl
          exact ⟨u, v, w, rfl, q.1⟩
      · rename_i hns
        have hsw := sw_eq (k := k1) (k2 := k2) (p := p1) (p2 := p2) hk (show swN X.env.scope tg vs = some none by rw [O.sc]; exact hns)
        refine rs_par (ps_asg (pe_tupP pa) (pg_T O.sto (tg := .tup (ts.map fun x : Nat × Bool => x.1)) (e := .Tuple tg k1 p1) h1) rfl hsw rfl) fun Dn σ H h => ?_
        refine tM_len (fun us H1 hl q => ?_) h
        have h5 : ts.length ≤ 8 := by simpa using h5
        rw [List.length_map] at hl
        refine ⟨by rw [hl]; exact Nat.le_trans h5 (by decide), fun o p ho hp => ⟨p, us, rfl, PlT.sq ⟨o, upd_same, ho⟩, by rw [List.length_map]; exact hl, setL_gNs (by rw [List.length_map]; exact hl) (q.2 p _ hp)⟩⟩
      · cases h5
    · cases h
  | .sto i ix e, st, h => by
    simp only [mS] at h
    split at h
    · simp only [Bool.and_eq_true, Bool.not_eq_true'] at h
      obtain ⟨⟨⟨⟨h1, h2⟩, h3⟩, h4⟩, h6⟩ := h
      obtain ⟨g1, g2, g3, g4⟩ := O.var h1
      rename_i x p1 k p2 v pos
      refine rs_sto hH (ps_asg ((snd e O h3).dat h2) (pg_sub (pe_var g1 g2 g3 g4) (snd ix O h4).1 (set_own O.units) (sub_asg h6)) ?_ ?_ rfl)
      · cases v <;> rfl
      · cases v <;> rfl
    · cases h
  | .stoT i ix e, st, h => by
    simp only [mS] at h
    split at h
    · simp only [Bool.and_eq_true, Bool.not_eq_true'] at h
      obtain ⟨⟨⟨⟨h1, h2⟩, h3⟩, h4⟩, h6⟩ := h
      obtain ⟨g1, g2, g3, g4⟩ := O.var h1
      rename_i x p1 k p2 v pos
      refine rs_stoT (ps_asg ((snd e O h3).dat h2) (pg_sub (pe_var g1 g2 g3 g4) (snd ix O h4).1 set_list (sub_asg h6)) ?_ ?_ rfl)
      · cases v <;> rfl
      · cases v <;> rfl
    · cases h
  | .app i e, st, h => by
    simp only [mS] at h
    split at h
    · simp only [Bool.and_eq_true, decide_eq_true_eq] at h
      obtain ⟨⟨⟨⟨⟨rfl, h1⟩, h2⟩, h3⟩, h4⟩, h5⟩ := h
      obtain ⟨g1, g2, g3, g4⟩ := O.var h1
      refine rs_app (notStar_of h4) (ps_expr (pe_bm PySem.F.plainAttrs_list PySem.F.slot_list_append PySem.F.type_list_append mt_append (pe_var g1 g2 g3 g4) (rk_cons ((snd e O h4).dat h3) rk_nil h2 (notStar_of h4)) rfl ?_ h5 (star_no h2) rfl) rfl)
      rw [star_no h2]
      rfl
    · cases h
  | .extd i e, st, h => by
    simp only [mS] at h
    split at h
    · simp only [Bool.and_eq_true, decide_eq_true_eq] at h
      obtain ⟨⟨⟨⟨rfl, h1⟩, h2⟩, h4⟩, h5⟩ := h
      obtain ⟨g1, g2, g3, g4⟩ := O.var h1
      refine rs_extd (notStar_of h4) (ps_expr (pe_bm PySem.F.plainAttrs_list PySem.F.slot_list_extend PySem.F.type_list_extend mt_ext (pe_var g1 g2 g3 g4) (rv_cons (snd e O h4).1 rv_nil h2 (notStar_of h4)) rfl ?_ h5 (star_no h2) rfl) rfl)
      rw [star_no h2]
      rfl
    · cases h
  | .pop tg i, st, h => by
    simp only [mS] at h
    split at h
    · rename_i t x p1 m p2 p3 p4
      simp only [Bool.and_eq_true, decide_eq_true_eq, Bool.not_eq_true'] at h
      obtain ⟨⟨⟨⟨rfl, h1⟩, h2⟩, h4⟩, h5⟩ := h
      obtain ⟨g1, g2, g3, g4⟩ := O.var h1
      refine rs_pop (fun z => ?_) (ps_asg (pe_bm0 PySem.F.plainAttrs_list PySem.F.slot_list_pop PySem.F.type_list_pop mt_pop (pe_var g1 g2 g3 g4) rfl h5) (pg_T O.sto h2) rfl ?_ ?_)
      · simp [z] at h4
      · cases t <;> rfl
      · cases t <;> first | rfl | (cases tg <;> cases h2)
    · cases h
  | .rais, st, h => PS.mono ps_never fun Dn σ H h => by
    obtain ⟨G, ρ, τ, o, τ', S, e0, fin⟩ := h
    cases e0
  | .expr e, st, h => by
    simp only [mS] at h
    split at h
    · simp only [Bool.and_eq_true, Bool.not_eq_true'] at h
      obtain ⟨h1, h2⟩ := h
      rename_i v pos
      refine rs_expr (ps_expr (snd e O h1).1 ?_)
      cases v <;> first | rfl | cases h2
    · cases h
  | .ret e, st, h => by
    simp only [mS] at h
    split at h
    · simp only [Bool.and_eq_true] at h
      obtain ⟨h1, h2⟩ := h
      cases fr with
      | true =>
        have h2 : kdOf e = .fresh := by simpa using h2
        have he := (snd (ta := ta) e O h1).1
        rw [h2] at he
        exact rs_ret (by decide) (ps_ret he)
      | false =>
        have h2 : plain e = true := by simpa using h2
        exact rs_ret (by decide) (ps_ret ((snd (ta := ta) e O h1).dat h2))
    · cases h
  | .ite c a b, st, h => by
    simp only [mS] at h
    split at h
    · simp only [Bool.and_eq_true] at h
      obtain ⟨⟨h1, h2⟩, h3⟩ := h
      exact rs_ite (u := tNext) (v := tNext) (ps_if (snd c O h1).2.1 (sndSs O hk hx hH a h2) (sndSs O hk hx hH b h3))
    · cases h
  | .loop tg ik src body, st, h => by
    simp only [mS] at h
    split at h
    · simp only [Bool.and_eq_true] at h
      obtain ⟨⟨⟨h1, h2⟩, h3⟩, h4⟩ := h
      exact rs_loop (pair_tg h3 h1) (ps_for (by rw [hx]; exact PassesOwn.never) O.calm (srcf_ok O (fun xs hx => sndV src O hx) (fun xs hx => sndK src O hx) h3) (pg_T O.sto h1) (sndSs O hk hx hH body h4) (foldSet h2))
    · cases h
  | .while m c body, st, h => by
    simp only [mS] at h
    split at h
    · simp only [Bool.and_eq_true] at h
      exact rs_while (ps_while (by rw [hx]; exact PassesOwn.never) (snd c O h.1).2.1 (sndSs O hk hx hH body h.2))
    · cases h
  | .cont, st, h => by
    simp only [mS] at h
    split at h
    · exact rs_cont ps_continue
    · cases h
  | .pass, st, h => by
    simp only [mS] at h
    split at h
    · exact rs_pass ps_pass
    · cases h
  | .frz _, st, h => by simp [mS] at h
theorem sndSs (O : XOk Γ n X) (hk : X.env.scope.kind = .function) (hx : X.xe = fun _ _ => False) (hH : X.H_0 = H₀) : ∀ (ss : List S) {sts : List Stmt}, mSs fr ss Γ sts = true → PSs X sts (tS X.K ta G₀ H₀ (krOf fr) (evSs (callF Γ.B n) ss))
  | [], sts, h => by
    cases sts with
    | nil => exact rss_nil
    | cons _ _ => simp [mSs] at h
  | s :: r, sts, h => by
    cases s with
    | frz i =>
      simp only [mSs] at h
      exact rss_frz (sndSs O hk hx hH r h)
    | _ =>
      simp only [mSs] at h
      split at h
      · simp only [Bool.and_eq_true] at h
        exact rss_cons (sndS O hk hx hH _ h.1) (sndSs O hk hx hH r h.2)
      · cases h
end
end
end KN

set_option maxRecDepth 100000
set_option maxHeartbeats 4000000
namespace KN
open PySem L2 PyProof.Rows
/-! ### a def's text as a whole -/
def scB (N P : List Str) (sc : Scope) : Bool := (match sc.kind with
  | .function => true
  | _ => false) && !sc.isCoroutine && !sc.isGenerator && decide (N.Nodup) && decide (N.take P.length = P) && (P.all fun x => match sc.names.lookup x with
  | some .local => true
  | some .cell => true
  | _ => false) && (sc.names.all fun y => match y.2 with
  | .free => false
  | _ => true)
theorem scB_of {N P : List Str} {sc : Scope} (h : scB N P sc = true) : FnScope N P sc := by
  simp only [scB, Bool.and_eq_true, Bool.not_eq_true', decide_eq_true_eq, List.all_eq_true] at h
  obtain ⟨⟨⟨⟨⟨⟨h1, h2⟩, h3⟩, h4⟩, h5⟩, h6⟩, h7⟩ := h
  refine ⟨?_, h2, h3, h4, h5, fun x hx => ?_, fun y hy => ?_⟩
  · split at h1
    · assumption
    · cases h1
  · have := h6 x hx
    split at this
    · rename_i e; exact .inl e
    · rename_i e; exact .inr e
    · cases this
  · have := h7 y hy
    split at this
    · cases this
    · rename_i e; exact e
def cnOf (T : List (Nat × Fn)) (B : Tb) (gl : List (Str × D)) (kw : List Kw) (F : Fn) (st : Stmt) : Cn := ⟨F.N, defScope st, none, T, B, gl, kw⟩
/-- the text of each def is the row's -/
def textOk (T : List (Nat × Fn)) (B : Tb) (gl : List (Str × D)) (kw : List Kw) : List (Nat × Fn) → List Stmt → Bool
  | [], [] => true
  | F :: r, st :: q => scB F.2.N F.2.ps (defScope st) && mSs F.2.fresh F.2.body (cnOf T B gl kw F.2 st) (defBody st) && textOk T B gl kw r q
  | _, _ => false
/-- what stands behind the top of a def -/
structure FnAt (K : Fg) (mg : Str → Option Value) (kw : List Kw) (i : Nat) (F : Fn) (st : Stmt) : Prop where
  ex : ∃ f fd, Fun K F.name F.name st f fd ∧ mg F.name = some (.ref f) ∧ Binds K fd F.ps [] ∧ ∀ p ∈ kw, p.f = i → KBinds K fd F.ps p.ks (gP p) (gP p)
def AllAt (K : Fg) (mg : Str → Option Value) (kw : List Kw) : List (Nat × Fn) → List Stmt → Prop
  | [], [] => True
  | F :: r, st :: q => FnAt K mg kw F.1 F.2 st ∧ AllAt K mg kw r q
  | _, _ => False
theorem look_cons {α : Type} {i j : Nat} {a b : α} {l : List (Nat × α)} (h : ((j, a) :: l).lookup i = some b) : (i = j ∧ b = a) ∨ l.lookup i = some b := by
  rw [List.lookup_cons] at h
  split at h
  · rename_i e
    cases h
    exact .inl ⟨by simpa using e, rfl⟩
  · exact .inr h
theorem all_get {K : Fg} {mg : Str → Option Value} {kw : List Kw} {T : List (Nat × Fn)} {B : Tb} {gl : List (Str × D)} : ∀ {l : List (Nat × Fn)} {sts : List Stmt}, AllAt K mg kw l sts → textOk T B gl kw l sts = true → ∀ (i : Nat) F, l.lookup i = some F →
    ∃ st, FnAt K mg kw i F st ∧ FnScope F.N F.ps (defScope st) ∧ mSs F.fresh F.body (cnOf T B gl kw F st) (defBody st) = true
  | [], _, _, _, i, F, e => by simp at e
  | _ :: _, [], h, _, _, _, _ => by cases h
  | (j, F0) :: r, st :: q, h, c, i, F, e => by
    simp only [textOk, Bool.and_eq_true] at c
    rcases look_cons e with ⟨rfl, rfl⟩ | e
    · exact ⟨st, h.1, scB_of c.1.1, c.1.2⟩
    · exact all_get h.2 c.2 i F e
/-! ### the start of a def -/
theorem env0_get {F : Fb} {ds : List D} {i : Nat} {x : Ent} (h : (env0 F ds)[i]? = some (some x)) : (F.tin = true ∧ i = 0 ∧ x = .tin) ∨ ∃ k d, i = (if F.tin then k + 1 else k) ∧ ds[k]? = some d ∧ x = .dat d := by
  unfold env0 at h
  have tail : ∀ {j : Nat} {x : Ent}, (ds.map (fun d => some (Ent.dat d)) ++ List.replicate (F.nN - F.np) none)[j]? = some (some x) → ∃ d, ds[j]? = some d ∧ x = .dat d := fun {j x} h => by
    rw [List.getElem?_append] at h
    split at h
    · rw [List.getElem?_map] at h
      cases e : ds[j]? with
      | none => rw [e] at h; cases h
      | some d =>
        rw [e] at h
        simp only [Option.map_some, Option.some.injEq] at h
        exact ⟨d, rfl, h.symm⟩
    · rw [List.getElem?_replicate] at h
      split at h <;> cases h
  cases ht : F.tin with
  | false =>
    rw [ht] at h
    simp only [Bool.false_eq_true, if_false, List.nil_append] at h
    obtain ⟨d, h1, h2⟩ := tail h
    exact .inr ⟨i, d, by simp, h1, h2⟩
  | true =>
    rw [ht] at h
    simp only [if_true, List.cons_append, List.nil_append] at h
    cases i with
    | zero =>
      simp only [List.getElem?_cons_zero, Option.some.injEq] at h
      exact .inl ⟨rfl, rfl, h.symm⟩
    | succ i =>
      rw [List.getElem?_cons_succ] at h
      obtain ⟨d, h1, h2⟩ := tail h
      exact .inr ⟨i, d, by simp, h1, h2⟩
theorem start_get {N : List Str} {vs : List V} {i : Nat} {v : V} (h : vs[i]? = some v) : (start N vs)[i]? = some (some v) := by
  unfold L2.start
  have hl : i < (vs.map some).length := by
    rw [List.length_map]
    exact (List.getElem?_eq_some_iff.mp h).1
  rw [List.getElem?_append_left hl, List.getElem?_map, h]
  rfl
theorem rel_start {K : Fg} {ta : Option Addr} {G H : Hp} {τ : List D} {F : Fn} {vs ws : List V} {ds : List D} (sm : Same G H) (ht : TinOk K ta G H τ) (hv : match F.tin with
    | true => ∃ a, ta = some a ∧ vs = .ref a :: ws
    | false => ta = none ∧ vs = ws) (dr : DRs K G ws ds) (hl : vs.length = F.ps.length) (hn : F.ps.length ≤ F.N.length) : RelS K ta G H G (start F.N vs) H (env0 F.fb ds) τ := by
  have at_ : ∀ {k : Nat} {d : D}, ds[k]? = some d → ∃ v, vs[if F.fb.tin then k + 1 else k]? = some v ∧ DR K G v d := fun {k d} e => by
    obtain ⟨v, h1, h2⟩ := dr.get e
    have hb : F.fb.tin = F.tin := rfl
    rw [hb]
    cases hF : F.tin with
    | true =>
      rw [hF] at hv
      obtain ⟨a, _, rfl⟩ := hv
      exact ⟨v, by simpa using h1, h2⟩
    | false =>
      rw [hF] at hv
      obtain ⟨_, rfl⟩ := hv
      exact ⟨v, by simpa using h1, h2⟩
  refine ⟨⟨sm, ht, fun i d e => ?_, fun i es e => ?_, fun i j es fs a _ e _ _ => ?_, fun i e => ?_, ?_⟩, Ext.refl, fun i es a e _ => ?_⟩
  · rcases env0_get e with ⟨_, _, z⟩ | ⟨k, d', rfl, h1, h2⟩
    · cases z
    · cases h2
      obtain ⟨v, h3, h4⟩ := at_ h1
      exact ⟨v, start_get h3, h4⟩
  · rcases env0_get e with ⟨_, _, z⟩ | ⟨k, d', _, h1, h2⟩
    · cases z
    · cases h2
  · rcases env0_get e with ⟨_, _, z⟩ | ⟨k, d', _, h1, h2⟩
    · cases z
    · cases h2
  · rcases env0_get e with ⟨hF, rfl, _⟩ | ⟨k, d', _, h1, h2⟩
    · have hF : F.tin = true := hF
      rw [hF] at hv
      obtain ⟨a, h1, rfl⟩ := hv
      exact ⟨a, h1, start_get rfl⟩
    · cases h2
  · have l1 := dr.length
    unfold env0 L2.start
    have hb : F.fb.tin = F.tin := rfl
    have hc : F.fb.nN = F.N.length := rfl
    have hd : F.fb.np = F.ps.length := rfl
    rw [List.length_append, List.length_append, List.length_append, List.length_map, List.length_map, List.length_replicate, List.length_replicate, hb, hc, hd]
    clear at_
    clear hb
    cases hF : F.tin with
    | true =>
      rw [hF] at hv
      obtain ⟨a, _, rfl⟩ := hv
      simp only [List.length_cons] at hl ⊢
      simp
      omega
    | false =>
      rw [hF] at hv
      obtain ⟨_, rfl⟩ := hv
      simp
      omega
  · rcases env0_get e with ⟨_, _, z⟩ | ⟨k, d', _, h1, h2⟩
    · cases z
    · cases h2
theorem callF_some {T : Tb} {n f : Nat} {ds : List D} {τ τ' : List D} {d : D} {F : Fb} (hF : T f = some F) (h : callF T (n + 1) f ds τ = some (d, τ')) :
    (if F.tin then ds.length + 1 else ds.length) = F.np ∧ ∃ o, evSs (callF T n) F.body (env0 F ds) τ = some (o, τ') ∧ outD o = some d := by
  have h : (match T f with
    | none => M.fail
    | some F => if (if F.tin then ds.length + 1 else ds.length) = F.np then (evSs (callF T n) F.body (env0 F ds)).bnd fun o => .of (outD o) else .fail) τ = some (d, τ') := h
  rw [hF] at h
  simp only at h
  by_cases hl : (if F.tin then ds.length + 1 else ds.length) = F.np
  · rw [if_pos hl] at h
    obtain ⟨o, τ1, e1, f1⟩ := bnd_some h
    obtain ⟨g1, rfl⟩ := of_some f1
    exact ⟨hl, o, e1, g1⟩
  · rw [if_neg hl] at h
    cases h
/-- one def, by one more than its callees -/
theorem fn_step {P : Program} {w : World} {K : Fg} {mg : Str → Option Value} {base : Heap} {T : List (Nat × Fn)} {B : Tb} {gl : List (Str × D)} {kw : List Kw} (hb : ∀ x ∈ biL, mg x = none) (hg : ∀ p ∈ gl, GlV mg p) (hB : ∀ (i : Nat) (F : Fn), T.lookup i = some F → B i = some F.fb) {n : Nat}
    (ih : ∀ (i : Nat) (F : Fn), T.lookup i = some F → ∃ f fd, mg F.name = some (.ref f) ∧ PySem.W.keepIn K (.ref f) = true ∧ Binds K fd F.ps [] ∧ FnOk P w K mg base CX0 n f fd F.ps (spF K (callF B n) i F.tin F.fresh) ∧ ∀ p ∈ kw, p.f = i → KBinds K fd F.ps p.ks (gP p) (gP p))
    {i : Nat} {F : Fn} {st : Stmt} {f : Addr} {fd : FuncData} (hF : T.lookup i = some F) (h1 : Fun K F.name F.name st f fd) (h5 : FnScope F.N F.ps (defScope st)) (h6 : mSs F.fresh F.body (cnOf T B gl kw F st) (defBody st) = true) :
    FnOk P w K mg base CX0 (n + 1) f fd F.ps (spF K (callF B (n + 1)) i F.tin F.fresh) := by
    have lenOk : ∀ vs H Q E, spF K (callF B (n + 1)) i F.tin F.fresh vs H Q E → vs.length = F.ps.length := fun vs H Q E q => by
      obtain ⟨G, ta, ws, ds, τ, d, τ', sm, ht, hv, dr, ec, q⟩ := q
      obtain ⟨hl, _⟩ := callF_some (hB _ _ hF) ec
      have hl : (if F.tin then ds.length + 1 else ds.length) = F.ps.length := hl
      have l1 := dr.length
      cases ht' : F.tin with
      | true =>
        rw [ht'] at hv hl
        obtain ⟨a, _, rfl⟩ := hv
        simp only [if_true] at hl
        simp only [List.length_cons]
        omega
      | false =>
        rw [ht'] at hv hl
        obtain ⟨_, rfl⟩ := hv
        simp only [Bool.false_eq_true, if_false] at hl
        omega
    refine h1.ok h5 lenOk fun cdv A outer s H vs Q E hr hsp => ?_
    have hl := lenOk vs H Q E hsp
    obtain ⟨G, ta, ws, ds, τ, d, τ', sm, ht, hv, dr, ec, q⟩ := hsp
    obtain ⟨_, o, e1, e2⟩ := callF_some (hB _ _ hF) ec
    have hn : F.ps.length ≤ F.N.length := by
      have := congrArg List.length h5.pre
      rw [List.length_take] at this
      omega
    have O : XOk (cnOf T B gl kw F st) n (cxOf CX0 P w K mg base F.N F.name (defScope st) f cdv A outer s H E).nox :=
      { N := rfl, nd := h5.nd, sc := rfl, fn := rfl, calm := rfl, room := hr, bi := hb, gl := hg, fns := ih }
    refine ⟨_, sndSs (ta := ta) (G₀ := G) (H₀ := H) (fr := F.fresh) O h5.kind rfl rfl F.body h6, G, env0 F.fb ds, τ, o, τ', rel_start sm ht hv dr hl hn, e1, ?_⟩
    cases o with
    | nx ρ' =>
      cases e2
      intro σ' G' H' _ S'
      refine q _ G' H' S'.ext S'.rel.sub S'.rel.tin ?_
      cases F.fresh with
      | true => exact .inl ⟨.non, rfl⟩
      | false => exact .non
    | ct ρ' => cases e2
    | rt d' =>
      cases e2
      intro v G' H' x' s' t' w'
      exact q v G' H' x' s' t' w'
/-- THE RULE: every def keeps its promise, by as much as the number says -/
theorem fns_ok {P : Program} {w : World} {K : Fg} {mg : Str → Option Value} {base : Heap} {T : List (Nat × Fn)} {B : Tb} {gl : List (Str × D)} {kw : List Kw} {sts : List Stmt} (hb : ∀ x ∈ biL, mg x = none) (hg : ∀ p ∈ gl, GlV mg p) (hB : ∀ (i : Nat) (F : Fn), T.lookup i = some F → B i = some F.fb) (hc : textOk T B gl kw T sts = true) (ha : AllAt K mg kw T sts) :
    ∀ (n i : Nat) (F : Fn), T.lookup i = some F → ∃ f fd, mg F.name = some (.ref f) ∧ PySem.W.keepIn K (.ref f) = true ∧ Binds K fd F.ps [] ∧ FnOk P w K mg base CX0 n f fd F.ps (spF K (callF B n) i F.tin F.fresh) ∧ ∀ p ∈ kw, p.f = i → KBinds K fd F.ps p.ks (gP p) (gP p) := by
  intro n
  induction n with
  | zero =>
    intro i F hF
    obtain ⟨st, ⟨f, fd, h1, h2, h3, h4⟩, h5, h6⟩ := all_get ha hc i F hF
    refine ⟨f, fd, h2, h1.kp, h3, ⟨fun vs H Q E q => ?_, fun A outer s H args us vs Q E _ _ _ _ q => ?_⟩, h4⟩
    · obtain ⟨_, _, _, _, _, _, _, _, _, _, _, z, _⟩ := q
      cases z
    · obtain ⟨_, _, _, _, _, _, _, _, _, _, _, z, _⟩ := q
      cases z
  | succ n ih =>
    intro i F hF
    obtain ⟨st, ⟨f, fd, h1, h2, h3, h4⟩, h5, h6⟩ := all_get ha hc i F hF
    exact ⟨f, fd, h2, h1.kp, h3, fn_step hb hg hB ih hF h1 h5 h6, h4⟩
theorem text_get {T : List (Nat × Fn)} {B : Tb} {gl : List (Str × D)} {kw : List Kw} : ∀ {l : List (Nat × Fn)} {sts : List Stmt}, textOk T B gl kw l sts = true → ∀ (k i : Nat) F st, l[k]? = some (i, F) → sts[k]? = some st → FnScope F.N F.ps (defScope st) ∧ mSs F.fresh F.body (cnOf T B gl kw F st) (defBody st) = true
  | [], _, _, _, _, _, _, e, _ => by simp at e
  | _ :: _, [], c, _, _, _, _, _, _ => by cases c
  | F0 :: r, st0 :: q, c, 0, i, F, st, e, e' => by
    simp only [List.getElem?_cons_zero, Option.some.injEq] at e e'
    subst e
    subst e'
    simp only [textOk, Bool.and_eq_true] at c
    exact ⟨scB_of c.1.1, c.1.2⟩
  | F0 :: r, st0 :: q, c, k + 1, i, F, st, e, e' => by
    simp only [textOk, Bool.and_eq_true] at c
    exact text_get c.2 k i F st (by simpa using e) (by simpa using e')
/-- a def at the top, from what the top has written -/
theorem at_mk {K : Fg} {h : Heap} {mg : Str → Option Value} {kw : List Kw} {i : Nat} {F : Fn} {st : Stmt} {f : Addr} {od an : Option Addr} {sl : Array (Option Value)} {oc kV dc pm cd ct : Value} (X : K.In h) (G : h.Ns mainGlobals mg)
    (a : PySem.W.nsIn K mainGlobals F.name = some (some (.ref f))) (l : K.lookup f = some ⟨oc, od, .func (PySem.W.fnOf F.name F.name (defArgs st) (defBody st) (defScope st) .none kV dc pm an cd ct), sl⟩) (c : PySem.W.codeIn K cd F.name = true) (k : PySem.W.keepIn K (.ref f) = true)
    (hb : ∀ (kV doc pm : Value) (an : Option Addr) (cdv ct : Value) (us : List Value), us.length = F.ps.length → bindArgs (PySem.W.fnOf F.name F.name (defArgs st) (defBody st) (defScope st) .none kV doc pm an cdv ct) ⟨us, []⟩ = pure (F.ps.zip us))
    (hw : ∀ p ∈ kw, p.f = i → KBinds K (PySem.W.fnOf F.name F.name (defArgs st) (defBody st) (defScope st) .none kV dc pm an cd ct) F.ps p.ks (gP p) (gP p)) : FnAt K mg kw i F st :=
  have F1 := fun_mk (st := st) l c k
  ⟨f, _, F1, PySem.W.mg_of X G a, F1.binds hb, hw⟩
/-- the law itself -/
theorem law_mk {P : Program} {w : World} {K : Fg} {h : Heap} {mg : Str → Option Value} {T : List (Nat × Fn)} {B : Tb} {gl : List (Str × D)} {kw : List Kw} {sts : List Stmt} (X : K.In h) (G : h.Ns mainGlobals mg) (hb : ∀ x ∈ biL, mg x = none) (hg : ∀ p ∈ gl, GlV mg p) (hB : ∀ (i : Nat) (F : Fn), T.lookup i = some F → B i = some F.fb) (hc : textOk T B gl kw T sts = true) (ha : AllAt K mg kw T sts)
    {k0 i : Nat} {F : Fn} {st : Stmt} {f fa : Addr} {od an : Option Addr} {sl : Array (Option Value)} {oc kV dc pm cd ct : Value} {x : Str} (hfa : mg F.name = some (.ref fa)) (hF : T.lookup i = some F) (hF0 : T[k0]? = some (i, F)) (hs : sts[k0]? = some st) (ht : F.tin = false) (hfr : F.fresh = false) (hps : F.ps = [x])
    (a : PySem.W.nsIn K mainGlobals F.name = some (some (.ref f))) (l : K.lookup f = some ⟨oc, od, .func (PySem.W.fnOf F.name F.name (defArgs st) (defBody st) (defScope st) .none kV dc pm an cd ct), sl⟩) (c : PySem.W.codeIn K cd F.name = true) (k : PySem.W.keepIn K (.ref f) = true)
    (hbd : ∀ (kV doc pm : Value) (an : Option Addr) (cdv ct : Value) (us : List Value), us.length = F.ps.length → bindArgs (PySem.W.fnOf F.name F.name (defArgs st) (defBody st) (defScope st) .none kV doc pm an cdv ct) ⟨us, []⟩ = pure (F.ps.zip us)) (n : Nat) :
    ∃ fd : FuncData, (∀ (s : Shared) (v : Value), BindsTo s fd ⟨[v], []⟩ [(x, v)]) ∧ ∀ base : Heap, K.In base → base.Ns mainGlobals mg → FnOk P w K mg base CX0 (n + 1) fa fd [x] (spF K (callF B (n + 1)) i false false) := by
  have e := hfa.symm.trans (PySem.W.mg_of X G a)
  cases e
  obtain ⟨h5, h6⟩ := text_get hc k0 i F st hF0 hs
  refine ⟨PySem.W.fnOf F.name F.name (defArgs st) (defBody st) (defScope st) .none kV dc pm an cd ct, fun s v => ?_, fun base _ _ => ?_⟩
  rotate_left
  · have := fn_step (P := P) (w := w) (base := base) hb hg hB (fns_ok hb hg hB hc ha n) hF (fun_mk (st := st) l c k) h5 h6
    rw [ht, hfr, hps] at this
    exact this
  · have := hbd kV dc pm an cd ct [v] (by rw [hps]; rfl)
    rw [hps] at this
    exact .of_eq this
/-! ### keywords -/
theorem gP_rel {p : Kw} {vs zs : List V} {us ws : List Value} (h1 : Vals vs us) (h2 : Vals zs ws) : Vals (gP p vs zs) (gP (α := Value) p us ws) := by
  unfold gP
  rw [h1.length, h2.length]
  split
  · have ap := h1.append h2
    unfold permL
    generalize p.perm = l
    induction l with
    | nil => exact .nil
    | cons i r ih =>
      refine .cons ?_ ih
      show RelV ((vs ++ zs).getD i default) ((us ++ ws).getD i default)
      rw [List.getD_eq_getElem?_getD, List.getD_eq_getElem?_getD]
      cases e : (vs ++ zs)[i]? with
      | none =>
        rw [ap.none_of e]
        exact rfl
      | some v =>
        obtain ⟨u, e1, e2⟩ := ap.get e
        rw [e1]
        exact e2
  · exact .nil
theorem kw_of {K : Fg} {fd : FuncData} {ps : List Str} {p : Kw} (h : ∀ (s : Shared) (us ws : List Value), us.length = p.np → ws.length = p.ks.length → BindsTo s fd ⟨us, p.ks.zip ws⟩ (ps.zip (permL p.perm (us ++ ws)))) (hne : ps ≠ []) : KBinds K fd ps p.ks (gP p) (gP p) := by
  refine ⟨fun s us ws _ hl => ?_, fun h1 h2 => gP_rel h1 h2⟩
  unfold gP at hl ⊢
  split
  · rename_i c
    exact h s us ws c.1 c.2
  · rename_i c
    rw [if_neg c] at hl
    exact absurd (List.eq_nil_of_length_eq_zero hl.symm) hne
/-! ### the law's end -/
/-- the law's promise: its own run of data says True for every script -/
theorem law_sp {K : Fg} {T : Tb} {n i : Nat} {H : Hp} {a : Addr} {ns : List Int} (hS : SqL K H a (ns.map V.int)) (h : ∃ τ', callF T n i [.list (ns.map PyData.int)] [] = some (.bool true, τ')) :
    spF K (callF T n) i false false [.ref a] H (fun v _ => v = .bl true) fun _ _ _ => False := by
  obtain ⟨τ', h⟩ := h
  refine ⟨H, none, [.ref a], _, [], _, τ', fun _ _ h => h, (fun _ z => nomatch z), ⟨rfl, rfl⟩, .cons (.lst hS (DRs.ofInts ns)) .nil, h, fun v G' H' _ _ _ w => ?_⟩
  cases w
  rfl
end KN

set_option maxRecDepth 100000
set_option maxHeartbeats 4000000
namespace KN
open PySem L2 PyProof.Rows
/-! ### plain reasoning over runs of data -/
def Ok {α : Type} (m : M α) (τ : List D) (Q : α → List D → Prop) : Prop := ∃ a τ', m τ = some (a, τ') ∧ Q a τ'
theorem Ok.mono {α : Type} {m : M α} {τ : List D} {Q R : α → List D → Prop} (h : Ok m τ Q) (f : ∀ a τ', Q a τ' → R a τ') : Ok m τ R := by
  obtain ⟨a, τ', e, q⟩ := h
  exact ⟨a, τ', e, f _ _ q⟩
@[simp] theorem ok_ret {α : Type} {a : α} {τ : List D} {Q : α → List D → Prop} : Ok (M.ret a) τ Q ↔ Q a τ :=
  ⟨fun ⟨_, _, e, q⟩ => by cases e; exact q, fun q => ⟨_, _, rfl, q⟩⟩
@[simp] theorem ok_fail {α : Type} {τ : List D} {Q : α → List D → Prop} : Ok (M.fail : M α) τ Q ↔ False :=
  ⟨fun ⟨_, _, e, q⟩ => (nomatch e), False.elim⟩
@[simp] theorem ok_bnd {α β : Type} {x : M α} {f : α → M β} {τ : List D} {Q : β → List D → Prop} : Ok (x.bnd f) τ Q ↔ Ok x τ fun a τ' => Ok (f a) τ' Q :=
  ⟨fun ⟨_, _, e, q⟩ => by
    obtain ⟨a, τ1, e1, e2⟩ := bnd_some e
    exact ⟨a, τ1, e1, _, _, e2, q⟩, fun ⟨a, τ1, e1, b, τ2, e2, q⟩ => ⟨b, τ2, by unfold M.bnd; rw [e1]; exact e2, q⟩⟩
theorem ok_of {α : Type} {o : Option α} {τ : List D} {Q : α → List D → Prop} : Ok (M.of o) τ Q ↔ ∃ a, o = some a ∧ Q a τ :=
  ⟨fun ⟨a, _, e, q⟩ => by
    obtain ⟨e1, rfl⟩ := of_some e
    exact ⟨a, e1, q⟩, fun ⟨a, e, q⟩ => ⟨a, τ, by subst e; rfl, q⟩⟩
@[simp] theorem ok_of_some {α : Type} {a : α} {τ : List D} {Q : α → List D → Prop} : Ok (M.of (some a)) τ Q ↔ Q a τ := by
  rw [ok_of]
  exact ⟨fun ⟨_, e, q⟩ => by cases e; exact q, fun q => ⟨_, rfl, q⟩⟩
@[simp] theorem ok_if {α : Type} {c : Prop} [Decidable c] {m m' : M α} {τ : List D} {Q : α → List D → Prop} : Ok (if c then m else m') τ Q ↔ (c → Ok m τ Q) ∧ (¬ c → Ok m' τ Q) := by
  by_cases h : c
  · rw [if_pos h]; exact ⟨fun q => ⟨fun _ => q, fun z => absurd h z⟩, fun q => q.1 h⟩
  · rw [if_neg h]; exact ⟨fun q => ⟨fun z => absurd z h, fun _ => q⟩, fun q => q.2 h⟩
/-- a def's run -/
theorem ok_call {T : Tb} {n f : Nat} {ds : List D} {τ : List D} {Q : D → List D → Prop} {F : Fb} (hF : T f = some F) (hl : (if F.tin then ds.length + 1 else ds.length) = F.np) :
    Ok (callF T (n + 1) f ds) τ Q ↔ Ok (evSs (callF T n) F.body (env0 F ds)) τ fun o τ' => ∃ d, outD o = some d ∧ Q d τ' := by
  have : callF T (n + 1) f ds = (evSs (callF T n) F.body (env0 F ds)).bnd fun o => .of (outD o) := by
    show (match T f with
      | none => M.fail
      | some F => if (if F.tin then ds.length + 1 else ds.length) = F.np then (evSs (callF T n) F.body (env0 F ds)).bnd fun o => .of (outD o) else .fail) = _
    rw [hF]
    simp only
    rw [if_pos hl]
  rw [this, ok_bnd]
  simp only [ok_of]
def envI (tin : Bool) (k : Nat) (ds : List D) : En := (if tin then [some Ent.tin] else []) ++ ds.map (fun d => some (Ent.dat d)) ++ List.replicate k none
/-- def f of the table: its body, whether it draws, how many parameters and names it has -/
def Is (T : Tb) (f : Nat) (b : List S) (tin : Bool) (p nn : Nat) : Prop := T f = some ⟨b, tin, p, nn⟩
theorem ok_is {T : Tb} {n f : Nat} {b : List S} {tin : Bool} {p nn : Nat} {ds : List D} {τ : List D} {Q : D → List D → Prop} (h : Is T f b tin p nn) (hl : (if tin then ds.length + 1 else ds.length) = p) :
    Ok (callF T (n + 1) f ds) τ Q ↔ Ok (evSs (callF T n) b (envI tin (nn - p) ds)) τ fun o τ' => ∃ d, outD o = some d ∧ Q d τ' :=
  ok_call h hl
/-- loops: what holds of what is left -/
theorem ok_loop {f : D → En → M Out} {Q : Out → List D → Prop} (I : List D → En → List D → Prop)
    (hs : ∀ d r ρ τ, I (d :: r) ρ τ → Ok (f d ρ) τ fun o τ' => match o with
      | .nx ρ' => I r ρ' τ'
      | .ct ρ' => I r ρ' τ'
      | .rt x => Q (.rt x) τ')
    (he : ∀ ρ τ, I [] ρ τ → Q (.nx ρ) τ) : ∀ (items : List D) (ρ : En) (τ : List D), I items ρ τ → Ok (loopL f items ρ) τ Q
  | [], ρ, τ, h => ok_ret.2 (he ρ τ h)
  | d :: r, ρ, τ, h => by
    show Ok ((f d ρ).bnd _) τ Q
    rw [ok_bnd]
    refine (hs d r ρ τ h).mono fun o τ' q => ?_
    cases o with
    | nx ρ' => exact ok_loop I hs he r ρ' τ' q
    | ct ρ' => exact ok_loop I hs he r ρ' τ' q
    | rt x => exact ok_ret.2 q
/-- comprehensions: a fact of each made value, and what holds of the box -/
theorem ok_comp {f : D → M (Option D)} (I : List D → List D → List D → Prop) {Q : List D → List D → Prop}
    (hs : ∀ d r ys τ, I (d :: r) ys τ → Ok (f d) τ fun o τ' => match o with
      | some y => I r (ys ++ [y]) τ'
      | none => I r ys τ')
    (he : ∀ ys τ, I [] ys τ → Q ys τ) : ∀ (items ys : List D) (τ : List D), I items ys τ → Ok (compL f items) τ fun r τ' => Q (ys ++ r) τ'
  | [], ys, τ, h => ok_ret.2 (by rw [List.append_nil]; exact he ys τ h)
  | d :: r, ys, τ, h => by
    show Ok ((f d).bnd _) τ _
    rw [ok_bnd]
    refine (hs d r ys τ h).mono fun o τ' q => ?_
    rw [ok_bnd]
    cases o with
    | none =>
      refine (ok_comp I hs he r ys τ' q).mono fun r' τ2 q2 => ?_
      exact ok_ret.2 q2
    | some y =>
      refine (ok_comp I hs he r (ys ++ [y]) τ' q).mono fun r' τ2 q2 => ?_
      rw [ok_ret]
      rw [List.append_assoc] at q2
      exact q2
/-- a comprehension that leaves the box alone -/
theorem comp_map {f : D → M (Option D)} {g : D → Option D} {τ : List D} : ∀ (items : List D), (∀ d ∈ items, f d τ = some (g d, τ)) → compL f items τ = some (items.filterMap g, τ)
  | [], _ => rfl
  | d :: r, h => by
    show ((f d).bnd _) τ = _
    unfold M.bnd
    rw [h d List.mem_cons_self]
    simp only
    rw [comp_map r fun d hd => h d (List.mem_cons_of_mem _ hd), List.filterMap_cons]
    cases g d <;> rfl
/-! ### the rules of plain reasoning, as rewriting -/
@[simp] theorem ok_of' {α : Type} {o : Option α} {τ : List D} {Q : α → List D → Prop} : Ok (M.of o) τ Q ↔ ∃ a, o = some a ∧ Q a τ := ok_of
section
variable {C : Nat → List D → M D} {ρ : En} {τ : List D} {Q : D → List D → Prop} {R : List D → List D → Prop} {U : Out → List D → Prop}
@[simp] theorem okE_var {i : Nat} : Ok (evE C (.var i) ρ) τ Q ↔ ∃ d, ρ[i]? = some (some (.dat d)) ∧ Q d τ := by
  show Ok (fun τ => match ρ[i]? with
    | some (some (.dat d)) => some (d, τ)
    | _ => none) τ Q ↔ _
  constructor
  · rintro ⟨d, τ', e, q⟩
    split at e
    · rename_i h
      cases e
      exact ⟨_, h, q⟩
    · cases e
  · rintro ⟨d, e, q⟩
    exact ⟨d, τ, by simp only [e], q⟩
@[simp] theorem okE_peek {i : Nat} : Ok (evE C (.peek i) ρ) τ Q ↔ ∃ o : Od, ρ[i]? = some (some (.own o)) ∧ Q o.data τ := by
  show Ok (fun τ => match ρ[i]? with
    | some (some (.own o)) => some (o.data, τ)
    | _ => none) τ Q ↔ _
  constructor
  · rintro ⟨d, τ', e, q⟩
    split at e
    · rename_i h
      cases e
      exact ⟨_, h, q⟩
    · cases e
  · rintro ⟨d, e, q⟩
    exact ⟨_, τ, by simp only [e], q⟩
@[simp] theorem Od.data_lst {ds : List D} : (Od.lst ds).data = .list ds := rfl
@[simp] theorem Od.data_dic {ds : List (D × D)} : (Od.dic ds).data = .dict ds := rfl
@[simp] theorem okE_non : Ok (evE C .non ρ) τ Q ↔ Q .none τ := ok_ret
@[simp] theorem okE_bl {b : Bool} : Ok (evE C (.bl b) ρ) τ Q ↔ Q (.bool b) τ := ok_ret
@[simp] theorem okE_int {b : Int} : Ok (evE C (.int b) ρ) τ Q ↔ Q (.int b) τ := ok_ret
@[simp] theorem okE_str {b : Str} : Ok (evE C (.str b) ρ) τ Q ↔ Q (.str b) τ := ok_ret
@[simp] theorem okE_glob {b : Str} {c : D} : Ok (evE C (.glob b c) ρ) τ Q ↔ Q c τ := ok_ret
@[simp] theorem okE_bin {op : Operator} {a b : E} : Ok (evE C (.bin op a b) ρ) τ Q ↔ Ok (evE C a ρ) τ fun x τ1 => Ok (evE C b ρ) τ1 fun y τ2 => ∃ d, binD op x y = some d ∧ Q d τ2 := by
  show Ok ((evE C a ρ).bnd fun x => (evE C b ρ).bnd fun y => .of (binD op x y)) τ Q ↔ _
  simp only [ok_bnd, ok_of]
@[simp] theorem okE_cmp {op : CmpOp} {a b : E} : Ok (evE C (.cmp op a b) ρ) τ Q ↔ Ok (evE C a ρ) τ fun x τ1 => Ok (evE C b ρ) τ1 fun y τ2 => ∃ d, cmpD op x y = some d ∧ Q d τ2 := by
  show Ok ((evE C a ρ).bnd fun x => (evE C b ρ).bnd fun y => .of (cmpD op x y)) τ Q ↔ _
  simp only [ok_bnd, ok_of]
@[simp] theorem okE_neg {a : E} : Ok (evE C (.neg a) ρ) τ Q ↔ Ok (evE C a ρ) τ fun x τ1 => ∃ i, x = .int i ∧ Q (.int (-i)) τ1 := by
  show Ok ((evE C a ρ).bnd fun x => match x with
    | .int i => .ret (.int (-i))
    | _ => .fail) τ Q ↔ _
  rw [ok_bnd]
  constructor
  · refine fun h => h.mono fun x τ1 q => ?_
    cases x with
    | int i => exact ⟨i, rfl, ok_ret.1 q⟩
    | _ => exact (ok_fail.1 q).elim
  · refine fun h => h.mono fun x τ1 q => ?_
    obtain ⟨i, rfl, q⟩ := q
    exact ok_ret.2 q
@[simp] theorem okE_not {a : E} : Ok (evE C (.not a) ρ) τ Q ↔ Ok (evE C a ρ) τ fun x τ1 => ∃ k, truD x = some k ∧ Q (.bool (!k)) τ1 := by
  show Ok ((evE C a ρ).bnd fun x => (M.of (truD x)).bnd fun k => .ret (.bool (!k))) τ Q ↔ _
  simp only [ok_bnd, ok_of, ok_ret]
@[simp] theorem okE_and {a b : E} : Ok (evE C (.and a b) ρ) τ Q ↔ Ok (evE C a ρ) τ fun x τ1 => ∃ k, truD x = some k ∧ (k = true → Ok (evE C b ρ) τ1 Q) ∧ (k = false → Q x τ1) := by
  show Ok ((evE C a ρ).bnd fun x => (M.of (truD x)).bnd fun k => if k then evE C b ρ else .ret x) τ Q ↔ _
  simp only [ok_bnd, ok_of, ok_ret, ok_if, Bool.not_eq_true]
@[simp] theorem okE_or {a b : E} : Ok (evE C (.or a b) ρ) τ Q ↔ Ok (evE C a ρ) τ fun x τ1 => ∃ k, truD x = some k ∧ (k = true → Q x τ1) ∧ (k = false → Ok (evE C b ρ) τ1 Q) := by
  show Ok ((evE C a ρ).bnd fun x => (M.of (truD x)).bnd fun k => if k then .ret x else evE C b ρ) τ Q ↔ _
  simp only [ok_bnd, ok_of, ok_ret, ok_if, Bool.not_eq_true]
@[simp] theorem okE_ite {c a b : E} : Ok (evE C (.ite c a b) ρ) τ Q ↔ Ok (evE C c ρ) τ fun x τ1 => ∃ k, truD x = some k ∧ (k = true → Ok (evE C a ρ) τ1 Q) ∧ (k = false → Ok (evE C b ρ) τ1 Q) := by
  show Ok ((evE C c ρ).bnd fun x => (M.of (truD x)).bnd fun k => if k then evE C a ρ else evE C b ρ) τ Q ↔ _
  simp only [ok_bnd, ok_of, ok_ret, ok_if, Bool.not_eq_true]
@[simp] theorem okE_chain {o1 o2 : CmpOp} {a b c : E} : Ok (evE C (.chain o1 o2 a b c) ρ) τ Q ↔ Ok (evE C a ρ) τ fun x τ1 => Ok (evE C b ρ) τ1 fun y τ2 => ∃ k, cmpD o1 x y = some (.bool k) ∧ (k = true → Ok (evE C c ρ) τ2 fun z τ3 => ∃ d, cmpD o2 y z = some d ∧ Q d τ3) ∧ (k = false → Q (.bool false) τ2) := by
  show Ok ((evE C a ρ).bnd fun x => (evE C b ρ).bnd fun y => (M.of (cmpD o1 x y)).bnd fun r => match r with
    | .bool true => (evE C c ρ).bnd fun z => .of (cmpD o2 y z)
    | .bool false => .ret (.bool false)
    | _ => .fail) τ Q ↔ _
  simp only [ok_bnd, ok_of]
  constructor
  · refine fun h => h.mono fun x τ1 q => q.mono fun y τ2 q => ?_
    obtain ⟨r, e, q⟩ := q
    cases r with
    | bool k => cases k with
      | true => exact ⟨true, e, fun _ => by simpa only [ok_bnd, ok_of] using q, fun z => Bool.noConfusion z⟩
      | false => exact ⟨false, e, ⟨fun z => (Bool.noConfusion z), fun _ => ok_ret.1 q⟩⟩
    | _ => exact (ok_fail.1 q).elim
  · refine fun h => h.mono fun x τ1 q => q.mono fun y τ2 q => ?_
    obtain ⟨k, e, q1, q2⟩ := q
    refine ⟨_, e, ?_⟩
    cases k with
    | true => simpa only [ok_bnd, ok_of] using q1 rfl
    | false => exact ok_ret.2 (q2 rfl)
@[simp] theorem okE_bi {f : Bi} {es : List E} : Ok (evE C (.bi f es) ρ) τ Q ↔ Ok (evEs C es ρ) τ fun ds τ1 => ∃ d, biD f ds = some d ∧ Q d τ1 := by
  show Ok ((evEs C es ρ).bnd fun ds => .of (biD f ds)) τ Q ↔ _
  simp only [ok_bnd, ok_of]
@[simp] theorem okE_isi {a : E} {ts : List String} {k : Bool} : Ok (evE C (.isi a ts k) ρ) τ Q ↔ Ok (evE C a ρ) τ fun x τ1 => ∃ d, isiD x ts = some d ∧ Q d τ1 := by
  show Ok ((evE C a ρ).bnd fun ds => .of (isiD ds ts)) τ Q ↔ _
  simp only [ok_bnd, ok_of]
@[simp] theorem okE_get {a b : E} : Ok (evE C (.get a b) ρ) τ Q ↔ Ok (evE C a ρ) τ fun x τ1 => Ok (evE C b ρ) τ1 fun y τ2 => ∃ d, getD x y = some d ∧ Q d τ2 := by
  show Ok ((evE C a ρ).bnd fun x => (evE C b ρ).bnd fun y => .of (getD x y)) τ Q ↔ _
  simp only [ok_bnd, ok_of]
@[simp] theorem okE_tget {i : Nat} {b : E} : Ok (evE C (.tget i b) ρ) τ Q ↔ Ok (evE C b ρ) τ fun y τ1 => isTin ρ i = true ∧ ∃ d, getD (.list τ1) y = some d ∧ Q d τ1 := by
  show Ok ((evE C b ρ).bnd fun y τ => if isTin ρ i then (match getD (.list τ) y with
    | some d => some (d, τ)
    | none => none) else none) τ Q ↔ _
  rw [ok_bnd]
  constructor
  · refine fun h => h.mono fun x τ1 q => ?_
    obtain ⟨d, τ', e, q⟩ := q
    by_cases ht : isTin ρ i = true
    · simp only [if_pos ht] at e
      split at e
      · rename_i h1
        cases e
        exact ⟨ht, _, h1, q⟩
      · cases e
    · simp only [if_neg ht] at e
      cases e
  · refine fun h => h.mono fun x τ1 q => ?_
    obtain ⟨ht, d, e, q⟩ := q
    refine ⟨d, τ1, ?_, q⟩
    simp only [if_pos ht, e]
@[simp] theorem okE_slice {a lo hi : E} : Ok (evE C (.slice a lo hi) ρ) τ Q ↔ Ok (evE C a ρ) τ fun x τ1 => Ok (if lo.gone then .ret none else (evE C lo ρ).bnd intP) τ1 fun l τ2 => Ok (if hi.gone then .ret none else (evE C hi ρ).bnd intP) τ2 fun h τ3 => ∃ d, sliceD x l h = some d ∧ Q d τ3 := by
  show Ok ((evE C a ρ).bnd fun x => (if lo.gone then .ret none else (evE C lo ρ).bnd intP).bnd fun l => (if hi.gone then .ret none else (evE C hi ρ).bnd intP).bnd fun h => .of (sliceD x l h)) τ Q ↔ _
  simp only [ok_bnd, ok_of]
@[simp] theorem ok_intP {d : D} {V : Option Int → List D → Prop} : Ok (intP d) τ V ↔ ∃ i, d = .int i ∧ V (some i) τ := by
  cases d with
  | int i => exact ⟨fun h => ⟨i, rfl, ok_ret.1 h⟩, fun ⟨_, e, h⟩ => by cases e; exact ok_ret.2 h⟩
  | _ => exact ⟨fun h => (ok_fail.1 h).elim, fun ⟨_, e, h⟩ => nomatch e⟩
@[simp] theorem okE_rev {a : E} : Ok (evE C (.rev a) ρ) τ Q ↔ Ok (evE C a ρ) τ fun x τ1 => ∃ d, revD x = some d ∧ Q d τ1 := by
  show Ok ((evE C a ρ).bnd fun ds => .of (revD ds)) τ Q ↔ _
  simp only [ok_bnd, ok_of]
@[simp] theorem okE_sset {a : E} : Ok (evE C (.sset a) ρ) τ Q ↔ Ok (evE C a ρ) τ fun x τ1 => ∃ d, ssetD x = some d ∧ Q d τ1 := by
  show Ok ((evE C a ρ).bnd fun ds => .of (ssetD ds)) τ Q ↔ _
  simp only [ok_bnd, ok_of]
@[simp] theorem okE_lst {es : List E} : Ok (evE C (.lst es) ρ) τ Q ↔ Ok (evEs C es ρ) τ fun ds τ1 => ds.length ≤ 16777216 ∧ Q (.list ds) τ1 := by
  show Ok ((evEs C es ρ).bnd fun ds => if lineOk ds.length then .ret (.list ds) else .fail) τ Q ↔ _
  simp only [ok_bnd, ok_of, ok_if, ok_ret, ok_fail, lineOk, decide_eq_true_eq]
  constructor
  · refine fun h => h.mono fun x τ1 q => ?_
    by_cases h : x.length ≤ 16777216
    · exact ⟨h, q.1 h⟩
    · exact (q.2 h).elim
  · exact fun h => h.mono fun x τ1 q => ⟨fun _ => q.2, fun z => z q.1⟩
@[simp] theorem okE_tup {es : List E} : Ok (evE C (.tup es) ρ) τ Q ↔ Ok (evEs C es ρ) τ fun ds τ1 => ds.length ≤ 16777216 ∧ Q (.tuple ds) τ1 := by
  show Ok ((evEs C es ρ).bnd fun ds => if lineOk ds.length then .ret (.tuple ds) else .fail) τ Q ↔ _
  simp only [ok_bnd, ok_of, ok_if, ok_ret, ok_fail, lineOk, decide_eq_true_eq]
  constructor
  · refine fun h => h.mono fun x τ1 q => ?_
    by_cases h : x.length ≤ 16777216
    · exact ⟨h, q.1 h⟩
    · exact (q.2 h).elim
  · exact fun h => h.mono fun x τ1 q => ⟨fun _ => q.2, fun z => z q.1⟩
/-- a def that draws nothing gives d -/
def Gives (C : Nat → List D → M D) (f : Nat) (ds : List D) (d : D) : Prop := ∃ τ', C f ds [] = some (d, τ')
theorem Gives.one {f : Nat} {ds : List D} {d d' : D} (h : Gives C f ds d) (h' : Gives C f ds d') : d = d' := by
  obtain ⟨_, e⟩ := h
  obtain ⟨_, e'⟩ := h'
  rw [e] at e'
  cases e'
  rfl
theorem ok_pure {f : Nat} {ds : List D} : Ok (fun τ => match C f ds [] with
    | some (d, _) => some (d, τ)
    | none => none) τ Q ↔ ∃ d, Gives C f ds d ∧ Q d τ := by
  constructor
  · rintro ⟨d, τ', e, q⟩
    simp only at e
    split at e
    · rename_i h
      cases e
      exact ⟨_, ⟨_, h⟩, q⟩
    · cases e
  · rintro ⟨d, ⟨t, e⟩, q⟩
    exact ⟨d, τ, by simp only [e], q⟩
@[simp] theorem okE_call {f : Nat} {es : List E} : Ok (evE C (.call f es) ρ) τ Q ↔ Ok (evEs C es ρ) τ fun ds τ1 => ∃ d, Gives C f ds d ∧ Q d τ1 := by
  show Ok ((evEs C es ρ).bnd fun ds τ => match C f ds [] with
    | some (d, _) => some (d, τ)
    | none => none) τ Q ↔ _
  simp only [ok_bnd, ok_pure]
@[simp] theorem okE_callN {f : Nat} {es : List E} : Ok (evE C (.callN f es) ρ) τ Q ↔ Ok (evEs C es ρ) τ fun ds τ1 => ∃ d, Gives C f ds d ∧ Q d τ1 := by
  show Ok ((evEs C es ρ).bnd fun ds τ => match C f ds [] with
    | some (d, _) => some (d, τ)
    | none => none) τ Q ↔ _
  simp only [ok_bnd, ok_pure]
@[simp] theorem okE_callK {f : Nat} {perm : List Nat} {es ks : List E} : Ok (evE C (.callK f perm es ks) ρ) τ Q ↔ Ok (evEs C es ρ) τ fun ds τ1 => Ok (evEs C ks ρ) τ1 fun zs τ2 => ∃ d, Gives C f (permL perm (ds ++ zs)) d ∧ Q d τ2 := by
  show Ok ((evEs C es ρ).bnd fun ds => (evEs C ks ρ).bnd fun zs τ => match C f (permL perm (ds ++ zs)) [] with
    | some (d, _) => some (d, τ)
    | none => none) τ Q ↔ _
  simp only [ok_bnd, ok_pure]
@[simp] theorem okE_callT {f i : Nat} {es : List E} : Ok (evE C (.callT f i es) ρ) τ Q ↔ Ok (evEs C es ρ) τ fun ds τ1 => isTin ρ i = true ∧ Ok (C f ds) τ1 Q := by
  show Ok ((evEs C es ρ).bnd fun ds τ => if isTin ρ i then C f ds τ else none) τ Q ↔ _
  rw [ok_bnd]
  constructor
  · refine fun h => h.mono fun x τ1 q => ?_
    obtain ⟨d, τ', e, q⟩ := q
    by_cases ht : isTin ρ i = true
    · simp only [if_pos ht] at e
      exact ⟨ht, _, _, e, q⟩
    · simp only [if_neg ht] at e
      cases e
  · refine fun h => h.mono fun x τ1 q => ?_
    obtain ⟨ht, d, τ', e, q⟩ := q
    exact ⟨d, τ', by simp only [if_pos ht, e], q⟩
@[simp] theorem okE_callR {f : Nat} {e : E} {es : List E} : Ok (evE C (.callR f e es) ρ) τ Q ↔ Ok (evE C e ρ) τ fun x τ1 => Ok (evEs C es ρ) τ1 fun ds τ2 => ∃ τ0, x = .list τ0 ∧ Ok (C f ds) τ0 fun d _ => Q d τ2 := by
  show Ok ((evE C e ρ).bnd fun x => (evEs C es ρ).bnd fun ds τ => match x with
    | .list τ0 => match C f ds τ0 with
      | some (d, _) => some (d, τ)
      | none => none
    | _ => none) τ Q ↔ _
  simp only [ok_bnd]
  constructor
  · refine fun h => h.mono fun x τ1 q => q.mono fun ds τ2 q => ?_
    obtain ⟨d, τ', e, q⟩ := q
    simp only at e
    split at e
    · rename_i τ0
      split at e
      · rename_i h1
        cases e
        exact ⟨τ0, rfl, _, _, h1, q⟩
      · cases e
    · cases e
  · refine fun h => h.mono fun x τ1 q => q.mono fun ds τ2 q => ?_
    obtain ⟨τ0, rfl, d, τ', e, q⟩ := q
    exact ⟨d, τ2, by simp only [e], q⟩
@[simp] theorem okE_comp {elt : E} {tg : Tg} {ik : IK} {src : List E} {cond : E} : Ok (evE C (.comp elt tg ik src cond) ρ) τ Q ↔ Ok (evEs C src ρ) τ fun xs τ1 => ∃ items, walkC ik xs = some items ∧
    Ok (compL (fun d => (M.of (setTg tg d (wipeE ρ tg.slots))).bnd fun ρ' => (if cond.gone then .ret true else (evE C cond ρ').bnd fun x => .of (truD x)).bnd fun k => if k then (evE C elt ρ').bnd fun y => .ret (some y) else .ret none) items) τ1 fun ys τ2 => Q (.list ys) τ2 := by
  show Ok ((evEs C src ρ).bnd fun xs => (M.of (walkC ik xs)).bnd fun items =>
    (compL (fun d => (M.of (setTg tg d (wipeE ρ tg.slots))).bnd fun ρ' => (if cond.gone then .ret true else (evE C cond ρ').bnd fun x => .of (truD x)).bnd fun k => if k then (evE C elt ρ').bnd fun y => .ret (some y) else .ret none) items).bnd fun ys => .ret (.list ys)) τ Q ↔ _
  rw [ok_bnd]
  simp only [ok_bnd (x := M.of (walkC ik _)), ok_of]
  constructor
  · refine fun h => h.mono fun x τ1 q => ?_
    obtain ⟨it, e, q⟩ := q
    exact ⟨it, e, (ok_bnd.1 q).mono fun ys τ2 q => ok_ret.1 q⟩
  · refine fun h => h.mono fun x τ1 q => ?_
    obtain ⟨it, e, q⟩ := q
    exact ⟨it, e, ok_bnd.2 (q.mono fun ys τ2 q => ok_ret.2 q)⟩
@[simp] theorem okE_comp2 {elt : E} {tg : Tg} {ik : IK} {src : List E} {cond : E} {tg1 : Tg} {ik1 : IK} {src1 : List E} {cond1 : E} : Ok (evE C (.comp2 elt tg ik src cond tg1 ik1 src1 cond1) ρ) τ Q ↔ Ok (evEs C src ρ) τ fun xs τ1 => ∃ items, walkC ik xs = some items ∧
    Ok (comp2L (fun d => (M.of (setTg tg d (wipeE ρ (tg.slots ++ tg1.slots)))).bnd fun ρ' => (if cond.gone then .ret true else (evE C cond ρ').bnd fun x => .of (truD x)).bnd fun k => if k then
        (evEs C src1 ρ').bnd fun xs => (M.of (walkC ik1 xs)).bnd fun items =>
          compL (fun d => (M.of (setTg tg1 d (wipeE ρ' tg1.slots))).bnd fun ρ'' => (if cond1.gone then .ret true else (evE C cond1 ρ'').bnd fun x => .of (truD x)).bnd fun k => if k then (evE C elt ρ'').bnd fun y => .ret (some y) else .ret none) items
      else .ret []) items) τ1 fun ys τ2 => ys.length ≤ 16777216 ∧ Q (.list ys) τ2 := by
  show Ok ((evEs C src ρ).bnd fun xs => (M.of (walkC ik xs)).bnd fun items =>
    (comp2L (fun d => (M.of (setTg tg d (wipeE ρ (tg.slots ++ tg1.slots)))).bnd fun ρ' => (if cond.gone then .ret true else (evE C cond ρ').bnd fun x => .of (truD x)).bnd fun k => if k then
        (evEs C src1 ρ').bnd fun xs => (M.of (walkC ik1 xs)).bnd fun items =>
          compL (fun d => (M.of (setTg tg1 d (wipeE ρ' tg1.slots))).bnd fun ρ'' => (if cond1.gone then .ret true else (evE C cond1 ρ'').bnd fun x => .of (truD x)).bnd fun k => if k then (evE C elt ρ'').bnd fun y => .ret (some y) else .ret none) items
      else .ret []) items).bnd fun ys => if lineOk ys.length then .ret (.list ys) else .fail) τ Q ↔ _
  rw [ok_bnd]
  simp only [ok_bnd (x := M.of (walkC ik _)), ok_of]
  constructor
  · refine fun h => h.mono fun x τ1 q => ?_
    obtain ⟨it, e, q⟩ := q
    refine ⟨it, e, (ok_bnd.1 q).mono fun ys τ2 q => ?_⟩
    simp only [ok_if, ok_ret, ok_fail, lineOk, decide_eq_true_eq] at q
    by_cases h : ys.length ≤ 16777216
    · exact ⟨h, q.1 h⟩
    · exact (q.2 h).elim
  · refine fun h => h.mono fun x τ1 q => ?_
    obtain ⟨it, e, q⟩ := q
    refine ⟨it, e, ok_bnd.2 (q.mono fun ys τ2 q => ?_)⟩
    simp only [ok_if, ok_ret, ok_fail, lineOk, decide_eq_true_eq]
    exact ⟨fun _ => q.2, fun z => z q.1⟩
@[simp] theorem okE_dcomp {ke ve : E} {tg : Tg} {ik : IK} {src : List E} {cond : E} : Ok (evE C (.dcomp ke ve tg ik src cond) ρ) τ Q ↔ Ok (evEs C src ρ) τ fun xs τ1 => ∃ items, walkC ik xs = some items ∧
    Ok (compL (fun d => (M.of (setTg tg d (wipeE ρ tg.slots))).bnd fun ρ' => (if cond.gone then .ret true else (evE C cond ρ').bnd fun x => .of (truD x)).bnd fun k => if k then (evE C ke ρ').bnd fun y => (evE C ve ρ').bnd fun z => .ret (some (.tuple [y, z])) else .ret none) items) τ1 fun ys τ2 => ∃ kvs, pairsD ys = some kvs ∧ Q (.dict (mergeKD [] kvs)) τ2 := by
  show Ok ((evEs C src ρ).bnd fun xs => (M.of (walkC ik xs)).bnd fun items =>
    (compL (fun d => (M.of (setTg tg d (wipeE ρ tg.slots))).bnd fun ρ' => (if cond.gone then .ret true else (evE C cond ρ').bnd fun x => .of (truD x)).bnd fun k => if k then (evE C ke ρ').bnd fun y => (evE C ve ρ').bnd fun z => .ret (some (.tuple [y, z])) else .ret none) items).bnd fun ys =>
      (M.of (pairsD ys)).bnd fun kvs => .ret (.dict (mergeKD [] kvs))) τ Q ↔ _
  rw [ok_bnd]
  simp only [ok_bnd (x := M.of (walkC ik _)), ok_of]
  constructor
  · refine fun h => h.mono fun x τ1 q => ?_
    obtain ⟨it, e, q⟩ := q
    exact ⟨it, e, (ok_bnd.1 q).mono fun ys τ2 q => by simpa only [ok_bnd, ok_of, ok_ret] using q⟩
  · refine fun h => h.mono fun x τ1 q => ?_
    obtain ⟨it, e, q⟩ := q
    exact ⟨it, e, ok_bnd.2 (q.mono fun ys τ2 q => by simpa only [ok_bnd, ok_of, ok_ret] using q)⟩
@[simp] theorem okE_dic0 : Ok (evE C .dic0 ρ) τ Q ↔ Q (.dict []) τ := ok_ret
@[simp] theorem okE_dic1 {a b : E} : Ok (evE C (.dic1 a b) ρ) τ Q ↔ Ok (evE C a ρ) τ fun y τ1 => Ok (evE C b ρ) τ1 fun z τ2 => isKey y = true ∧ Q (.dict [(y, z)]) τ2 := by
  show Ok ((evE C a ρ).bnd fun y => (evE C b ρ).bnd fun z => if isKey y then .ret (.dict [(y, z)]) else .fail) τ Q ↔ _
  simp only [ok_bnd, ok_if, ok_ret, ok_fail]
  constructor
  · refine fun h => h.mono fun y τ1 q => q.mono fun z τ2 q => ?_
    by_cases h : isKey y = true
    · exact ⟨h, q.1 h⟩
    · exact (q.2 h).elim
  · exact fun h => h.mono fun y τ1 q => q.mono fun z τ2 q => ⟨fun _ => q.2, fun z => z q.1⟩
@[simp] theorem okE_dget {a k x : E} : Ok (evE C (.dget a k x) ρ) τ Q ↔ Ok (evE C a ρ) τ fun d τ1 => Ok (evE C k ρ) τ1 fun y τ2 => Ok (evE C x ρ) τ2 fun z τ3 => ∃ r, dgetD d y z = some r ∧ Q r τ3 := by
  show Ok ((evE C a ρ).bnd fun d => (evE C k ρ).bnd fun y => (evE C x ρ).bnd fun z => .of (dgetD d y z)) τ Q ↔ _
  simp only [ok_bnd, ok_of]
@[simp] theorem okEs_nil : Ok (evEs C [] ρ) τ R ↔ R [] τ := ok_ret
@[simp] theorem okEs_star {e : E} {r : List E} : Ok (evEs C (.star e :: r) ρ) τ R ↔ Ok (evE C e ρ) τ fun x τ1 => ∃ xs, seqD x = some xs ∧ Ok (evEs C r ρ) τ1 fun ys τ2 => R (xs ++ ys) τ2 := by
  show Ok ((evE C e ρ).bnd fun x => (M.of (seqD x)).bnd fun xs => (evEs C r ρ).bnd fun ys => .ret (xs ++ ys)) τ R ↔ _
  simp only [ok_bnd, ok_of, ok_ret]
def E.isStar : E → Bool
  | .star _ => true
  | _ => false
theorem okEs_cons {e : E} {r : List E} (h : e.isStar = false) : Ok (evEs C (e :: r) ρ) τ R ↔ Ok (evE C e ρ) τ fun x τ1 => Ok (evEs C r ρ) τ1 fun ys τ2 => R (x :: ys) τ2 := by
  have : evEs C (e :: r) ρ = (evE C e ρ).bnd fun x => (evEs C r ρ).bnd fun ys => .ret (x :: ys) := by
    cases e <;> first | rfl | cases h
  rw [this]
  simp only [ok_bnd, ok_ret]
@[simp] theorem gone_var {i : Nat} : (E.var i).gone = false := rfl
@[simp] theorem gone_peek {i : Nat} : (E.peek i).gone = false := rfl
@[simp] theorem gone_non  : (E.non).gone = false := rfl
@[simp] theorem gone_bl {b : Bool} : (E.bl b).gone = false := rfl
@[simp] theorem gone_int {k : Int} : (E.int k).gone = false := rfl
@[simp] theorem gone_str {x : Str} : (E.str x).gone = false := rfl
@[simp] theorem gone_glob {x : Str} {z : D} : (E.glob x z).gone = false := rfl
@[simp] theorem gone_bin {op : Operator} {a : E} {b : E} : (E.bin op a b).gone = false := rfl
@[simp] theorem gone_cmp {cp : CmpOp} {a : E} {b : E} : (E.cmp cp a b).gone = false := rfl
@[simp] theorem gone_chain {cp : CmpOp} {cq : CmpOp} {a : E} {b : E} {c : E} : (E.chain cp cq a b c).gone = false := rfl
@[simp] theorem gone_neg {a : E} : (E.neg a).gone = false := rfl
@[simp] theorem gone_not {a : E} : (E.not a).gone = false := rfl
@[simp] theorem gone_and {a : E} {b : E} : (E.and a b).gone = false := rfl
@[simp] theorem gone_or {a : E} {b : E} : (E.or a b).gone = false := rfl
@[simp] theorem gone_ite {c : E} {a : E} {b : E} : (E.ite c a b).gone = false := rfl
@[simp] theorem gone_bi {f : Bi} {es : List E} : (E.bi f es).gone = false := rfl
@[simp] theorem gone_isi {a : E} {ts : List String} {tu : Bool} : (E.isi a ts tu).gone = false := rfl
@[simp] theorem gone_tget {i : Nat} {b : E} : (E.tget i b).gone = false := rfl
@[simp] theorem gone_get {a : E} {b : E} : (E.get a b).gone = false := rfl
@[simp] theorem gone_slice {a : E} {b : E} {c : E} : (E.slice a b c).gone = false := rfl
@[simp] theorem gone_sset {a : E} : (E.sset a).gone = false := rfl
@[simp] theorem gone_rev {a : E} : (E.rev a).gone = false := rfl
@[simp] theorem gone_lst {es : List E} : (E.lst es).gone = false := rfl
@[simp] theorem gone_tup {es : List E} : (E.tup es).gone = false := rfl
@[simp] theorem gone_call {i : Nat} {es : List E} : (E.call i es).gone = false := rfl
@[simp] theorem gone_callN {i : Nat} {es : List E} : (E.callN i es).gone = false := rfl
@[simp] theorem gone_callK {i : Nat} {pm : List Nat} {es : List E} {ks : List E} : (E.callK i pm es ks).gone = false := rfl
@[simp] theorem gone_callT {i : Nat} {j : Nat} {es : List E} : (E.callT i j es).gone = false := rfl
@[simp] theorem gone_callR {i : Nat} {a : E} {es : List E} : (E.callR i a es).gone = false := rfl
@[simp] theorem gone_comp {a : E} {tg : Tg} {ik : IK} {es : List E} {b : E} : (E.comp a tg ik es b).gone = false := rfl
@[simp] theorem gone_comp2 {a : E} {tg : Tg} {ik : IK} {es : List E} {b : E} {tg1 : Tg} {ik1 : IK} {es1 : List E} {b1 : E} : (E.comp2 a tg ik es b tg1 ik1 es1 b1).gone = false := rfl
@[simp] theorem gone_dcomp {ke ve : E} {tg : Tg} {ik : IK} {es : List E} {b : E} : (E.dcomp ke ve tg ik es b).gone = false := rfl
@[simp] theorem gone_dic0  : E.dic0.gone = false := rfl
@[simp] theorem gone_dic1 {a b : E} : (E.dic1 a b).gone = false := rfl
@[simp] theorem gone_dget {a b c : E} : (E.dget a b c).gone = false := rfl
@[simp] theorem gone_absent : E.absent.gone = true := rfl
@[simp] theorem okEs_var {i : Nat} {r : List E} : Ok (evEs C (E.var i :: r) ρ) τ R ↔ Ok (evE C (E.var i) ρ) τ fun y τ1 => Ok (evEs C r ρ) τ1 fun ys τ2 => R (y :: ys) τ2 := okEs_cons rfl
@[simp] theorem okEs_peek {i : Nat} {r : List E} : Ok (evEs C (E.peek i :: r) ρ) τ R ↔ Ok (evE C (E.peek i) ρ) τ fun y τ1 => Ok (evEs C r ρ) τ1 fun ys τ2 => R (y :: ys) τ2 := okEs_cons rfl
@[simp] theorem okEs_non  {r : List E} : Ok (evEs C (E.non :: r) ρ) τ R ↔ Ok (evE C (E.non) ρ) τ fun y τ1 => Ok (evEs C r ρ) τ1 fun ys τ2 => R (y :: ys) τ2 := okEs_cons rfl
@[simp] theorem okEs_bl {b : Bool} {r : List E} : Ok (evEs C (E.bl b :: r) ρ) τ R ↔ Ok (evE C (E.bl b) ρ) τ fun y τ1 => Ok (evEs C r ρ) τ1 fun ys τ2 => R (y :: ys) τ2 := okEs_cons rfl
@[simp] theorem okEs_int {k : Int} {r : List E} : Ok (evEs C (E.int k :: r) ρ) τ R ↔ Ok (evE C (E.int k) ρ) τ fun y τ1 => Ok (evEs C r ρ) τ1 fun ys τ2 => R (y :: ys) τ2 := okEs_cons rfl
@[simp] theorem okEs_str {x : Str} {r : List E} : Ok (evEs C (E.str x :: r) ρ) τ R ↔ Ok (evE C (E.str x) ρ) τ fun y τ1 => Ok (evEs C r ρ) τ1 fun ys τ2 => R (y :: ys) τ2 := okEs_cons rfl
@[simp] theorem okEs_glob {x : Str} {z : D} {r : List E} : Ok (evEs C (E.glob x z :: r) ρ) τ R ↔ Ok (evE C (E.glob x z) ρ) τ fun y τ1 => Ok (evEs C r ρ) τ1 fun ys τ2 => R (y :: ys) τ2 := okEs_cons rfl
@[simp] theorem okEs_bin {op : Operator} {a : E} {b : E} {r : List E} : Ok (evEs C (E.bin op a b :: r) ρ) τ R ↔ Ok (evE C (E.bin op a b) ρ) τ fun y τ1 => Ok (evEs C r ρ) τ1 fun ys τ2 => R (y :: ys) τ2 := okEs_cons rfl
@[simp] theorem okEs_cmp {cp : CmpOp} {a : E} {b : E} {r : List E} : Ok (evEs C (E.cmp cp a b :: r) ρ) τ R ↔ Ok (evE C (E.cmp cp a b) ρ) τ fun y τ1 => Ok (evEs C r ρ) τ1 fun ys τ2 => R (y :: ys) τ2 := okEs_cons rfl
@[simp] theorem okEs_chain {cp : CmpOp} {cq : CmpOp} {a : E} {b : E} {c : E} {r : List E} : Ok (evEs C (E.chain cp cq a b c :: r) ρ) τ R ↔ Ok (evE C (E.chain cp cq a b c) ρ) τ fun y τ1 => Ok (evEs C r ρ) τ1 fun ys τ2 => R (y :: ys) τ2 := okEs_cons rfl
@[simp] theorem okEs_neg {a : E} {r : List E} : Ok (evEs C (E.neg a :: r) ρ) τ R ↔ Ok (evE C (E.neg a) ρ) τ fun y τ1 => Ok (evEs C r ρ) τ1 fun ys τ2 => R (y :: ys) τ2 := okEs_cons rfl
@[simp] theorem okEs_not {a : E} {r : List E} : Ok (evEs C (E.not a :: r) ρ) τ R ↔ Ok (evE C (E.not a) ρ) τ fun y τ1 => Ok (evEs C r ρ) τ1 fun ys τ2 => R (y :: ys) τ2 := okEs_cons rfl
@[simp] theorem okEs_and {a : E} {b : E} {r : List E} : Ok (evEs C (E.and a b :: r) ρ) τ R ↔ Ok (evE C (E.and a b) ρ) τ fun y τ1 => Ok (evEs C r ρ) τ1 fun ys τ2 => R (y :: ys) τ2 := okEs_cons rfl
@[simp] theorem okEs_or {a : E} {b : E} {r : List E} : Ok (evEs C (E.or a b :: r) ρ) τ R ↔ Ok (evE C (E.or a b) ρ) τ fun y τ1 => Ok (evEs C r ρ) τ1 fun ys τ2 => R (y :: ys) τ2 := okEs_cons rfl
@[simp] theorem okEs_ite {c : E} {a : E} {b : E} {r : List E} : Ok (evEs C (E.ite c a b :: r) ρ) τ R ↔ Ok (evE C (E.ite c a b) ρ) τ fun y τ1 => Ok (evEs C r ρ) τ1 fun ys τ2 => R (y :: ys) τ2 := okEs_cons rfl
@[simp] theorem okEs_bi {f : Bi} {es : List E} {r : List E} : Ok (evEs C (E.bi f es :: r) ρ) τ R ↔ Ok (evE C (E.bi f es) ρ) τ fun y τ1 => Ok (evEs C r ρ) τ1 fun ys τ2 => R (y :: ys) τ2 := okEs_cons rfl
@[simp] theorem okEs_isi {a : E} {ts : List String} {tu : Bool} {r : List E} : Ok (evEs C (E.isi a ts tu :: r) ρ) τ R ↔ Ok (evE C (E.isi a ts tu) ρ) τ fun y τ1 => Ok (evEs C r ρ) τ1 fun ys τ2 => R (y :: ys) τ2 := okEs_cons rfl
@[simp] theorem okEs_tget {i : Nat} {b : E} {r : List E} : Ok (evEs C (E.tget i b :: r) ρ) τ R ↔ Ok (evE C (E.tget i b) ρ) τ fun y τ1 => Ok (evEs C r ρ) τ1 fun ys τ2 => R (y :: ys) τ2 := okEs_cons rfl
@[simp] theorem okEs_get {a : E} {b : E} {r : List E} : Ok (evEs C (E.get a b :: r) ρ) τ R ↔ Ok (evE C (E.get a b) ρ) τ fun y τ1 => Ok (evEs C r ρ) τ1 fun ys τ2 => R (y :: ys) τ2 := okEs_cons rfl
@[simp] theorem okEs_slice {a : E} {b : E} {c : E} {r : List E} : Ok (evEs C (E.slice a b c :: r) ρ) τ R ↔ Ok (evE C (E.slice a b c) ρ) τ fun y τ1 => Ok (evEs C r ρ) τ1 fun ys τ2 => R (y :: ys) τ2 := okEs_cons rfl
@[simp] theorem okEs_sset {a : E} {r : List E} : Ok (evEs C (E.sset a :: r) ρ) τ R ↔ Ok (evE C (E.sset a) ρ) τ fun y τ1 => Ok (evEs C r ρ) τ1 fun ys τ2 => R (y :: ys) τ2 := okEs_cons rfl
@[simp] theorem okEs_rev {a : E} {r : List E} : Ok (evEs C (E.rev a :: r) ρ) τ R ↔ Ok (evE C (E.rev a) ρ) τ fun y τ1 => Ok (evEs C r ρ) τ1 fun ys τ2 => R (y :: ys) τ2 := okEs_cons rfl
@[simp] theorem okEs_lst {es : List E} {r : List E} : Ok (evEs C (E.lst es :: r) ρ) τ R ↔ Ok (evE C (E.lst es) ρ) τ fun y τ1 => Ok (evEs C r ρ) τ1 fun ys τ2 => R (y :: ys) τ2 := okEs_cons rfl
@[simp] theorem okEs_tup {es : List E} {r : List E} : Ok (evEs C (E.tup es :: r) ρ) τ R ↔ Ok (evE C (E.tup es) ρ) τ fun y τ1 => Ok (evEs C r ρ) τ1 fun ys τ2 => R (y :: ys) τ2 := okEs_cons rfl
@[simp] theorem okEs_call {i : Nat} {es : List E} {r : List E} : Ok (evEs C (E.call i es :: r) ρ) τ R ↔ Ok (evE C (E.call i es) ρ) τ fun y τ1 => Ok (evEs C r ρ) τ1 fun ys τ2 => R (y :: ys) τ2 := okEs_cons rfl
@[simp] theorem okEs_callN {i : Nat} {es : List E} {r : List E} : Ok (evEs C (E.callN i es :: r) ρ) τ R ↔ Ok (evE C (E.callN i es) ρ) τ fun y τ1 => Ok (evEs C r ρ) τ1 fun ys τ2 => R (y :: ys) τ2 := okEs_cons rfl
@[simp] theorem okEs_callK {i : Nat} {pm : List Nat} {es : List E} {ks : List E} {r : List E} : Ok (evEs C (E.callK i pm es ks :: r) ρ) τ R ↔ Ok (evE C (E.callK i pm es ks) ρ) τ fun y τ1 => Ok (evEs C r ρ) τ1 fun ys τ2 => R (y :: ys) τ2 := okEs_cons rfl
@[simp] theorem okEs_callT {i : Nat} {j : Nat} {es : List E} {r : List E} : Ok (evEs C (E.callT i j es :: r) ρ) τ R ↔ Ok (evE C (E.callT i j es) ρ) τ fun y τ1 => Ok (evEs C r ρ) τ1 fun ys τ2 => R (y :: ys) τ2 := okEs_cons rfl
@[simp] theorem okEs_callR {i : Nat} {a : E} {es : List E} {r : List E} : Ok (evEs C (E.callR i a es :: r) ρ) τ R ↔ Ok (evE C (E.callR i a es) ρ) τ fun y τ1 => Ok (evEs C r ρ) τ1 fun ys τ2 => R (y :: ys) τ2 := okEs_cons rfl
@[simp] theorem okEs_comp {a : E} {tg : Tg} {ik : IK} {es : List E} {b : E} {r : List E} : Ok (evEs C (E.comp a tg ik es b :: r) ρ) τ R ↔ Ok (evE C (E.comp a tg ik es b) ρ) τ fun y τ1 => Ok (evEs C r ρ) τ1 fun ys τ2 => R (y :: ys) τ2 := okEs_cons rfl
@[simp] theorem okEs_comp2 {a : E} {tg : Tg} {ik : IK} {es : List E} {b : E} {tg1 : Tg} {ik1 : IK} {es1 : List E} {b1 : E} {r : List E} : Ok (evEs C (E.comp2 a tg ik es b tg1 ik1 es1 b1 :: r) ρ) τ R ↔ Ok (evE C (E.comp2 a tg ik es b tg1 ik1 es1 b1) ρ) τ fun y τ1 => Ok (evEs C r ρ) τ1 fun ys τ2 => R (y :: ys) τ2 := okEs_cons rfl
@[simp] theorem okEs_dcomp {ke ve : E} {tg : Tg} {ik : IK} {es : List E} {b : E} {r : List E} : Ok (evEs C (E.dcomp ke ve tg ik es b :: r) ρ) τ R ↔ Ok (evE C (E.dcomp ke ve tg ik es b) ρ) τ fun y τ1 => Ok (evEs C r ρ) τ1 fun ys τ2 => R (y :: ys) τ2 := okEs_cons rfl
@[simp] theorem okEs_dic0  {r : List E} : Ok (evEs C (E.dic0 :: r) ρ) τ R ↔ Ok (evE C E.dic0 ρ) τ fun y τ1 => Ok (evEs C r ρ) τ1 fun ys τ2 => R (y :: ys) τ2 := okEs_cons rfl
@[simp] theorem okEs_dic1 {a b : E} {r : List E} : Ok (evEs C (E.dic1 a b :: r) ρ) τ R ↔ Ok (evE C (E.dic1 a b) ρ) τ fun y τ1 => Ok (evEs C r ρ) τ1 fun ys τ2 => R (y :: ys) τ2 := okEs_cons rfl
@[simp] theorem okEs_dget {a b c : E} {r : List E} : Ok (evEs C (E.dget a b c :: r) ρ) τ R ↔ Ok (evE C (E.dget a b c) ρ) τ fun y τ1 => Ok (evEs C r ρ) τ1 fun ys τ2 => R (y :: ys) τ2 := okEs_cons rfl
/-! statements -/
@[simp] theorem okS_nil : Ok (evSs C [] ρ) τ U ↔ U (.nx ρ) τ := ok_ret
/-- what comes after a statement -/
def thenS (C : Nat → List D → M D) (r : List S) (U : Out → List D → Prop) : Out → List D → Prop := fun o τ => match o with
  | .nx ρ' => Ok (evSs C r ρ') τ U
  | .ct ρ' => U (.ct ρ') τ
  | .rt x => U (.rt x) τ
@[simp] theorem okS_cons {s : S} {r : List S} : Ok (evSs C (s :: r) ρ) τ U ↔ Ok (evS C s ρ) τ (thenS C r U) := by
  show Ok ((evS C s ρ).bnd fun o => match o with
    | .nx ρ' => evSs C r ρ'
    | .ct ρ' => .ret (.ct ρ')
    | .rt x => .ret (.rt x)) τ U ↔ _
  rw [ok_bnd]
  constructor
  · refine fun h => h.mono fun o τ1 q => ?_
    cases o with
    | nx ρ' => exact q
    | ct ρ' => exact (ok_ret (Q := U)).1 q
    | rt x => exact (ok_ret (Q := U)).1 q
  · refine fun h => h.mono fun o τ1 q => ?_
    cases o with
    | nx ρ' => exact q
    | ct ρ' => exact ok_ret.2 q
    | rt x => exact ok_ret.2 q
@[simp] theorem thenS_nx {r : List S} {ρ' : En} : thenS C r U (.nx ρ') τ ↔ Ok (evSs C r ρ') τ U := Iff.rfl
@[simp] theorem thenS_ct {r : List S} {ρ' : En} : thenS C r U (.ct ρ') τ ↔ U (.ct ρ') τ := Iff.rfl
@[simp] theorem thenS_rt {r : List S} {d : D} : thenS C r U (.rt d) τ ↔ U (.rt d) τ := Iff.rfl
@[simp] theorem okS_asg {i : Nat} {e : E} : Ok (evS C (.asg i e) ρ) τ U ↔ Ok (evE C e ρ) τ fun d τ1 => U (.nx (ρ.set i (some (.dat d)))) τ1 := by
  show Ok ((evE C e ρ).bnd fun d => .ret (.nx (ρ.set i (some (.dat d))))) τ U ↔ _
  simp only [ok_bnd, ok_ret]
@[simp] theorem ok_ownAt {i : Nat} {V : Od → List D → Prop} : Ok (ownAt ρ i) τ V ↔ ∃ o, ρ[i]? = some (some (.own o)) ∧ V o τ := by
  constructor
  · rintro ⟨d, τ', e, q⟩
    unfold ownAt at e
    split at e
    · rename_i h
      cases e
      exact ⟨_, h, q⟩
    · cases e
  · rintro ⟨d, e, q⟩
    exact ⟨_, τ, by unfold ownAt; simp only [e], q⟩
@[simp] theorem ok_lstAt {i : Nat} {V : List D → List D → Prop} : Ok (lstAt ρ i) τ V ↔ ∃ ds, ρ[i]? = some (some (.own (.lst ds))) ∧ V ds τ := by
  constructor
  · rintro ⟨d, τ', e, q⟩
    obtain ⟨h, rfl⟩ := lstAt_some e
    exact ⟨_, h, q⟩
  · rintro ⟨d, e, q⟩
    exact ⟨_, τ, by unfold lstAt; simp only [e], q⟩
@[simp] theorem okS_asgO {i : Nat} {e : E} : Ok (evS C (.asgO i e) ρ) τ U ↔ Ok (evE C e ρ) τ fun d τ1 => ∃ o, odP d = some o ∧ U (.nx (ρ.set i (some (.own o)))) τ1 := by
  show Ok ((evE C e ρ).bnd fun d => (M.of (odP d)).bnd fun o => .ret (.nx (ρ.set i (some (.own o))))) τ U ↔ _
  simp only [ok_bnd, ok_ret, ok_of]
@[simp] theorem odP_list {ds : List D} : odP (.list ds) = some (.lst ds) := rfl
@[simp] theorem odP_dict {ds : List (D × D)} : odP (.dict ds) = some (.dic ds) := rfl
@[simp] theorem okS_unp {is : List Nat} {e : E} : Ok (evS C (.unp is e) ρ) τ U ↔ Ok (evE C e ρ) τ fun d τ1 => ∃ ds, d = .tuple ds ∧ ∃ ρ', setDs is ds ρ = some ρ' ∧ U (.nx ρ') τ1 := by
  show Ok ((evE C e ρ).bnd fun d => match d with
    | .tuple ds => (M.of (setDs is ds ρ)).bnd fun ρ' => .ret (.nx ρ')
    | _ => .fail) τ U ↔ _
  rw [ok_bnd]
  constructor
  · refine fun h => h.mono fun d τ1 q => ?_
    cases d with
    | tuple ds => exact ⟨ds, rfl, by simpa only [ok_bnd, ok_of, ok_ret] using q⟩
    | _ => exact (ok_fail.1 q).elim
  · refine fun h => h.mono fun d τ1 q => ?_
    obtain ⟨ds, rfl, q⟩ := q
    simpa only [ok_bnd, ok_of, ok_ret] using q
@[simp] theorem okS_par {ts : List (Nat × Bool)} {es : List E} : Ok (evS C (.par ts es) ρ) τ U ↔ Ok (evEs C es ρ) τ fun ds τ1 => ∃ ρ', setPar ts ds ρ = some ρ' ∧ U (.nx ρ') τ1 := by
  show Ok ((evEs C es ρ).bnd fun ds => (M.of (setPar ts ds ρ)).bnd fun ρ' => .ret (.nx ρ')) τ U ↔ _
  simp only [ok_bnd, ok_ret, ok_of]
@[simp] theorem setPar_nil : setPar [] [] ρ = some ρ := rfl
@[simp] theorem setPar_f {i : Nat} {is : List (Nat × Bool)} {d : D} {ds : List D} : setPar ((i, false) :: is) (d :: ds) ρ = setPar is ds (ρ.set i (some (.dat d))) := rfl
@[simp] theorem setPar_l {i : Nat} {is : List (Nat × Bool)} {d : List D} {ds : List D} : setPar ((i, true) :: is) (.list d :: ds) ρ = setPar is ds (ρ.set i (some (.own (.lst d)))) := rfl
@[simp] theorem setPar_d {i : Nat} {is : List (Nat × Bool)} {d : List (D × D)} {ds : List D} : setPar ((i, true) :: is) (.dict d :: ds) ρ = setPar is ds (ρ.set i (some (.own (.dic d)))) := rfl
@[simp] theorem okS_sto {i : Nat} {ix e : E} : Ok (evS C (.sto i ix e) ρ) τ U ↔ Ok (evE C e ρ) τ fun d τ1 => Ok (evE C ix ρ) τ1 fun k τ2 => ∃ o, ρ[i]? = some (some (.own o)) ∧ ∃ o', stoO o k d = some o' ∧ U (.nx (ρ.set i (some (.own o')))) τ2 := by
  show Ok ((evE C e ρ).bnd fun d => (evE C ix ρ).bnd fun k => (ownAt ρ i).bnd fun o => (M.of (stoO o k d)).bnd fun o' => .ret (.nx (ρ.set i (some (.own o'))))) τ U ↔ _
  simp only [ok_bnd, ok_ret, ok_ownAt, ok_of]
@[simp] theorem stoO_l {ds : List D} {k d : D} : stoO (.lst ds) k d = (stoD ds k d).map .lst := rfl
theorem stoO_d {kvs : List (D × D)} {k d : D} (h : isKey k = true) (h2 : kvs.length < 16777216) : stoO (.dic kvs) k d = some (.dic (putKD kvs k d)) := if_pos (by
  unfold lineOk
  simp only [Bool.and_eq_true, decide_eq_true_eq]
  exact ⟨h, h2⟩)
@[simp] theorem okS_stoT {i : Nat} {ix e : E} : Ok (evS C (.stoT i ix e) ρ) τ U ↔ Ok (evE C e ρ) τ fun d τ1 => Ok (evE C ix ρ) τ1 fun k τ2 => isTin ρ i = true ∧ ∃ τ', stoD τ2 k d = some τ' ∧ U (.nx ρ) τ' := by
  show Ok ((evE C e ρ).bnd fun d => (evE C ix ρ).bnd fun k τ => if isTin ρ i then (match stoD τ k d with
    | some τ' => some (.nx ρ, τ')
    | none => none) else none) τ U ↔ _
  simp only [ok_bnd]
  constructor
  · refine fun h => h.mono fun x τ1 q => q.mono fun k τ2 q => ?_
    obtain ⟨d, τ', e, q⟩ := q
    by_cases ht : isTin ρ i = true
    · simp only [if_pos ht] at e
      split at e
      · rename_i h1
        cases e
        exact ⟨ht, _, h1, q⟩
      · cases e
    · simp only [if_neg ht] at e
      cases e
  · refine fun h => h.mono fun x τ1 q => q.mono fun k τ2 q => ?_
    obtain ⟨ht, τ', e, q⟩ := q
    exact ⟨.nx ρ, τ', by simp only [if_pos ht, e], q⟩
@[simp] theorem okS_app {i : Nat} {e : E} : Ok (evS C (.app i e) ρ) τ U ↔ Ok (evE C e ρ) τ fun d τ1 => ∃ ds, ρ[i]? = some (some (.own (.lst ds))) ∧ ds.length + 1 ≤ 16777216 ∧ U (.nx (ρ.set i (some (.own (.lst (ds ++ [d])))))) τ1 := by
  show Ok ((evE C e ρ).bnd fun d => (lstAt ρ i).bnd fun ds => if lineOk (ds.length + 1) then .ret (.nx (ρ.set i (some (.own (.lst (ds ++ [d])))))) else .fail) τ U ↔ _
  simp only [ok_bnd, ok_ret, ok_lstAt, ok_if, ok_fail, lineOk, decide_eq_true_eq]
  constructor
  · refine fun h => h.mono fun d τ1 q => ?_
    obtain ⟨ds, e, q1, q2⟩ := q
    by_cases h : ds.length + 1 ≤ 16777216
    · exact ⟨ds, e, h, q1 h⟩
    · exact (q2 h).elim
  · refine fun h => h.mono fun d τ1 q => ?_
    obtain ⟨ds, e, q1, q2⟩ := q
    exact ⟨ds, e, fun _ => q2, fun z => z q1⟩
@[simp] theorem okS_extd {i : Nat} {e : E} : Ok (evS C (.extd i e) ρ) τ U ↔ Ok (evE C e ρ) τ fun d τ1 => ∃ es, d = .list es ∧ ∃ ds, ρ[i]? = some (some (.own (.lst ds))) ∧ ds.length + es.length ≤ 16777216 ∧ U (.nx (ρ.set i (some (.own (.lst (ds ++ es)))))) τ1 := by
  show Ok ((evE C e ρ).bnd fun d => (M.of (lstD d)).bnd fun es => (lstAt ρ i).bnd fun ds => if lineOk (ds.length + es.length) then .ret (.nx (ρ.set i (some (.own (.lst (ds ++ es)))))) else .fail) τ U ↔ _
  simp only [ok_bnd, ok_ret, ok_lstAt, ok_of, ok_if, ok_fail, lineOk, decide_eq_true_eq]
  constructor
  · refine fun h => h.mono fun d τ1 q => ?_
    obtain ⟨es, e0, ds, e, q1, q2⟩ := q
    have e0 : d = .list es := by cases d <;> cases e0; rfl
    by_cases h : ds.length + es.length ≤ 16777216
    · exact ⟨es, e0, ds, e, h, q1 h⟩
    · exact (q2 h).elim
  · refine fun h => h.mono fun d τ1 q => ?_
    obtain ⟨es, rfl, ds, e, q1, q2⟩ := q
    exact ⟨es, rfl, ds, e, fun _ => q2, fun z => z q1⟩
@[simp] theorem okS_pop {i : Nat} {tg : Tg} : Ok (evS C (.pop tg i) ρ) τ U ↔ ∃ ds, ρ[i]? = some (some (.own (.lst ds))) ∧ ∃ d, ds.getLast? = some d ∧ ∃ ρ', setTg tg d (ρ.set i (some (.own (.lst ds.dropLast)))) = some ρ' ∧ U (.nx ρ') τ := by
  show Ok ((lstAt ρ i).bnd fun ds => match ds.getLast? with
    | some d => (M.of (setTg tg d (ρ.set i (some (.own (.lst ds.dropLast)))))).bnd fun ρ' => M.ret (Out.nx ρ')
    | none => .fail) τ U ↔ _
  simp only [ok_bnd, ok_lstAt]
  constructor
  · rintro ⟨ds, e, q⟩
    cases hd : ds.getLast? with
    | none => simp [hd] at q
    | some d =>
      simp only [hd, ok_bnd, ok_of, ok_ret] at q
      exact ⟨ds, e, d, hd, q⟩
  · rintro ⟨ds, e, d, hd, q⟩
    refine ⟨ds, e, ?_⟩
    simp only [hd, ok_bnd, ok_of, ok_ret]
    exact q
@[simp] theorem okS_rais : Ok (evS C .rais ρ) τ U ↔ False := ok_fail
@[simp] theorem okS_expr {e : E} : Ok (evS C (.expr e) ρ) τ U ↔ Ok (evE C e ρ) τ fun _ τ1 => U (.nx ρ) τ1 := by
  show Ok ((evE C e ρ).bnd fun _ => .ret (.nx ρ)) τ U ↔ _
  simp only [ok_bnd, ok_ret]
@[simp] theorem okS_ret {e : E} : Ok (evS C (.ret e) ρ) τ U ↔ Ok (evE C e ρ) τ fun d τ1 => U (.rt d) τ1 := by
  show Ok ((evE C e ρ).bnd fun d => .ret (.rt d)) τ U ↔ _
  simp only [ok_bnd, ok_ret]
@[simp] theorem okS_ite {c : E} {a b : List S} : Ok (evS C (.ite c a b) ρ) τ U ↔ Ok (evE C c ρ) τ fun x τ1 => ∃ k, truD x = some k ∧ (k = true → Ok (evSs C a ρ) τ1 U) ∧ (k = false → Ok (evSs C b ρ) τ1 U) := by
  show Ok ((evE C c ρ).bnd fun x => (M.of (truD x)).bnd fun k => if k then evSs C a ρ else evSs C b ρ) τ U ↔ _
  simp only [ok_bnd, ok_of, ok_ret, ok_if, Bool.not_eq_true]
@[simp] theorem okS_loop {tg : Tg} {ik : IK} {src : List E} {body : List S} : Ok (evS C (.loop tg ik src body) ρ) τ U ↔ Ok (evEs C src ρ) τ fun xs τ1 => ∃ items, walkD ik xs = some items ∧ Ok (loopL (fun d ρ => (M.of (setTg tg d ρ)).bnd fun ρ' => evSs C body ρ') items ρ) τ1 U := by
  show Ok ((evEs C src ρ).bnd fun xs => (M.of (walkD ik xs)).bnd fun items =>
    loopL (fun d ρ => (M.of (setTg tg d ρ)).bnd fun ρ' => evSs C body ρ') items ρ) τ U ↔ _
  rw [ok_bnd]
  simp only [ok_bnd (x := M.of (walkD ik _)), ok_of]
@[simp] theorem okS_cont : Ok (evS C .cont ρ) τ U ↔ U (.ct ρ) τ := ok_ret
@[simp] theorem okS_pass : Ok (evS C .pass ρ) τ U ↔ U (.nx ρ) τ := ok_ret
@[simp] theorem okS_frz {i : Nat} : Ok (evS C (.frz i) ρ) τ U ↔ ∃ o : Od, ρ[i]? = some (some (.own o)) ∧ U (.nx (ρ.set i (some (.dat o.data)))) τ := by
  show Ok ((ownAt ρ i).bnd fun o => .ret (.nx (ρ.set i (some (.dat o.data))))) τ U ↔ _
  simp only [ok_bnd, ok_ret, ok_ownAt]
end
/-! data -/
section
variable {a b : Int} {xs ys : List D}
@[simp] theorem binD_add : binD .Add (.int a) (.int b) = some (.int (a + b)) := rfl
@[simp] theorem binD_sub : binD .Sub (.int a) (.int b) = some (.int (a - b)) := rfl
@[simp] theorem binD_mul (h : mulOk a b = true) : binD .Mult (.int a) (.int b) = some (.int (a * b)) := if_pos h
@[simp] theorem binD_mod (h : 0 < b) : binD .Mod (.int a) (.int b) = some (.int (a % b)) := if_pos h
@[simp] theorem binD_div (h : 0 < b) (h2 : b < 1073741824) : binD .FloorDiv (.int a) (.int b) = some (.int (a / b)) := if_pos (by simp only [Bool.and_eq_true, decide_eq_true_eq]; exact ⟨h, h2⟩)
@[simp] theorem binD_pow (h : 0 ≤ b) (h2 : b ≤ 1000000) (h3 : a.natAbs < 2 ^ 64) : binD .Pow (.int a) (.int b) = some (.int (a ^ b.toNat)) := if_pos (by simp only [Bool.and_eq_true, decide_eq_true_eq]; exact ⟨⟨h, h2⟩, h3⟩)
@[simp] theorem binD_shl (h : 0 ≤ b) (h2 : b ≤ 1000000) (h3 : a.natAbs < 2 ^ 64) : binD .LShift (.int a) (.int b) = some (.int (a * 2 ^ b.toNat)) := if_pos (by simp only [Bool.and_eq_true, decide_eq_true_eq]; exact ⟨⟨h, h2⟩, h3⟩)
@[simp] theorem binD_addL (h : xs.length + ys.length ≤ 16777216) : binD .Add (.list xs) (.list ys) = some (.list (xs ++ ys)) := if_pos (by unfold lineOk; exact decide_eq_true h)
@[simp] theorem binD_addT (h : xs.length + ys.length ≤ 16777216) : binD .Add (.tuple xs) (.tuple ys) = some (.tuple (xs ++ ys)) := if_pos (by unfold lineOk; exact decide_eq_true h)
@[simp] theorem binD_mulL {k : Int} (h : 0 ≤ k) (h2 : k < 2 ^ 20) (h3 : xs.length * k.toNat ≤ 16777216) : binD .Mult (.list xs) (.int k) = some (.list (List.replicate k.toNat xs).flatten) := if_pos (by
  unfold lineOk
  simp only [Bool.and_eq_true, decide_eq_true_eq]
  omega)
theorem ltD_int : ltD (.int a) (.int b) = some (decide (a < b)) := by
  simp [ltD, PySem.W.alike, ordD, SeqAt.shaped, PyData.canLay0, PyData.depth, lt_ii]
@[simp] theorem cmpD_lt : cmpD .Lt (.int a) (.int b) = some (.bool (decide (a < b))) := by
  show (ltD (.int a) (.int b)).map PyData.bool = _
  rw [ltD_int]; rfl
@[simp] theorem cmpD_le : cmpD .LtE (.int a) (.int b) = some (.bool (decide (a ≤ b))) := by
  show (ltD (.int b) (.int a)).map (fun k => PyData.bool !k) = _
  rw [ltD_int]
  simp only [Option.map_some, Option.some.injEq, PyData.bool.injEq]
  by_cases h : b < a <;> simp [h] <;> omega
@[simp] theorem cmpD_gt : cmpD .Gt (.int a) (.int b) = some (.bool (decide (b < a))) := by
  show (ltD (.int b) (.int a)).map PyData.bool = _
  rw [ltD_int]; rfl
@[simp] theorem cmpD_ge : cmpD .GtE (.int a) (.int b) = some (.bool (decide (b ≤ a))) := by
  show (ltD (.int a) (.int b)).map (fun k => PyData.bool !k) = _
  rw [ltD_int]
  simp only [Option.map_some, Option.some.injEq, PyData.bool.injEq]
  by_cases h : a < b <;> simp [h] <;> omega
@[simp] theorem cmpD_eqI : cmpD .Eq (.int a) (.int b) = some (.bool (decide (a = b))) := by
  simp [cmpD, SeqAt.shaped, PyData.canLay0, PyData.depth, PyData.eqv]
  exact (Bool.beq_eq_decide_eq a b)
@[simp] theorem cmpD_neI : cmpD .NotEq (.int a) (.int b) = some (.bool (!decide (a = b))) := by
  simp [cmpD, SeqAt.shaped, PyData.canLay0, PyData.depth, PyData.eqv]
  exact (Bool.beq_eq_decide_eq a b)
@[simp] theorem cmpD_eqB {p q : Bool} : cmpD .Eq (.bool p) (.bool q) = some (.bool (p == q)) := by
  simp [cmpD, SeqAt.shaped, PyData.canLay0, PyData.depth, PyData.eqv]
@[simp] theorem cmpD_neB {p q : Bool} : cmpD .NotEq (.bool p) (.bool q) = some (.bool (!(p == q))) := by
  simp [cmpD, SeqAt.shaped, PyData.canLay0, PyData.depth, PyData.eqv]
theorem cmpD_eq {d d' : D} (h : SeqAt.shaped d = true) (h' : SeqAt.shaped d' = true) : cmpD .Eq d d' = some (.bool (PyData.eqv d d')) := by
  show (if SeqAt.shaped d && SeqAt.shaped d' then _ else _) = _
  rw [h, h']
  rfl
theorem cmpD_ne {d d' : D} (h : SeqAt.shaped d = true) (h' : SeqAt.shaped d' = true) : cmpD .NotEq d d' = some (.bool (!PyData.eqv d d')) := by
  show (if SeqAt.shaped d && SeqAt.shaped d' then _ else _) = _
  rw [h, h']
  rfl
@[simp] theorem cmpD_is {d : D} : cmpD .Is d .none = some (.bool (isNone d)) := by
  cases d <;> rfl
@[simp] theorem cmpD_isnt {d : D} : cmpD .IsNot d .none = some (.bool (!isNone d)) := by
  cases d <;> rfl
@[simp] theorem isNone_none : isNone .none = true := rfl
@[simp] theorem isNone_bool {x : Bool} : isNone (.bool x) = false := rfl
@[simp] theorem isNone_int {x : Int} : isNone (.int x) = false := rfl
@[simp] theorem isNone_str {x : Str} : isNone (.str x) = false := rfl
@[simp] theorem isNone_list {x : List D} : isNone (.list x) = false := rfl
@[simp] theorem isNone_tuple {x : List D} : isNone (.tuple x) = false := rfl
@[simp] theorem truD_bool {k : Bool} : truD (.bool k) = some k := rfl
@[simp] theorem truD_none : truD .none = some false := rfl
@[simp] theorem truD_int : truD (.int a) = some (a != 0) := rfl
@[simp] theorem truD_list : truD (.list xs) = some (!xs.isEmpty) := rfl
@[simp] theorem truD_tuple : truD (.tuple xs) = some (!xs.isEmpty) := rfl
@[simp] theorem biD_lenL : biD .len [.list xs] = some (.int xs.length) := rfl
@[simp] theorem isNone_dict {x : List (D × D)} : isNone (.dict x) = false := rfl
@[simp] theorem biD_lenD {kvs : List (D × D)} : biD .len [.dict kvs] = some (.int kvs.length) := rfl
@[simp] theorem biD_listD {kvs : List (D × D)} : biD .list [.dict kvs] = some (.list (kvs.map (·.1))) := rfl
@[simp] theorem biD_lenT : biD .len [.tuple xs] = some (.int xs.length) := rfl
@[simp] theorem biD_listL : biD .list [.list xs] = some (.list xs) := rfl
@[simp] theorem biD_listT : biD .list [.tuple xs] = some (.list xs) := rfl
@[simp] theorem biD_tupleL : biD .tuple [.list xs] = some (.tuple xs) := rfl
@[simp] theorem biD_tupleT : biD .tuple [.tuple xs] = some (.tuple xs) := rfl
@[simp] theorem biD_int : biD .int [.int a] = some (.int a) := rfl
@[simp] theorem biD_intB {k : Bool} : biD .int [.bool k] = some (.int (if k then 1 else 0)) := rfl
@[simp] theorem biD_abs : biD .abs [.int a] = some (.int (if a < 0 then -a else a)) := rfl
@[simp] theorem getD_list : getD (.list xs) (.int a) = atI xs a := rfl
@[simp] theorem getD_tuple : getD (.tuple xs) (.int a) = atI xs a := rfl
@[simp] theorem atI_nat {α : Type} {l : List α} {k : Nat} : atI l (k : Int) = l[k]? := by
  unfold atI ixN
  rw [if_pos (by omega)]
  by_cases h : (k : Int) < l.length
  · rw [if_pos h]
    rfl
  · rw [if_neg h]
    exact (List.getElem?_eq_none (by omega)).symm
theorem isiD_of {d : D} {ts : List String} {b : Bool} {s : String} (e : tyD d = s) (h : kitAnyB s ts = some b) : isiD d ts = some (.bool b) := by
  subst e
  show (match kitAnyB (tyD d) ts with
    | some b => some (PyData.bool b)
    | none => none) = _
  rw [h]
theorem kit_none_tuple : kitAnyB "NoneType" ["tuple"] = some false := by decide +kernel
@[simp] theorem isi_none_tuple : isiD (.none) ["tuple"] = some (.bool false) := isiD_of rfl kit_none_tuple
theorem kit_none_bool : kitAnyB "NoneType" ["bool"] = some false := by decide +kernel
@[simp] theorem isi_none_bool : isiD (.none) ["bool"] = some (.bool false) := isiD_of rfl kit_none_bool
theorem kit_none_list_tuple : kitAnyB "NoneType" ["list", "tuple"] = some false := by decide +kernel
@[simp] theorem isi_none_list_tuple : isiD (.none) ["list", "tuple"] = some (.bool false) := isiD_of rfl kit_none_list_tuple
theorem kit_none_list : kitAnyB "NoneType" ["list"] = some false := by decide +kernel
@[simp] theorem isi_none_list : isiD (.none) ["list"] = some (.bool false) := isiD_of rfl kit_none_list
theorem kit_none_dict : kitAnyB "NoneType" ["dict"] = some false := by decide +kernel
@[simp] theorem isi_none_dict : isiD (.none) ["dict"] = some (.bool false) := isiD_of rfl kit_none_dict
theorem kit_none_int : kitAnyB "NoneType" ["int"] = some false := by decide +kernel
@[simp] theorem isi_none_int : isiD (.none) ["int"] = some (.bool false) := isiD_of rfl kit_none_int
theorem kit_none_str : kitAnyB "NoneType" ["str"] = some false := by decide +kernel
@[simp] theorem isi_none_str : isiD (.none) ["str"] = some (.bool false) := isiD_of rfl kit_none_str
theorem kit_none_bool_str : kitAnyB "NoneType" ["bool", "str"] = some false := by decide +kernel
@[simp] theorem isi_none_bool_str : isiD (.none) ["bool", "str"] = some (.bool false) := isiD_of rfl kit_none_bool_str
theorem kit_bool_tuple : kitAnyB "bool" ["tuple"] = some false := by decide +kernel
@[simp] theorem isi_bool_tuple {x : Bool} : isiD (.bool x) ["tuple"] = some (.bool false) := isiD_of rfl kit_bool_tuple
theorem kit_bool_bool : kitAnyB "bool" ["bool"] = some true := by decide +kernel
@[simp] theorem isi_bool_bool {x : Bool} : isiD (.bool x) ["bool"] = some (.bool true) := isiD_of rfl kit_bool_bool
theorem kit_bool_list_tuple : kitAnyB "bool" ["list", "tuple"] = some false := by decide +kernel
@[simp] theorem isi_bool_list_tuple {x : Bool} : isiD (.bool x) ["list", "tuple"] = some (.bool false) := isiD_of rfl kit_bool_list_tuple
theorem kit_bool_list : kitAnyB "bool" ["list"] = some false := by decide +kernel
@[simp] theorem isi_bool_list {x : Bool} : isiD (.bool x) ["list"] = some (.bool false) := isiD_of rfl kit_bool_list
theorem kit_bool_dict : kitAnyB "bool" ["dict"] = some false := by decide +kernel
@[simp] theorem isi_bool_dict {x : Bool} : isiD (.bool x) ["dict"] = some (.bool false) := isiD_of rfl kit_bool_dict
theorem kit_bool_int : kitAnyB "bool" ["int"] = some true := by decide +kernel
@[simp] theorem isi_bool_int {x : Bool} : isiD (.bool x) ["int"] = some (.bool true) := isiD_of rfl kit_bool_int
theorem kit_bool_str : kitAnyB "bool" ["str"] = some false := by decide +kernel
@[simp] theorem isi_bool_str {x : Bool} : isiD (.bool x) ["str"] = some (.bool false) := isiD_of rfl kit_bool_str
theorem kit_bool_bool_str : kitAnyB "bool" ["bool", "str"] = some true := by decide +kernel
@[simp] theorem isi_bool_bool_str {x : Bool} : isiD (.bool x) ["bool", "str"] = some (.bool true) := isiD_of rfl kit_bool_bool_str
theorem kit_int_tuple : kitAnyB "int" ["tuple"] = some false := by decide +kernel
@[simp] theorem isi_int_tuple {x : Int} : isiD (.int x) ["tuple"] = some (.bool false) := isiD_of rfl kit_int_tuple
theorem kit_int_bool : kitAnyB "int" ["bool"] = some false := by decide +kernel
@[simp] theorem isi_int_bool {x : Int} : isiD (.int x) ["bool"] = some (.bool false) := isiD_of rfl kit_int_bool
theorem kit_int_list_tuple : kitAnyB "int" ["list", "tuple"] = some false := by decide +kernel
@[simp] theorem isi_int_list_tuple {x : Int} : isiD (.int x) ["list", "tuple"] = some (.bool false) := isiD_of rfl kit_int_list_tuple
theorem kit_int_list : kitAnyB "int" ["list"] = some false := by decide +kernel
@[simp] theorem isi_int_list {x : Int} : isiD (.int x) ["list"] = some (.bool false) := isiD_of rfl kit_int_list
theorem kit_int_dict : kitAnyB "int" ["dict"] = some false := by decide +kernel
@[simp] theorem isi_int_dict {x : Int} : isiD (.int x) ["dict"] = some (.bool false) := isiD_of rfl kit_int_dict
theorem kit_int_int : kitAnyB "int" ["int"] = some true := by decide +kernel
@[simp] theorem isi_int_int {x : Int} : isiD (.int x) ["int"] = some (.bool true) := isiD_of rfl kit_int_int
theorem kit_int_str : kitAnyB "int" ["str"] = some false := by decide +kernel
@[simp] theorem isi_int_str {x : Int} : isiD (.int x) ["str"] = some (.bool false) := isiD_of rfl kit_int_str
theorem kit_int_bool_str : kitAnyB "int" ["bool", "str"] = some false := by decide +kernel
@[simp] theorem isi_int_bool_str {x : Int} : isiD (.int x) ["bool", "str"] = some (.bool false) := isiD_of rfl kit_int_bool_str
theorem kit_str_tuple : kitAnyB "str" ["tuple"] = some false := by decide +kernel
@[simp] theorem isi_str_tuple {x : Str} : isiD (.str x) ["tuple"] = some (.bool false) := isiD_of rfl kit_str_tuple
theorem kit_str_bool : kitAnyB "str" ["bool"] = some false := by decide +kernel
@[simp] theorem isi_str_bool {x : Str} : isiD (.str x) ["bool"] = some (.bool false) := isiD_of rfl kit_str_bool
theorem kit_str_list_tuple : kitAnyB "str" ["list", "tuple"] = some false := by decide +kernel
@[simp] theorem isi_str_list_tuple {x : Str} : isiD (.str x) ["list", "tuple"] = some (.bool false) := isiD_of rfl kit_str_list_tuple
theorem kit_str_list : kitAnyB "str" ["list"] = some false := by decide +kernel
@[simp] theorem isi_str_list {x : Str} : isiD (.str x) ["list"] = some (.bool false) := isiD_of rfl kit_str_list
theorem kit_str_dict : kitAnyB "str" ["dict"] = some false := by decide +kernel
@[simp] theorem isi_str_dict {x : Str} : isiD (.str x) ["dict"] = some (.bool false) := isiD_of rfl kit_str_dict
theorem kit_str_int : kitAnyB "str" ["int"] = some false := by decide +kernel
@[simp] theorem isi_str_int {x : Str} : isiD (.str x) ["int"] = some (.bool false) := isiD_of rfl kit_str_int
theorem kit_str_str : kitAnyB "str" ["str"] = some true := by decide +kernel
@[simp] theorem isi_str_str {x : Str} : isiD (.str x) ["str"] = some (.bool true) := isiD_of rfl kit_str_str
theorem kit_str_bool_str : kitAnyB "str" ["bool", "str"] = some true := by decide +kernel
@[simp] theorem isi_str_bool_str {x : Str} : isiD (.str x) ["bool", "str"] = some (.bool true) := isiD_of rfl kit_str_bool_str
theorem kit_list_tuple : kitAnyB "list" ["tuple"] = some false := by decide +kernel
@[simp] theorem isi_list_tuple {x : List D} : isiD (.list x) ["tuple"] = some (.bool false) := isiD_of rfl kit_list_tuple
theorem kit_list_bool : kitAnyB "list" ["bool"] = some false := by decide +kernel
@[simp] theorem isi_list_bool {x : List D} : isiD (.list x) ["bool"] = some (.bool false) := isiD_of rfl kit_list_bool
theorem kit_list_list_tuple : kitAnyB "list" ["list", "tuple"] = some true := by decide +kernel
@[simp] theorem isi_list_list_tuple {x : List D} : isiD (.list x) ["list", "tuple"] = some (.bool true) := isiD_of rfl kit_list_list_tuple
theorem kit_list_list : kitAnyB "list" ["list"] = some true := by decide +kernel
@[simp] theorem isi_list_list {x : List D} : isiD (.list x) ["list"] = some (.bool true) := isiD_of rfl kit_list_list
theorem kit_list_dict : kitAnyB "list" ["dict"] = some false := by decide +kernel
@[simp] theorem isi_list_dict {x : List D} : isiD (.list x) ["dict"] = some (.bool false) := isiD_of rfl kit_list_dict
theorem kit_list_int : kitAnyB "list" ["int"] = some false := by decide +kernel
@[simp] theorem isi_list_int {x : List D} : isiD (.list x) ["int"] = some (.bool false) := isiD_of rfl kit_list_int
theorem kit_list_str : kitAnyB "list" ["str"] = some false := by decide +kernel
@[simp] theorem isi_list_str {x : List D} : isiD (.list x) ["str"] = some (.bool false) := isiD_of rfl kit_list_str
theorem kit_list_bool_str : kitAnyB "list" ["bool", "str"] = some false := by decide +kernel
@[simp] theorem isi_list_bool_str {x : List D} : isiD (.list x) ["bool", "str"] = some (.bool false) := isiD_of rfl kit_list_bool_str
theorem kit_tuple_tuple : kitAnyB "tuple" ["tuple"] = some true := by decide +kernel
@[simp] theorem isi_tuple_tuple {x : List D} : isiD (.tuple x) ["tuple"] = some (.bool true) := isiD_of rfl kit_tuple_tuple
theorem kit_tuple_bool : kitAnyB "tuple" ["bool"] = some false := by decide +kernel
@[simp] theorem isi_tuple_bool {x : List D} : isiD (.tuple x) ["bool"] = some (.bool false) := isiD_of rfl kit_tuple_bool
theorem kit_tuple_list_tuple : kitAnyB "tuple" ["list", "tuple"] = some true := by decide +kernel
@[simp] theorem isi_tuple_list_tuple {x : List D} : isiD (.tuple x) ["list", "tuple"] = some (.bool true) := isiD_of rfl kit_tuple_list_tuple
theorem kit_tuple_list : kitAnyB "tuple" ["list"] = some false := by decide +kernel
@[simp] theorem isi_tuple_list {x : List D} : isiD (.tuple x) ["list"] = some (.bool false) := isiD_of rfl kit_tuple_list
theorem kit_tuple_dict : kitAnyB "tuple" ["dict"] = some false := by decide +kernel
@[simp] theorem isi_tuple_dict {x : List D} : isiD (.tuple x) ["dict"] = some (.bool false) := isiD_of rfl kit_tuple_dict
theorem kit_tuple_int : kitAnyB "tuple" ["int"] = some false := by decide +kernel
@[simp] theorem isi_tuple_int {x : List D} : isiD (.tuple x) ["int"] = some (.bool false) := isiD_of rfl kit_tuple_int
theorem kit_tuple_str : kitAnyB "tuple" ["str"] = some false := by decide +kernel
@[simp] theorem isi_tuple_str {x : List D} : isiD (.tuple x) ["str"] = some (.bool false) := isiD_of rfl kit_tuple_str
theorem kit_tuple_bool_str : kitAnyB "tuple" ["bool", "str"] = some false := by decide +kernel
@[simp] theorem isi_tuple_bool_str {x : List D} : isiD (.tuple x) ["bool", "str"] = some (.bool false) := isiD_of rfl kit_tuple_bool_str
theorem kit_dict_tuple : kitAnyB "dict" ["tuple"] = some false := by decide +kernel
@[simp] theorem isi_dict_tuple {x : List (D × D)} : isiD (.dict x) ["tuple"] = some (.bool false) := isiD_of rfl kit_dict_tuple
theorem kit_dict_bool : kitAnyB "dict" ["bool"] = some false := by decide +kernel
@[simp] theorem isi_dict_bool {x : List (D × D)} : isiD (.dict x) ["bool"] = some (.bool false) := isiD_of rfl kit_dict_bool
theorem kit_dict_list_tuple : kitAnyB "dict" ["list", "tuple"] = some false := by decide +kernel
@[simp] theorem isi_dict_list_tuple {x : List (D × D)} : isiD (.dict x) ["list", "tuple"] = some (.bool false) := isiD_of rfl kit_dict_list_tuple
theorem kit_dict_list : kitAnyB "dict" ["list"] = some false := by decide +kernel
@[simp] theorem isi_dict_list {x : List (D × D)} : isiD (.dict x) ["list"] = some (.bool false) := isiD_of rfl kit_dict_list
theorem kit_dict_dict : kitAnyB "dict" ["dict"] = some true := by decide +kernel
@[simp] theorem isi_dict_dict {x : List (D × D)} : isiD (.dict x) ["dict"] = some (.bool true) := isiD_of rfl kit_dict_dict
theorem kit_dict_int : kitAnyB "dict" ["int"] = some false := by decide +kernel
@[simp] theorem isi_dict_int {x : List (D × D)} : isiD (.dict x) ["int"] = some (.bool false) := isiD_of rfl kit_dict_int
theorem kit_dict_str : kitAnyB "dict" ["str"] = some false := by decide +kernel
@[simp] theorem isi_dict_str {x : List (D × D)} : isiD (.dict x) ["str"] = some (.bool false) := isiD_of rfl kit_dict_str
theorem kit_dict_bool_str : kitAnyB "dict" ["bool", "str"] = some false := by decide +kernel
@[simp] theorem isi_dict_bool_str {x : List (D × D)} : isiD (.dict x) ["bool", "str"] = some (.bool false) := isiD_of rfl kit_dict_bool_str
theorem stoD_nat {k : Nat} {d : D} (h : k < xs.length) : stoD xs (.int (k : Int)) d = some (xs.set k d) := by
  unfold stoD ixN
  simp only
  rw [if_pos (by omega), if_pos (by omega)]
  rfl
@[simp] theorem atI_zero {α : Type} {l : List α} : atI l 0 = l[0]? := atI_nat (k := 0)
@[simp] theorem atI_lit {α : Type} {l : List α} {k : Nat} : atI l (OfNat.ofNat k : Int) = l[k]? := atI_nat (k := k)
@[simp] theorem atI_one {α : Type} {l : List α} : atI l 1 = l[1]? := atI_nat (k := 1)
@[simp] theorem atI_n2 {α : Type} {l : List α} : atI l 2 = l[2]? := atI_nat (k := 2)
@[simp] theorem atI_n3 {α : Type} {l : List α} : atI l 3 = l[3]? := atI_nat (k := 3)
@[simp] theorem atI_n4 {α : Type} {l : List α} : atI l 4 = l[4]? := atI_nat (k := 4)
@[simp] theorem atI_n5 {α : Type} {l : List α} : atI l 5 = l[5]? := atI_nat (k := 5)
@[simp] theorem atI_n6 {α : Type} {l : List α} : atI l 6 = l[6]? := atI_nat (k := 6)
@[simp] theorem atI_n7 {α : Type} {l : List α} : atI l 7 = l[7]? := atI_nat (k := 7)
@[simp] theorem atI_n8 {α : Type} {l : List α} : atI l 8 = l[8]? := atI_nat (k := 8)
@[simp] theorem atI_n9 {α : Type} {l : List α} : atI l 9 = l[9]? := atI_nat (k := 9)
@[simp] theorem atI_n10 {α : Type} {l : List α} : atI l 10 = l[10]? := atI_nat (k := 10)
@[simp] theorem atI_n11 {α : Type} {l : List α} : atI l 11 = l[11]? := atI_nat (k := 11)
@[simp] theorem atI_n12 {α : Type} {l : List α} : atI l 12 = l[12]? := atI_nat (k := 12)
@[simp] theorem atI_last {α : Type} {l : List α} : atI l (-1) = l.getLast? := by
  rw [List.getLast?_eq_getElem?]
  unfold atI ixN
  rw [if_neg (by decide)]
  cases l with
  | nil => rfl
  | cons x r =>
    rw [if_pos (by simp only [List.length_cons]; omega)]
    have : ((-1 : Int) + ((x :: r).length : Int)).toNat = (x :: r).length - 1 := by simp only [List.length_cons]; omega
    rw [this]
    rfl
@[simp] theorem sliceD_list {lo hi : Option Int} : sliceD (.list xs) lo hi = some (.list (cutL xs lo hi)) := rfl
@[simp] theorem sliceD_tuple {lo hi : Option Int} : sliceD (.tuple xs) lo hi = some (.tuple (cutL xs lo hi)) := rfl
@[simp] theorem seqD_list : seqD (.list xs) = some xs := rfl
@[simp] theorem seqD_tuple : seqD (.tuple xs) = some xs := rfl
@[simp] theorem revD_list : revD (.list xs) = some (.list xs.reverse) := rfl
@[simp] theorem walkD_list : walkD .ex [.list xs] = some xs := rfl
@[simp] theorem walkD_tuple : walkD .ex [.tuple xs] = some xs := rfl
@[simp] theorem walkD_enumL : walkD .enum [.list xs] = some (enumFrom 0 xs) := rfl
@[simp] theorem walkD_enumT : walkD .enum [.tuple xs] = some (enumFrom 0 xs) := rfl
@[simp] theorem walkD_zipL : walkD .zip [.list xs, .list ys] = some (zipD xs ys) := rfl
@[simp] theorem walkD_zipT : walkD .zip [.tuple xs, .tuple ys] = some (zipD xs ys) := rfl
@[simp] theorem walkD_zipLT : walkD .zip [.list xs, .tuple ys] = some (zipD xs ys) := rfl
@[simp] theorem walkD_zipTL : walkD .zip [.tuple xs, .list ys] = some (zipD xs ys) := rfl
theorem walkD_range {j : Int} (h : j ≤ 16777216) (h2 : 0 ≤ j) : walkD .range [.int j] = some (rangeD 0 j.toNat) := if_pos (by
  unfold near62 lineOk
  simp only [Bool.and_eq_true, decide_eq_true_eq]
  omega)
theorem walkC_of {ik : IK} {xs items : List D} (h : walkD ik xs = some items) (hl : items.length ≤ 16777216) : walkC ik xs = some items := by
  unfold walkC
  rw [h]
  exact if_pos (by unfold lineOk; exact decide_eq_true hl)
@[simp] theorem setTg_nm {i : Nat} {d : D} {ρ : En} : setTg (.nm i) d ρ = some (ρ.set i (some (.dat d))) := rfl
@[simp] theorem setTg_tup {is : List Nat} {ds : List D} {ρ : En} : setTg (.tup is) (.tuple ds) ρ = setDs is ds ρ := rfl
@[simp] theorem setDs_nil {ρ : En} : setDs [] [] ρ = some ρ := rfl
@[simp] theorem setDs_cons {i : Nat} {is : List Nat} {d : D} {ds : List D} {ρ : En} : setDs (i :: is) (d :: ds) ρ = setDs is ds (ρ.set i (some (.dat d))) := rfl
@[simp] theorem isTin_zero {ρ : En} : isTin (some .tin :: ρ) 0 = true := rfl
@[simp] theorem slots_nm {i : Nat} : (Tg.nm i).slots = [i] := rfl
@[simp] theorem slots_tup {is : List Nat} : (Tg.tup is).slots = is := rfl
@[simp] theorem wipeE_nil {ρ : En} : wipeE ρ [] = ρ := rfl
@[simp] theorem wipeE_cons {ρ : En} {v : Nat} {vs : List Nat} : wipeE ρ (v :: vs) = (wipeE ρ vs).set v none := rfl
@[simp] theorem outD_rt {d : D} : outD (.rt d) = some d := rfl
@[simp] theorem outD_nx {ρ : En} : outD (.nx ρ) = some .none := rfl
@[simp] theorem outD_ct {ρ : En} : outD (.ct ρ) = none := rfl
@[simp] theorem envI_f {k : Nat} {ds : List D} : envI false k ds = ds.map (fun d => some (Ent.dat d)) ++ List.replicate k none := rfl
@[simp] theorem envI_t {k : Nat} {ds : List D} : envI true k ds = some Ent.tin :: (ds.map (fun d => some (Ent.dat d)) ++ List.replicate k none) := rfl
theorem cut_to {α : Type} (l : List α) (k : Nat) : cutL l none (some (k : Int)) = l.take k := by
  unfold cutL
  rw [HT.sIx_none, HT.sIx_nat, List.drop_zero, Nat.sub_zero]
  rcases Nat.le_total k l.length with hh | hh
  · rw [Nat.min_eq_left hh]
  · rw [Nat.min_eq_right hh, List.take_of_length_le hh, List.take_length]
theorem cut_from {α : Type} (l : List α) (k : Nat) : cutL l (some (k : Int)) none = l.drop k := by
  unfold cutL
  rw [HT.sIx_none, HT.sIx_nat]
  rw [List.take_of_length_le (by rw [List.length_drop]; omega)]
  rcases Nat.le_total k l.length with hh | hh
  · rw [Nat.min_eq_left hh]
  · rw [Nat.min_eq_right hh, List.drop_length, List.drop_eq_nil_of_le hh]
theorem cut_mid {α : Type} (l : List α) (j k : Nat) : cutL l (some (j : Int)) (some (k : Int)) = (l.drop j).take (k - j) := by
  unfold cutL
  rw [HT.sIx_nat, HT.sIx_nat]
  rcases Nat.le_total j l.length with hh | hh
  · rw [Nat.min_eq_left hh]
    rcases Nat.le_total k l.length with h2 | h2
    · rw [Nat.min_eq_left h2]
    · rw [Nat.min_eq_right h2, List.take_of_length_le (by rw [List.length_drop]; omega), List.take_of_length_le (by rw [List.length_drop]; omega)]
  · rw [Nat.min_eq_right hh, List.drop_length, List.drop_eq_nil_of_le hh, List.take_nil, List.take_nil]
end
end KN

set_option maxRecDepth 100000
set_option maxHeartbeats 4000000
namespace KN
open PySem L2 PyProof.Rows
/-! ### the draws -/
def takeB : List S := [
  .ite (.cmp .Gt (.tget 0 (.int 0)) (.int 0)) [.asg 2 (.bin .Mod (.bi .int [.tget 0 (.int 0)]) (.var 1)), .stoT 0 (.int 0) (.bin .FloorDiv (.tget 0 (.int 0)) (.var 1)), .ret (.var 2)] [],
  .stoT 0 (.int 2) (.bin .Add (.tget 0 (.int 2)) (.int 1)),
  .asg 3 (.bin .Mod (.bi .int [.bin .Mult (.bin .Add (.tget 0 (.int 1)) (.bin .Mult (.int 48271) (.tget 0 (.int 2)))) (.bin .Add (.int 39373) (.tget 0 (.int 2)))]) (.int 2147483647)),
  .asg 4 (.bin .Add (.bin .Mod (.bi .int [.var 3]) (.int 40009)) (.int 7)),
  .asg 5 (.bin .Mod (.bi .int [.bin .Mult (.bin .Add (.bin .Add (.var 3) (.tget 0 (.int 2))) (.bin .FloorDiv (.tget 0 (.int 1)) (.int 1000003))) (.var 4)]) (.int 2147483629)),
  .ret (.bin .Mod (.bi .int [.bin .FloorDiv (.bin .Mod (.bi .int [.bin .Add (.bin .Mult (.var 5) (.int 48271)) (.var 3)]) (.int 2147483587)) (.int 64)]) (.var 1))]
/-- the box after at most m draws -/
def Bx (τ : List D) (m : Nat) : Prop := ∃ a b c : Int, τ = [.int a, .int b, .int c] ∧ 0 ≤ a ∧ 0 ≤ c ∧ c ≤ m
theorem Bx.mono {τ : List D} {m k : Nat} (h : Bx τ m) (hk : m ≤ k) : Bx τ k := by
  obtain ⟨a, b, c, e, h1, h2, h3⟩ := h
  exact ⟨a, b, c, e, h1, h2, by omega⟩
theorem take_ok {T : Tb} {n f : Nat} {top : Int} {τ : List D} {m : Nat} (h : Is T f takeB true 2 6) (hb : Bx τ m) (hm : m < 2 ^ 60) (h0 : 0 < top) (h1 : top < 1073741824) :
    Ok (callF T (n + 1) f [.int top]) τ fun d τ' => ∃ k : Int, d = .int k ∧ 0 ≤ k ∧ k < top ∧ Bx τ' (m + 1) := by
  obtain ⟨a, b, c, rfl, ha, hc, hcm⟩ := hb
  rw [ok_is h rfl]
  by_cases hp : 0 < a
  · simp [takeB, hp, h0, h1, stoD, ixN]
    exact ⟨Int.emod_nonneg _ (by omega), Int.emod_lt_of_pos _ h0, _, _, _, rfl, Int.ediv_nonneg ha (by omega), hc, by omega⟩
  · have e0 : a = 0 := by omega
    subst e0
    have q1 : mulOk 48271 (c + 1) = true := by simp [mulOk]
    have q2 : mulOk (b + 48271 * (c + 1)) (39373 + (c + 1)) = true := by
      unfold mulOk
      simp only [Bool.or_eq_true, Bool.and_eq_true, decide_eq_true_eq]
      omega
    have q3 : ∀ x y : Int, mulOk x (y % 40009 + 7) = true := fun x y => by
      unfold mulOk
      simp only [Bool.or_eq_true, Bool.and_eq_true, decide_eq_true_eq]
      omega
    have q4 : ∀ x : Int, mulOk x 48271 = true := fun x => by
      unfold mulOk
      simp
    simp [takeB, h0, stoD, ixN, q1, q2, q3, q4]
    exact ⟨Int.emod_nonneg _ (by omega), Int.emod_lt_of_pos _ h0, _, _, _, rfl, by omega, by omega, by omega⟩
end KN

set_option maxRecDepth 100000
set_option maxHeartbeats 4000000
namespace KN
open PySem L2 PyProof.Rows
theorem call_is {T : Tb} {n f : Nat} {b : List S} {tin : Bool} {p nn : Nat} {ds : List D} {τ τ' : List D} {d : D} (h : Is T f b tin p nn) (hl : (if tin then ds.length + 1 else ds.length) = p)
    (e : evSs (callF T n) b (envI tin (nn - p) ds) τ = some (.rt d, τ')) : callF T (n + 1) f ds τ = some (d, τ') := by
  obtain ⟨d', τ1, e1, rfl, rfl⟩ := (ok_is (n := n) (Q := fun d1 τ1 => d1 = d ∧ τ1 = τ') h hl).2 ⟨_, _, e, _, rfl, rfl, rfl⟩
  exact e1
/-! ### the box -/
def boxB (z : Int) : List S := [
  .asg 2 (.ite (.cmp .Lt (.var 1) (.bi .len [.var 0])) (.get (.var 0) (.var 1)) (.int 0)),
  .ret (.lst [.bin .Mult (.bi .abs [.var 2]) (.bi .int [.cmp .GtE (.bi .abs [.var 2]) (.bin .Pow (.int 10) (.int 18))]), .bin .Add (.bin .Add (.bin .Mod (.bi .int [.var 2]) (.int 2305843009213693951)) (.bin .Mult (.int 39373) (.var 1))) (.int z), .int 0])]
theorem mulOk_left {i j : Int} (h1 : -(2 ^ 64) < i) (h2 : i < 2 ^ 64) : mulOk i j = true := by
  unfold mulOk
  simp only [Bool.or_eq_true, Bool.and_eq_true, decide_eq_true_eq]
  exact .inl ⟨h1, h2⟩
theorem mulOk_right {i j : Int} (h1 : -(2 ^ 64) < j) (h2 : j < 2 ^ 64) : mulOk i j = true := by
  unfold mulOk
  simp only [Bool.or_eq_true, Bool.and_eq_true, decide_eq_true_eq]
  exact .inr ⟨h1, h2⟩
theorem box_ok {T : Tb} {n f : Nat} {z : Int} {xs : List Int} {k : Nat} (h : Is T f (boxB z) false 2 3) (hk : k < xs.length) {τ : List D} :
    Ok (callF T (n + 1) f [.list (xs.map .int), .int k]) τ fun d _ => ∃ σ, d = .list σ ∧ Bx σ 0 := by
  rw [ok_is h rfl]
  have e1 : ((k : Int) < (xs.length : Int)) := by omega
  have e2 : xs[k]? = some xs[k] := List.getElem?_eq_getElem hk
  have q1 : ∀ j : Int, mulOk 39373 j = true := fun j => mulOk_left (by decide) (by decide)
  have q2 : ∀ (i : Int) (p : Prop) [Decidable p], mulOk i (if p then 1 else 0) = true := fun i p _ => mulOk_right (by split <;> decide) (by split <;> decide)
  generalize xs[k] = x at e2
  simp [boxB, e1, e2, q1, q2]
  refine ⟨_, _, _, rfl, Int.mul_nonneg ?_ ?_, by omega, by omega⟩
  · split <;> omega
  · split <;> omega
/-! ### the cells -/
def cellsB : List S := [
  .asgO 2 (.or (.bi .list [.slice (.var 0) .absent (.var 1)]) (.lst [.int 0])),
  .loop (.tup [3, 4]) .enum [.slice (.var 0) (.var 1) (.int 63)] [.asg 5 (.bin .Mod (.bi .int [.var 3]) (.var 1)), .sto 2 (.var 5) (.bin .Add (.get (.peek 2) (.var 5)) (.bin .Mult (.var 4) (.bin .Add (.var 3) (.int 2))))],
  .frz 2,
  .ret (.var 2)]
theorem cells_ok {T : Tb} {n f : Nat} {xs : List Int} {s : Nat} (h : Is T f cellsB false 2 6) (hs : 0 < s) (hs2 : s < 63) (hl : xs.length ≤ 63) {τ : List D} :
    Ok (callF T (n + 1) f [.list (xs.map .int), .int s]) τ fun d _ => ∃ ys : List Int, d = .list (ys.map .int) ∧ 0 < ys.length ∧ ys.length ≤ s := by
  rw [ok_is h rfl]
  have c2 : cutL (xs.map PyData.int) (some (s : Int)) (some 63) = ((xs.drop s).take (63 - s)).map .int := by
    rw [show (some (63 : Int)) = some ((63 : Nat) : Int) from rfl, cut_mid, List.map_take, List.map_drop]
  simp [cellsB, cut_to, c2]
  by_cases hx : xs = []
  · subst hx
    refine .inl ⟨.inr rfl, ?_⟩
    simp [enumFrom, loopL]
    exact ⟨[0], by simp, by simp, by simp; omega⟩
  · refine .inr ⟨⟨by omega, hx⟩, ?_⟩
    have hx1 : 0 < xs.length := List.length_pos_iff.mpr hx
    refine ok_loop (fun items ρ _ => ∃ (k : Nat) (zs ys : List Int) (v3 v4 v5 : Option Ent), items = enumFrom k (zs.map .int) ∧ ρ = [some (.dat (.list (xs.map .int))), some (.dat (.int s)), some (.own (.lst (ys.map .int))), v3, v4, v5] ∧ 0 < ys.length ∧ ys.length ≤ s ∧ (zs ≠ [] → ys.length = s) ∧ k + zs.length ≤ 63) ?_ ?_ _ _ _ ⟨0, (xs.drop s).take (63 - s), xs.take s, none, none, none, ?_, ?_, ?_, ?_, ?_, ?_⟩
    · rintro d r ρ τ ⟨k, zs, ys, v3, v4, v5, e1, rfl, h1, h2, h3, h4⟩
      cases zs with
      | nil => cases e1
      | cons z zs =>
        simp only [List.map_cons, enumFrom, List.cons.injEq] at e1
        obtain ⟨rfl, rfl⟩ := e1
        have hy := h3 (by simp)
        have h5 : (0 : Int) < s := by omega
        have h6 : ((k : Int) % (s : Int)) = ((k % s : Nat) : Int) := by omega
        have h7 : k % s < ys.length := by rw [hy]; exact Nat.mod_lt _ hs
        have a1 : atI (ys.map PyData.int) ((k : Int) % (s : Int)) = some (.int ys[k % s]) := by
          rw [h6, atI_nat, List.getElem?_map, List.getElem?_eq_getElem h7]
          rfl
        have a2 : ∀ d, stoD (ys.map PyData.int) (.int ((k : Int) % (s : Int))) d = some ((ys.map PyData.int).set (k % s) d) := fun d => by
          rw [h6, stoD_nat (by rw [List.length_map]; exact h7)]
        have q : ∀ i : Int, mulOk i ((k : Int) + 2) = true := fun i => mulOk_right (by omega) (by simp only [List.length_cons] at h4; omega)
        simp [hs, a1, a2, q]
        refine ⟨k + 1, zs, rfl, ys.set (k % s) (ys[k % s] + z * (k + 2)), ?_, by simpa using h1, by simpa using h2, fun _ => by simpa using hy, by simp only [List.length_cons] at h4; omega⟩
        rw [List.map_set]
    · rintro ρ τ ⟨k, zs, ys, v3, v4, v5, e1, rfl, h1, h2, h3, h4⟩
      simp
      exact ⟨ys, rfl, h1, h2⟩
    · simp
    · simp
    · rw [List.length_take]; omega
    · rw [List.length_take]; omega
    · intro hz
      rw [List.length_take]
      have : xs.drop s ≠ [] := fun e => hz (by rw [e, List.take_nil])
      have : s < xs.length := by
        rcases Nat.lt_or_ge s xs.length with h | h
        · exact h
        · exact absurd (List.drop_eq_nil_of_le h) this
      omega
    · rw [List.length_take, List.length_drop]; omega
/-! ### one of a pool -/
def ofB (t : Nat) : List S := [.ret (.get (.var 1) (.callT t 0 [.bi .len [.var 1]]))]
theorem of_ok {T : Tb} {n f t : Nat} {ds : List D} {τ : List D} {m : Nat} (h : Is T f (ofB t) true 2 2) (ht : Is T t takeB true 2 6) (hb : Bx τ m) (hm : m < 2 ^ 60) (h0 : 0 < ds.length) (h1 : ds.length < 1073741824) :
    Ok (callF T (n + 2) f [.list ds]) τ fun d τ' => d ∈ ds ∧ Bx τ' (m + 1) := by
  rw [ok_is h rfl]
  simp [ofB]
  refine (take_ok ht hb hm (by omega) (by omega)).mono fun d τ' q => ?_
  obtain ⟨k, rfl, k0, k1, b⟩ := q
  obtain ⟨j, rfl⟩ := Int.eq_ofNat_of_zero_le k0
  have hj : j < ds.length := by omega
  refine ⟨ds[j], ?_, List.getElem_mem hj, b⟩
  simp [List.getElem?_eq_getElem hj]
end KN

set_option maxRecDepth 100000
set_option maxHeartbeats 4000000
namespace KN
open PySem L2 PyProof.Rows
/-! ### the likeness of data -/
def sameB (f : Nat) : List S := [
  .ite (.isi (.var 1) ["list", "tuple"] true) [.ite (.or (.cmp .NotEq (.isi (.var 0) ["list"] false) (.isi (.var 1) ["list"] false)) (.cmp .NotEq (.isi (.var 0) ["tuple"] false) (.isi (.var 1) ["tuple"] false))) [.ret (.bl false)] [], .ret (.and (.cmp .Eq (.bi .len [.var 0]) (.bi .len [.var 1])) (.bi .all [.comp (.call f [.var 2, .var 3]) (.tup [2, 3]) .zip [.var 0, .var 1] .absent]))] [],
  .ite (.isi (.var 1) ["dict"] false) [.ite (.or (.not (.isi (.var 0) ["dict"] false)) (.cmp .NotEq (.bi .sorted [.var 0]) (.bi .sorted [.var 1]))) [.ret (.bl false)] [], .ret (.bi .all [.comp (.call f [.get (.var 0) (.var 4), .get (.var 1) (.var 4)]) (.nm 4) .ex [.var 1] .absent])] [],
  .ite (.or (.cmp .Is (.var 1) .non) (.isi (.var 1) ["bool", "str"] true)) [.ret (.and (.cmp .Eq (.var 0) (.var 1)) (.and (.cmp .Eq (.isi (.var 0) ["bool"] false) (.isi (.var 1) ["bool"] false)) (.cmp .Eq (.cmp .Is (.var 0) .non) (.cmp .Is (.var 1) .non))))] [],
  .ret (.and (.isi (.var 0) ["int"] false) (.and (.not (.isi (.var 0) ["bool"] false)) (.cmp .Eq (.var 0) (.var 1))))]
mutual
/-- data that a run may liken: no dict, no long line -/
def okD : D → Bool
  | .none | .bool _ | .int _ => true
  | .str x => PyData.strOk x && decide (x.length ≤ 4096)
  | .list xs | .tuple xs => decide (xs.length ≤ 16777216) && okDs xs
  | .dict _ => false
def okDs : List D → Bool
  | [] => true
  | x :: xs => okD x && okDs xs
end
theorem okDs_mem : ∀ {xs : List D}, okDs xs = true → ∀ x ∈ xs, okD x = true
  | [], _, _, h => by cases h
  | y :: r, h, x, hx => by
    simp only [okDs, Bool.and_eq_true] at h
    rcases List.mem_cons.1 hx with rfl | h2
    · exact h.1
    · exact okDs_mem h.2 x h2
theorem okDs_of : ∀ {xs : List D}, (∀ x ∈ xs, okD x = true) → okDs xs = true
  | [], _ => rfl
  | y :: r, h => by
    simp only [okDs, Bool.and_eq_true]
    exact ⟨h y List.mem_cons_self, okDs_of fun x hx => h x (List.mem_cons_of_mem _ hx)⟩
theorem depthAll_mem : ∀ {xs : List D} {x : D}, x ∈ xs → x.depth ≤ PyData.depthAll xs
  | [], _, h => by cases h
  | y :: r, x, h => by
    simp only [PyData.depthAll]
    rcases List.mem_cons.1 h with rfl | h2
    · exact Nat.le_max_left _ _
    · exact Nat.le_trans (depthAll_mem h2) (Nat.le_max_right _ _)
theorem zip_self {xs : List D} : ∀ d ∈ zipD xs xs, ∃ x ∈ xs, d = .tuple [x, x] := by
  induction xs with
  | nil => intro d h; cases h
  | cons x r ih =>
    intro d h
    rcases List.mem_cons.1 (show d ∈ .tuple [x, x] :: zipD r r from h) with rfl | h2
    · exact ⟨x, List.mem_cons_self, rfl⟩
    · obtain ⟨y, hy, e⟩ := ih d h2
      exact ⟨y, List.mem_cons_of_mem _ hy, e⟩
theorem zip_len : ∀ {xs ys : List D}, (zipD xs ys).length ≤ xs.length
  | [], _ => Nat.le_refl _
  | _ :: _, [] => Nat.zero_le _
  | x :: r, y :: q => Nat.succ_le_succ (zip_len (xs := r) (ys := q))
theorem blsOf_true : ∀ {ys : List D}, (∀ y ∈ ys, y = PyData.bool true) → ∃ bs, blsOf ys = some bs ∧ bs.all id = true
  | [], _ => ⟨[], rfl, rfl⟩
  | y :: r, h => by
    obtain ⟨bs, e, h2⟩ := blsOf_true (ys := r) fun x hx => h x (List.mem_cons_of_mem _ hx)
    have := h y List.mem_cons_self
    subst this
    refine ⟨true :: bs, ?_, by simpa using h2⟩
    show (match blsOf r with
      | some l => some (true :: l)
      | none => none) = _
    rw [e]
theorem all_true {ys : List D} (h : ∀ y ∈ ys, y = PyData.bool true) : biD .all [.list ys] = some (.bool true) := by
  obtain ⟨bs, e, h2⟩ := blsOf_true h
  show (match blsOf ys with
    | some bs => some (PyData.bool (bs.all id))
    | none => none) = _
  rw [e]
  simp only [h2]
/-- a comprehension of truths -/
theorem ok_allC {f : D → M (Option D)} (J : List D → Prop) : ∀ (items : List D) (τ : List D), J τ → (∀ d ∈ items, ∀ τ, J τ → Ok (f d) τ fun o τ' => o = some (PyData.bool true) ∧ J τ') → Ok (compL f items) τ fun ys τ' => (∀ y ∈ ys, y = PyData.bool true) ∧ J τ'
  | [], τ, j, _ => ok_ret.2 ⟨fun _ h => (by cases h), j⟩
  | d :: r, τ, j, h => by
    show Ok ((f d).bnd _) τ _
    rw [ok_bnd]
    refine (h d List.mem_cons_self τ j).mono fun o τ' q => ?_
    obtain ⟨rfl, j'⟩ := q
    rw [ok_bnd]
    refine (ok_allC J r τ' j' fun x hx => h x (List.mem_cons_of_mem _ hx)).mono fun ys τ2 q => ?_
    rw [ok_ret]
    exact ⟨fun y hy => (List.mem_cons.1 hy).elim id (q.1 y), q.2⟩
theorem gives_ok {C : Nat → List D → M D} {f : Nat} {ds : List D} {P : D → Prop} (h : Ok (C f ds) [] fun d _ => P d) : ∃ d, Gives C f ds d ∧ P d := by
  obtain ⟨d, τ', e, p⟩ := h
  exact ⟨d, ⟨τ', e⟩, p⟩
theorem eqv_refl : ∀ (k : Nat) (d : D), d.depth ≤ k → okD d = true → PyData.eqv d d = true := by
  intro k
  have sq : ∀ k, (∀ d : D, d.depth ≤ k → okD d = true → PyData.eqv d d = true) → ∀ xs : List D, PyData.depthAll xs ≤ k → okDs xs = true → PyData.eqvAll xs xs = true := fun k ih xs => by
    induction xs with
    | nil => intros; rfl
    | cons x r ihr =>
      intro h1 h2
      simp only [PyData.depthAll] at h1
      simp only [okDs, Bool.and_eq_true] at h2
      simp only [PyData.eqvAll, Bool.and_eq_true]
      exact ⟨ih x (by omega) h2.1, ihr (by omega) h2.2⟩
  induction k with
  | zero =>
    intro d hd ho
    cases d with
    | none => rfl
    | bool b => simp [PyData.eqv]
    | int b => simp [PyData.eqv]
    | str b => simp [PyData.eqv]
    | list xs => simp only [PyData.depth] at hd; omega
    | tuple xs => simp only [PyData.depth] at hd; omega
    | dict xs => simp [okD] at ho
  | succ k ih =>
    intro d hd ho
    cases d with
    | none => rfl
    | bool b => simp [PyData.eqv]
    | int b => simp [PyData.eqv]
    | str b => simp [PyData.eqv]
    | list xs =>
      simp only [PyData.depth] at hd
      simp only [okD, Bool.and_eq_true] at ho
      simp only [PyData.eqv]
      exact sq k ih xs (by omega) ho.2
    | tuple xs =>
      simp only [PyData.depth] at hd
      simp only [okD, Bool.and_eq_true] at ho
      simp only [PyData.eqv]
      exact sq k ih xs (by omega) ho.2
    | dict xs => simp [okD] at ho
theorem cmpD_none : cmpD .Eq .none .none = some (.bool true) := rfl
theorem cmpD_strR {x : Str} (h : PyData.strOk x = true) : cmpD .Eq (.str x) (.str x) = some (.bool true) := by
  have e : SeqAt.shaped (.str x) = true := by simp [SeqAt.shaped, PyData.canLay0, PyData.depth, h]
  rw [cmpD_eq e e]
  simp [PyData.eqv]
theorem same_refl {T : Tb} {f : Nat} (h : Is T f (sameB f) false 2 5) : ∀ (n : Nat) (d : D) (τ : List D), d.depth < n → okD d = true → Ok (callF T n f [d, d]) τ fun r _ => r = .bool true := by
  intro n
  induction n with
  | zero => intro d τ h0; omega
  | succ n ih =>
    intro d τ hd ho
    have one : ∀ xs : List D, PyData.depthAll xs + 1 < n + 1 → okDs xs = true → ∀ (d : D), d ∈ zipD xs xs → ∃ x, d = .tuple [x, x] ∧ Gives (callF T n) f [x, x] (.bool true) := fun xs h1 h2 d hd => by
      obtain ⟨x, hx, rfl⟩ := zip_self d hd
      refine ⟨x, rfl, ?_⟩
      obtain ⟨r, g, rfl⟩ := gives_ok (ih x [] (by have := depthAll_mem hx; omega) (okDs_mem h2 x hx))
      exact g
    rw [ok_is h rfl]
    cases d with
    | list xs =>
      simp only [PyData.depth] at hd
      simp only [okD, Bool.and_eq_true, decide_eq_true_eq] at ho
      simp [sameB]
      refine ⟨_, walkC_of walkD_zipL (Nat.le_trans zip_len ho.1), (ok_allC (fun _ => True) _ _ trivial fun d hz τ _ => ?_).mono fun ys _ q => all_true q.1⟩
      obtain ⟨x, rfl, g⟩ := one xs hd ho.2 d hz
      simp
      exact g
    | tuple xs =>
      simp only [PyData.depth] at hd
      simp only [okD, Bool.and_eq_true, decide_eq_true_eq] at ho
      simp [sameB]
      refine ⟨_, walkC_of walkD_zipT (Nat.le_trans zip_len ho.1), (ok_allC (fun _ => True) _ _ trivial fun d hz τ _ => ?_).mono fun ys _ q => all_true q.1⟩
      obtain ⟨x, rfl, g⟩ := one xs hd ho.2 d hz
      simp
      exact g
    | dict xs => simp [okD] at ho
    | none => simp [sameB, cmpD_none]
    | bool b => simp [sameB]
    | int b => simp [sameB]
    | str x =>
      simp only [okD, Bool.and_eq_true] at ho
      simp [sameB, cmpD_strR ho.1]
theorem same_gives {T : Tb} {f n : Nat} (h : Is T f (sameB f) false 2 5) {d : D} (h1 : d.depth < n) (h2 : okD d = true) : Gives (callF T n) f [d, d] (.bool true) := by
  obtain ⟨r, g, rfl⟩ := gives_ok (same_refl h n d [] h1 h2)
  exact g
/-- comprehensions that draw nothing -/
theorem ok_compP {ι : Type} {f : D → M (Option D)} {inj : ι → D} {τ : List D} {Q : List D → List D → Prop} (p : ι → Bool) (v : ι → D) : ∀ (l : List ι), (∀ x ∈ l, ∀ τ, Ok (f (inj x)) τ fun o τ' => o = (if p x then some (v x) else none) ∧ τ' = τ) → Q ((l.filter p).map v) τ → Ok (compL f (l.map inj)) τ Q := by
  intro l hf q
  have : ∀ (l : List ι), (∀ x ∈ l, ∀ τ, Ok (f (inj x)) τ fun o τ' => o = (if p x then some (v x) else none) ∧ τ' = τ) → compL f (l.map inj) τ = some ((l.filter p).map v, τ) := by
    intro l
    induction l with
    | nil => intro _; rfl
    | cons x r ih =>
      intro h
      obtain ⟨o, τ', e, rfl, rfl⟩ := h x List.mem_cons_self τ
      show ((f (inj x)).bnd _) τ' = _
      unfold M.bnd
      rw [e]
      simp only
      rw [ih fun y hy => h y (List.mem_cons_of_mem _ hy), List.filter_cons]
      cases p x <;> rfl
  exact ⟨_, _, this l hf, q⟩
theorem ok_compM {ι : Type} {f : D → M (Option D)} {inj : ι → D} {τ : List D} {Q : List D → List D → Prop} (v : ι → D) (l : List ι) (h : ∀ x ∈ l, ∀ τ, Ok (f (inj x)) τ fun o τ' => o = some (v x) ∧ τ' = τ) (q : Q (l.map v) τ) : Ok (compL f (l.map inj)) τ Q :=
  ok_compP (fun _ => true) v l (fun x hx τ => (h x hx τ).mono fun o τ' q => q) (by rw [List.filter_eq_self.2 (fun _ _ => rfl)]; exact q)
theorem ok_comp0 {f : D → M (Option D)} (I : List D → List D → List D → Prop) {Q : List D → List D → Prop}
    (hs : ∀ d r ys τ, I (d :: r) ys τ → Ok (f d) τ fun o τ' => match o with
      | some y => I r (ys ++ [y]) τ'
      | none => I r ys τ')
    (he : ∀ ys τ, I [] ys τ → Q ys τ) (items : List D) (τ : List D) (h : I items [] τ) : Ok (compL f items) τ Q :=
  (ok_comp I hs he items [] τ h).mono fun _ _ q => q
end KN

set_option maxRecDepth 100000
set_option maxHeartbeats 4000000
namespace KN
open PySem L2 PyProof.Rows
/-! ### runs that leave the box alone: what they give, by the text -/
section
variable {C : Nat → List D → M D} {ρ : En} {a b c e : E} {x y z d : D} {i j : Int} {p q r : Bool}
structure Ev (C : Nat → List D → M D) (e : E) (ρ : En) (v : D) : Prop where
  run : ∀ τ, evE C e ρ τ = some (v, τ)
structure Evs (C : Nat → List D → M D) (es : List E) (ρ : En) (vs : List D) : Prop where
  run : ∀ τ, evEs C es ρ τ = some (vs, τ)
/-- statements: how they end -/
structure Er (C : Nat → List D → M D) (ss : List S) (ρ : En) (o : Out) : Prop where
  run : ∀ τ, evSs C ss ρ τ = some (o, τ)
theorem M.bnd_eq {α β : Type} {m : M α} {f : α → M β} {τ τ' : List D} {v : α} (h : m τ = some (v, τ')) : m.bnd f τ = f v τ' := by
  unfold M.bnd
  rw [h]
theorem M.of_eq {α : Type} {o : Option α} {v : α} {τ : List D} (h : o = some v) : M.of o τ = some (v, τ) := by
  subst h; rfl
theorem Ev.ok {τ : List D} {Q : D → List D → Prop} (h : Ev C e ρ d) (hq : Q d τ) : Ok (evE C e ρ) τ Q := ⟨_, _, h.run τ, hq⟩
theorem Evs.ok {es : List E} {ds : List D} {τ : List D} {Q : List D → List D → Prop} (h : Evs C es ρ ds) (hq : Q ds τ) : Ok (evEs C es ρ) τ Q := ⟨_, _, h.run τ, hq⟩
theorem Er.ok {ss : List S} {o : Out} {τ : List D} {Q : Out → List D → Prop} (h : Er C ss ρ o) (hq : Q o τ) : Ok (evSs C ss ρ) τ Q := ⟨_, _, h.run τ, hq⟩
theorem Ev.cast (h : Ev C e ρ x) (hx : x = y) : Ev C e ρ y := hx ▸ h
theorem ev_var {k : Nat} (h : ρ[k]? = some (some (.dat d))) : Ev C (.var k) ρ d := .mk fun τ => by
  show (match ρ[k]? with
    | some (some (.dat d)) => some (d, τ)
    | _ => none) = _
  rw [h]
theorem ev_peek {k : Nat} {o : Od} (h : ρ[k]? = some (some (.own o))) : Ev C (.peek k) ρ o.data := .mk fun τ => by
  show (match ρ[k]? with
    | some (some (.own o)) => some (o.data, τ)
    | _ => none) = _
  rw [h]
theorem ev_peekL {k : Nat} {ds : List D} (h : ρ[k]? = some (some (.own (.lst ds)))) : Ev C (.peek k) ρ (.list ds) := ev_peek h
theorem ev_peekD {k : Nat} {ds : List (D × D)} (h : ρ[k]? = some (some (.own (.dic ds)))) : Ev C (.peek k) ρ (.dict ds) := ev_peek h
theorem ev_non : Ev C .non ρ .none := .mk fun _ => rfl
theorem ev_bl : Ev C (.bl p) ρ (.bool p) := .mk fun _ => rfl
theorem ev_int : Ev C (.int i) ρ (.int i) := .mk fun _ => rfl
theorem ev_str {s : Str} : Ev C (.str s) ρ (.str s) := .mk fun _ => rfl
theorem ev_glob {s : Str} : Ev C (.glob s d) ρ d := .mk fun _ => rfl
theorem ev_dic0 : Ev C .dic0 ρ (.dict []) := .mk fun _ => rfl
theorem ev_bin {op : Operator} (ha : Ev C a ρ x) (hb : Ev C b ρ y) (h : binD op x y = some d) : Ev C (.bin op a b) ρ d := .mk fun τ => by
  show ((evE C a ρ).bnd fun x => (evE C b ρ).bnd fun y => M.of (binD op x y)) τ = _
  rw [M.bnd_eq (ha.run τ), M.bnd_eq (hb.run τ), M.of_eq h]
theorem ev_cmp {op : CmpOp} (ha : Ev C a ρ x) (hb : Ev C b ρ y) (h : cmpD op x y = some d) : Ev C (.cmp op a b) ρ d := .mk fun τ => by
  show ((evE C a ρ).bnd fun x => (evE C b ρ).bnd fun y => M.of (cmpD op x y)) τ = _
  rw [M.bnd_eq (ha.run τ), M.bnd_eq (hb.run τ), M.of_eq h]
theorem ev_add (ha : Ev C a ρ (.int i)) (hb : Ev C b ρ (.int j)) : Ev C (.bin .Add a b) ρ (.int (i + j)) := ev_bin ha hb rfl
theorem ev_sub (ha : Ev C a ρ (.int i)) (hb : Ev C b ρ (.int j)) : Ev C (.bin .Sub a b) ρ (.int (i - j)) := ev_bin ha hb rfl
theorem ev_mul (ha : Ev C a ρ (.int i)) (hb : Ev C b ρ (.int j)) (h : mulOk i j = true) : Ev C (.bin .Mult a b) ρ (.int (i * j)) := ev_bin ha hb (if_pos h)
theorem ev_mod (ha : Ev C a ρ (.int i)) (hb : Ev C b ρ (.int j)) (h : 0 < j) : Ev C (.bin .Mod a b) ρ (.int (i % j)) := ev_bin ha hb (if_pos h)
theorem ev_div (ha : Ev C a ρ (.int i)) (hb : Ev C b ρ (.int j)) (h : 0 < j) (h2 : j < 1073741824) : Ev C (.bin .FloorDiv a b) ρ (.int (i / j)) := ev_bin ha hb (binD_div h h2)
theorem ev_addL {xs ys : List D} (ha : Ev C a ρ (.list xs)) (hb : Ev C b ρ (.list ys)) (h : xs.length + ys.length ≤ 16777216) : Ev C (.bin .Add a b) ρ (.list (xs ++ ys)) := ev_bin ha hb (binD_addL h)
theorem ev_addT {xs ys : List D} (ha : Ev C a ρ (.tuple xs)) (hb : Ev C b ρ (.tuple ys)) (h : xs.length + ys.length ≤ 16777216) : Ev C (.bin .Add a b) ρ (.tuple (xs ++ ys)) := ev_bin ha hb (binD_addT h)
theorem ev_addS {s t : Str} (ha : Ev C a ρ (.str s)) (hb : Ev C b ρ (.str t)) (h : s.length + t.length ≤ 16777216) : Ev C (.bin .Add a b) ρ (.str (s ++ t)) := ev_bin ha hb (if_pos (by unfold lineOk; exact decide_eq_true h))
theorem ev_lt (ha : Ev C a ρ (.int i)) (hb : Ev C b ρ (.int j)) : Ev C (.cmp .Lt a b) ρ (.bool (decide (i < j))) := ev_cmp ha hb cmpD_lt
theorem ev_le (ha : Ev C a ρ (.int i)) (hb : Ev C b ρ (.int j)) : Ev C (.cmp .LtE a b) ρ (.bool (decide (i ≤ j))) := ev_cmp ha hb cmpD_le
theorem ev_gt (ha : Ev C a ρ (.int i)) (hb : Ev C b ρ (.int j)) : Ev C (.cmp .Gt a b) ρ (.bool (decide (j < i))) := ev_cmp ha hb cmpD_gt
theorem ev_ge (ha : Ev C a ρ (.int i)) (hb : Ev C b ρ (.int j)) : Ev C (.cmp .GtE a b) ρ (.bool (decide (j ≤ i))) := ev_cmp ha hb cmpD_ge
theorem ev_eqI (ha : Ev C a ρ (.int i)) (hb : Ev C b ρ (.int j)) : Ev C (.cmp .Eq a b) ρ (.bool (decide (i = j))) := ev_cmp ha hb cmpD_eqI
theorem ev_neI (ha : Ev C a ρ (.int i)) (hb : Ev C b ρ (.int j)) : Ev C (.cmp .NotEq a b) ρ (.bool (!decide (i = j))) := ev_cmp ha hb cmpD_neI
theorem ev_eqB (ha : Ev C a ρ (.bool p)) (hb : Ev C b ρ (.bool q)) : Ev C (.cmp .Eq a b) ρ (.bool (p == q)) := ev_cmp ha hb cmpD_eqB
theorem ev_neB (ha : Ev C a ρ (.bool p)) (hb : Ev C b ρ (.bool q)) : Ev C (.cmp .NotEq a b) ρ (.bool (!(p == q))) := ev_cmp ha hb cmpD_neB
theorem ev_eq (ha : Ev C a ρ x) (hb : Ev C b ρ y) (h1 : SeqAt.shaped x = true) (h2 : SeqAt.shaped y = true) : Ev C (.cmp .Eq a b) ρ (.bool (PyData.eqv x y)) := ev_cmp ha hb (cmpD_eq h1 h2)
theorem ev_ne (ha : Ev C a ρ x) (hb : Ev C b ρ y) (h1 : SeqAt.shaped x = true) (h2 : SeqAt.shaped y = true) : Ev C (.cmp .NotEq a b) ρ (.bool (!PyData.eqv x y)) := ev_cmp ha hb (cmpD_ne h1 h2)
theorem ev_is (ha : Ev C a ρ x) : Ev C (.cmp .Is a .non) ρ (.bool (isNone x)) := ev_cmp ha ev_non cmpD_is
theorem ev_isnt (ha : Ev C a ρ x) : Ev C (.cmp .IsNot a .non) ρ (.bool (!isNone x)) := ev_cmp ha ev_non cmpD_isnt
theorem ev_neg (ha : Ev C a ρ (.int i)) : Ev C (.neg a) ρ (.int (-i)) := .mk fun τ => by
  show ((evE C a ρ).bnd fun x => match x with
    | PyData.int i => M.ret (PyData.int (-i))
    | _ => M.fail) τ = _
  rw [M.bnd_eq (ha.run τ)]
  rfl
theorem ev_not {k : Bool} (ha : Ev C a ρ x) (h : truD x = some k) : Ev C (.not a) ρ (.bool (!k)) := .mk fun τ => by
  show ((evE C a ρ).bnd fun x => (M.of (truD x)).bnd fun k => M.ret (PyData.bool (!k))) τ = _
  rw [M.bnd_eq (ha.run τ), M.bnd_eq (M.of_eq h)]
  rfl
theorem ev_notB (ha : Ev C a ρ (.bool p)) : Ev C (.not a) ρ (.bool (!p)) := ev_not ha rfl
theorem ev_and {k : Bool} (ha : Ev C a ρ x) (h : truD x = some k) (hb : k = true → Ev C b ρ y) : Ev C (.and a b) ρ (if k then y else x) := .mk fun τ => by
  show ((evE C a ρ).bnd fun x => (M.of (truD x)).bnd fun k => if k then evE C b ρ else M.ret x) τ = _
  rw [M.bnd_eq (ha.run τ), M.bnd_eq (M.of_eq h)]
  cases k with
  | true => exact (hb rfl).run τ
  | false => rfl
theorem ev_or {k : Bool} (ha : Ev C a ρ x) (h : truD x = some k) (hb : k = false → Ev C b ρ y) : Ev C (.or a b) ρ (if k then x else y) := .mk fun τ => by
  show ((evE C a ρ).bnd fun x => (M.of (truD x)).bnd fun k => if k then M.ret x else evE C b ρ) τ = _
  rw [M.bnd_eq (ha.run τ), M.bnd_eq (M.of_eq h)]
  cases k with
  | false => exact (hb rfl).run τ
  | true => rfl
theorem ev_andB (ha : Ev C a ρ (.bool p)) (hb : p = true → Ev C b ρ (.bool q)) : Ev C (.and a b) ρ (.bool (p && q)) := by
  refine (ev_and ha rfl hb).cast ?_
  cases p <;> rfl
theorem ev_orB (ha : Ev C a ρ (.bool p)) (hb : p = false → Ev C b ρ (.bool q)) : Ev C (.or a b) ρ (.bool (p || q)) := by
  refine (ev_or ha rfl hb).cast ?_
  cases p <;> rfl
theorem ev_andL (ha : Ev C a ρ (.bool p)) (hp : p = false) : Ev C (.and a b) ρ (.bool false) := by
  subst hp
  exact (ev_andB (q := false) ha fun h => nomatch h)
theorem ev_orL (ha : Ev C a ρ (.bool p)) (hp : p = true) : Ev C (.or a b) ρ (.bool true) := by
  subst hp
  exact (ev_orB (q := false) ha fun h => nomatch h)
theorem ev_ite {k : Bool} (hc : Ev C c ρ z) (h : truD z = some k) (ha : k = true → Ev C a ρ x) (hb : k = false → Ev C b ρ y) : Ev C (.ite c a b) ρ (if k then x else y) := .mk fun τ => by
  show ((evE C c ρ).bnd fun x => (M.of (truD x)).bnd fun k => if k then evE C a ρ else evE C b ρ) τ = _
  rw [M.bnd_eq (hc.run τ), M.bnd_eq (M.of_eq h)]
  cases k with
  | true => exact (ha rfl).run τ
  | false => exact (hb rfl).run τ
theorem ev_iteB (hc : Ev C c ρ (.bool p)) (ha : p = true → Ev C a ρ x) (hb : p = false → Ev C b ρ y) : Ev C (.ite c a b) ρ (if p then x else y) := ev_ite hc rfl ha hb
theorem ev_chain {o1 o2 : CmpOp} (ha : Ev C a ρ x) (hb : Ev C b ρ y) (h1 : cmpD o1 x y = some (.bool p)) (hc : p = true → Ev C c ρ z) (h2 : p = true → cmpD o2 y z = some (.bool q)) : Ev C (.chain o1 o2 a b c) ρ (.bool (p && q)) := .mk fun τ => by
  show ((evE C a ρ).bnd fun x => (evE C b ρ).bnd fun y => (M.of (cmpD o1 x y)).bnd fun r => match r with
    | PyData.bool true => (evE C c ρ).bnd fun z => M.of (cmpD o2 y z)
    | PyData.bool false => M.ret (PyData.bool false)
    | _ => M.fail) τ = _
  rw [M.bnd_eq (ha.run τ), M.bnd_eq (hb.run τ), M.bnd_eq (M.of_eq h1)]
  cases p with
  | true =>
    have h3 := h2 rfl
    have h2 := hc rfl
    show ((evE C c ρ).bnd fun z => M.of (cmpD o2 y z)) τ = _
    rw [M.bnd_eq (h2.run τ), M.of_eq h3]
    rfl
  | false => rfl
theorem ev_bi {f : Bi} {es : List E} {ds : List D} (h : Evs C es ρ ds) (hd : biD f ds = some d) : Ev C (.bi f es) ρ d := .mk fun τ => by
  show ((evEs C es ρ).bnd fun ds => M.of (biD f ds)) τ = _
  rw [M.bnd_eq (h.run τ), M.of_eq hd]
theorem evs_nil : Evs C [] ρ [] := .mk fun _ => rfl
theorem evs_cons {es : List E} {ds : List D} (ha : Ev C a ρ x) (h : Evs C es ρ ds) (hs : a.isStar = false) : Evs C (a :: es) ρ (x :: ds) := .mk fun τ => by
  have : evEs C (a :: es) ρ = (evE C a ρ).bnd fun x => (evEs C es ρ).bnd fun ys => M.ret (x :: ys) := by
    cases a <;> first | rfl | cases hs
  rw [this, M.bnd_eq (ha.run τ), M.bnd_eq (h.run τ)]
  rfl
theorem evs_star {es : List E} {ds xs : List D} (ha : Ev C a ρ x) (hx : seqD x = some xs) (h : Evs C es ρ ds) : Evs C (.star a :: es) ρ (xs ++ ds) := .mk fun τ => by
  show ((evE C a ρ).bnd fun x => (M.of (seqD x)).bnd fun xs => (evEs C es ρ).bnd fun ys => M.ret (xs ++ ys)) τ = _
  rw [M.bnd_eq (ha.run τ), M.bnd_eq (M.of_eq hx), M.bnd_eq (h.run τ)]
  rfl
theorem ev_bi1 {f : Bi} (h : Ev C a ρ x) (hd : biD f [x] = some d) (hs : a.isStar = false := by rfl) : Ev C (.bi f [a]) ρ d := ev_bi (evs_cons h evs_nil hs) hd
theorem ev_lenL {xs : List D} (h : Ev C a ρ (.list xs)) (hs : a.isStar = false := by rfl) : Ev C (.bi .len [a]) ρ (.int xs.length) := ev_bi1 h rfl hs
theorem ev_lenT {xs : List D} (h : Ev C a ρ (.tuple xs)) (hs : a.isStar = false := by rfl) : Ev C (.bi .len [a]) ρ (.int xs.length) := ev_bi1 h rfl hs
theorem ev_lenD {xs : List (D × D)} (h : Ev C a ρ (.dict xs)) (hs : a.isStar = false := by rfl) : Ev C (.bi .len [a]) ρ (.int xs.length) := ev_bi1 h rfl hs
theorem ev_lenS {s : Str} (h : Ev C a ρ (.str s)) (hl : s.length ≤ 16777216) (hs : a.isStar = false := by rfl) : Ev C (.bi .len [a]) ρ (.int s.length) := ev_bi1 h (if_pos (by unfold lineOk; exact decide_eq_true hl)) hs
theorem ev_listL {xs : List D} (h : Ev C a ρ (.list xs)) (hs : a.isStar = false := by rfl) : Ev C (.bi .list [a]) ρ (.list xs) := ev_bi1 h rfl hs
theorem ev_listT {xs : List D} (h : Ev C a ρ (.tuple xs)) (hs : a.isStar = false := by rfl) : Ev C (.bi .list [a]) ρ (.list xs) := ev_bi1 h rfl hs
theorem ev_tupleL {xs : List D} (h : Ev C a ρ (.list xs)) (hs : a.isStar = false := by rfl) : Ev C (.bi .tuple [a]) ρ (.tuple xs) := ev_bi1 h rfl hs
theorem ev_tupleT {xs : List D} (h : Ev C a ρ (.tuple xs)) (hs : a.isStar = false := by rfl) : Ev C (.bi .tuple [a]) ρ (.tuple xs) := ev_bi1 h rfl hs
theorem ev_abs (h : Ev C a ρ (.int i)) (hs : a.isStar = false := by rfl) : Ev C (.bi .abs [a]) ρ (.int (if i < 0 then -i else i)) := ev_bi1 h rfl hs
theorem ev_toInt (h : Ev C a ρ (.int i)) (hs : a.isStar = false := by rfl) : Ev C (.bi .int [a]) ρ (.int i) := ev_bi1 h rfl hs
theorem ev_isi {ts : List String} {k : Bool} (h : Ev C a ρ x) (hd : isiD x ts = some d) : Ev C (.isi a ts k) ρ d := .mk fun τ => by
  show ((evE C a ρ).bnd fun x => M.of (isiD x ts)) τ = _
  rw [M.bnd_eq (h.run τ), M.of_eq hd]
theorem ev_get (ha : Ev C a ρ x) (hb : Ev C b ρ y) (h : getD x y = some d) : Ev C (.get a b) ρ d := .mk fun τ => by
  show ((evE C a ρ).bnd fun x => (evE C b ρ).bnd fun y => M.of (getD x y)) τ = _
  rw [M.bnd_eq (ha.run τ), M.bnd_eq (hb.run τ), M.of_eq h]
theorem ev_sliceTo (ha : Ev C a ρ x) (hb : Ev C b ρ (.int i)) (h : sliceD x none (some i) = some d) (hg : b.gone = false) : Ev C (.slice a .absent b) ρ d := .mk fun τ => by
  show ((evE C a ρ).bnd fun x => (if E.absent.gone then M.ret none else (evE C .absent ρ).bnd intP).bnd fun l => (if b.gone then M.ret none else (evE C b ρ).bnd intP).bnd fun h => M.of (sliceD x l h)) τ = _
  rw [M.bnd_eq (ha.run τ), hg]
  show ((evE C b ρ).bnd intP).bnd (fun h => M.of (sliceD x none h)) τ = _
  rw [M.bnd_eq (M.bnd_eq (hb.run τ))]
  exact M.of_eq h
theorem ev_sliceFrom (ha : Ev C a ρ x) (hb : Ev C b ρ (.int i)) (h : sliceD x (some i) none = some d) (hg : b.gone = false) : Ev C (.slice a b .absent) ρ d := .mk fun τ => by
  show ((evE C a ρ).bnd fun x => (if b.gone then M.ret none else (evE C b ρ).bnd intP).bnd fun l => (if E.absent.gone then M.ret none else (evE C .absent ρ).bnd intP).bnd fun h => M.of (sliceD x l h)) τ = _
  rw [M.bnd_eq (ha.run τ), hg]
  show ((evE C b ρ).bnd intP).bnd (fun l => (M.ret none).bnd fun h => M.of (sliceD x l h)) τ = _
  rw [M.bnd_eq (M.bnd_eq (hb.run τ))]
  exact M.of_eq h
theorem ev_rev {xs : List D} (ha : Ev C a ρ (.list xs)) : Ev C (.rev a) ρ (.list xs.reverse) := .mk fun τ => by
  show ((evE C a ρ).bnd fun x => M.of (revD x)) τ = _
  rw [M.bnd_eq (ha.run τ)]
  rfl
theorem ev_sset (ha : Ev C a ρ x) (h : ssetD x = some d) : Ev C (.sset a) ρ d := .mk fun τ => by
  show ((evE C a ρ).bnd fun x => M.of (ssetD x)) τ = _
  rw [M.bnd_eq (ha.run τ), M.of_eq h]
theorem ev_lst {es : List E} {ds : List D} (h : Evs C es ρ ds) (hl : ds.length ≤ 16777216) : Ev C (.lst es) ρ (.list ds) := .mk fun τ => by
  show ((evEs C es ρ).bnd fun ds => if lineOk ds.length then M.ret (PyData.list ds) else M.fail) τ = _
  rw [M.bnd_eq (h.run τ)]
  show (if lineOk ds.length then M.ret (PyData.list ds) else M.fail) τ = _
  rw [if_pos (by unfold lineOk; exact decide_eq_true hl)]
  rfl
theorem ev_tup {es : List E} {ds : List D} (h : Evs C es ρ ds) (hl : ds.length ≤ 16777216) : Ev C (.tup es) ρ (.tuple ds) := .mk fun τ => by
  show ((evEs C es ρ).bnd fun ds => if lineOk ds.length then M.ret (PyData.tuple ds) else M.fail) τ = _
  rw [M.bnd_eq (h.run τ)]
  show (if lineOk ds.length then M.ret (PyData.tuple ds) else M.fail) τ = _
  rw [if_pos (by unfold lineOk; exact decide_eq_true hl)]
  rfl
theorem ev_call {f : Nat} {es : List E} {ds : List D} (h : Evs C es ρ ds) (g : Gives C f ds d) : Ev C (.call f es) ρ d := .mk fun τ => by
  obtain ⟨t, g⟩ := g
  show ((evEs C es ρ).bnd fun ds τ => match C f ds [] with
    | some (d, _) => some (d, τ)
    | none => none) τ = _
  rw [M.bnd_eq (h.run τ)]
  simp only [g]
theorem ev_callN {f : Nat} {es : List E} {ds : List D} (h : Evs C es ρ ds) (g : Gives C f ds d) : Ev C (.callN f es) ρ d := .mk fun τ => (ev_call h g).run τ
theorem ev_callK {f : Nat} {perm : List Nat} {es ks : List E} {ds zs : List D} (h : Evs C es ρ ds) (h2 : Evs C ks ρ zs) (g : Gives C f (permL perm (ds ++ zs)) d) : Ev C (.callK f perm es ks) ρ d := .mk fun τ => by
  obtain ⟨t, g⟩ := g
  show ((evEs C es ρ).bnd fun ds => (evEs C ks ρ).bnd fun zs τ => match C f (permL perm (ds ++ zs)) [] with
    | some (d, _) => some (d, τ)
    | none => none) τ = _
  rw [M.bnd_eq (h.run τ), M.bnd_eq (h2.run τ)]
  simp only [g]
theorem ev_dget {kvs : List (D × D)} (ha : Ev C a ρ (.dict kvs)) (hb : Ev C b ρ y) (hc : Ev C c ρ z) (hk : isKey y = true) : Ev C (.dget a b c) ρ ((lookK kvs y).getD z) := .mk fun τ => by
  show ((evE C a ρ).bnd fun d => (evE C b ρ).bnd fun y => (evE C c ρ).bnd fun z => M.of (dgetD d y z)) τ = _
  rw [M.bnd_eq (ha.run τ), M.bnd_eq (hb.run τ), M.bnd_eq (hc.run τ)]
  exact M.of_eq (if_pos hk)
theorem ev_inT {xs : List D} (ha : Ev C a ρ x) (hb : Ev C b ρ (.tuple xs)) (h : (x.canLay0 && decide (x.depth ≤ 40) && PyData.canLayAll0 xs) = true) : Ev C (.cmp .In a b) ρ (.bool (inD x xs)) := ev_cmp ha hb (by
  show inSeq false x xs = _
  unfold inSeq
  rw [if_pos h]; rfl)
theorem ev_inL {xs : List D} (ha : Ev C a ρ x) (hb : Ev C b ρ (.list xs)) (h : (x.canLay0 && decide (x.depth ≤ 40) && PyData.canLayAll0 xs) = true) : Ev C (.cmp .In a b) ρ (.bool (inD x xs)) := ev_cmp ha hb (by
  show inSeq false x xs = _
  unfold inSeq
  rw [if_pos h]; rfl)
theorem ev_ninT {xs : List D} (ha : Ev C a ρ x) (hb : Ev C b ρ (.tuple xs)) (h : (x.canLay0 && decide (x.depth ≤ 40) && PyData.canLayAll0 xs) = true) : Ev C (.cmp .NotIn a b) ρ (.bool (!inD x xs)) := ev_cmp ha hb (by
  show inSeq true x xs = _
  unfold inSeq
  rw [if_pos h]; rfl)
theorem ev_ninL {xs : List D} (ha : Ev C a ρ x) (hb : Ev C b ρ (.list xs)) (h : (x.canLay0 && decide (x.depth ≤ 40) && PyData.canLayAll0 xs) = true) : Ev C (.cmp .NotIn a b) ρ (.bool (!inD x xs)) := ev_cmp ha hb (by
  show inSeq true x xs = _
  unfold inSeq
  rw [if_pos h]; rfl)
/-! comprehensions -/
theorem compL_map {ι : Type} {f : D → M (Option D)} {inj : ι → D} {g : ι → D} {τ : List D} : ∀ (l : List ι), (∀ x ∈ l, f (inj x) τ = some (some (g x), τ)) → compL f (l.map inj) τ = some (l.map g, τ)
  | [], _ => rfl
  | x :: r, h => by
    show ((f (inj x)).bnd _) τ = _
    rw [M.bnd_eq (h x List.mem_cons_self), M.bnd_eq (compL_map r fun y hy => h y (List.mem_cons_of_mem _ hy))]
    rfl
theorem compL_filter {ι : Type} {f : D → M (Option D)} {inj : ι → D} {g : ι → D} {k : ι → Bool} {τ : List D} : ∀ (l : List ι), (∀ x ∈ l, f (inj x) τ = some (if k x then some (g x) else none, τ)) → compL f (l.map inj) τ = some ((l.filter k).map g, τ)
  | [], _ => rfl
  | x :: r, h => by
    show ((f (inj x)).bnd _) τ = _
    rw [M.bnd_eq (h x List.mem_cons_self), M.bnd_eq (compL_filter r fun y hy => h y (List.mem_cons_of_mem _ hy)), List.filter_cons]
    cases k x <;> rfl
/-- [elt for tg in src] -/
theorem ev_comp {ι : Type} {elt : E} {tg : Tg} {ik : IK} {src : List E} {xs : List D} {l : List ι} {inj : ι → D} {g : ι → D} (hs : Evs C src ρ xs) (hw : walkC ik xs = some (l.map inj))
    (he : ∀ x ∈ l, ∃ ρ', setTg tg (inj x) (wipeE ρ tg.slots) = some ρ' ∧ Ev C elt ρ' (g x)) : Ev C (.comp elt tg ik src .absent) ρ (.list (l.map g)) := .mk fun τ => by
  show ((evEs C src ρ).bnd fun xs => (M.of (walkC ik xs)).bnd fun items =>
    (compL (fun d => (M.of (setTg tg d (wipeE ρ tg.slots))).bnd fun ρ' => (if E.absent.gone then M.ret true else (evE C .absent ρ').bnd fun x => M.of (truD x)).bnd fun k => if k then (evE C elt ρ').bnd fun y => M.ret (some y) else M.ret none) items).bnd fun ys => M.ret (PyData.list ys)) τ = _
  rw [M.bnd_eq (hs.run τ), M.bnd_eq (M.of_eq hw)]
  refine (M.bnd_eq (compL_map (g := g) l fun x hx => ?_)).trans rfl
  obtain ⟨ρ', h1, h2⟩ := he x hx
  rw [M.bnd_eq (M.of_eq h1)]
  show ((evE C elt ρ').bnd fun y => M.ret (some y)) τ = _
  rw [M.bnd_eq (h2.run τ)]
  rfl
/-- [elt for tg in src if cond] -/
theorem ev_compIf {ι : Type} {elt cond : E} {tg : Tg} {ik : IK} {src : List E} {xs : List D} {l : List ι} {inj : ι → D} {g : ι → D} {k : ι → Bool} (hs : Evs C src ρ xs) (hw : walkC ik xs = some (l.map inj)) (hg : cond.gone = false)
    (he : ∀ x ∈ l, ∃ ρ', setTg tg (inj x) (wipeE ρ tg.slots) = some ρ' ∧ Ev C cond ρ' (.bool (k x)) ∧ (k x = true → Ev C elt ρ' (g x))) : Ev C (.comp elt tg ik src cond) ρ (.list ((l.filter k).map g)) := .mk fun τ => by
  show ((evEs C src ρ).bnd fun xs => (M.of (walkC ik xs)).bnd fun items =>
    (compL (fun d => (M.of (setTg tg d (wipeE ρ tg.slots))).bnd fun ρ' => (if cond.gone then M.ret true else (evE C cond ρ').bnd fun x => M.of (truD x)).bnd fun k => if k then (evE C elt ρ').bnd fun y => M.ret (some y) else M.ret none) items).bnd fun ys => M.ret (PyData.list ys)) τ = _
  rw [M.bnd_eq (hs.run τ), M.bnd_eq (M.of_eq hw)]
  refine (M.bnd_eq (compL_filter (g := g) (k := k) l fun x hx => ?_)).trans rfl
  obtain ⟨ρ', h1, h2, h3⟩ := he x hx
  rw [M.bnd_eq (M.of_eq h1), hg]
  show ((evE C cond ρ').bnd fun x => M.of (truD x)).bnd (fun k => if k then (evE C elt ρ').bnd fun y => M.ret (some y) else M.ret none) τ = _
  rw [M.bnd_eq ((M.bnd_eq (h2.run τ)).trans (M.of_eq rfl))]
  cases hk : k x with
  | true =>
    show ((evE C elt ρ').bnd fun y => M.ret (some y)) τ = _
    rw [M.bnd_eq ((h3 hk).run τ)]
    rfl
  | false => rfl
theorem abs_ft : false = true → Ev C a ρ (.bool false) := fun h => nomatch h
theorem abs_tf : true = false → Ev C a ρ (.bool false) := fun h => nomatch h
theorem abs_ft0 : false = true → Ev C a ρ .none := fun h => nomatch h
theorem abs_tf0 : true = false → Ev C a ρ .none := fun h => nomatch h
theorem abs_ftr {ss : List S} : false = true → Er C ss ρ (.rt .none) := fun h => nomatch h
theorem abs_tfr {ss : List S} : true = false → Er C ss ρ (.rt .none) := fun h => nomatch h
theorem abs_nf : (!false) = false → Ev C a ρ (.bool false) := fun h => nomatch h
theorem abs_nt : (!true) = true → Ev C a ρ (.bool false) := fun h => nomatch h
theorem isStar_of (h : a.isStar = false) : a.isStar = false := h
theorem gone_of (h : a.gone = false) : a.gone = false := h
theorem ex_ev {o : Option En} {ρ' : En} (h1 : o = some ρ') (h2 : Ev C e ρ' d) : ∃ ρ', o = some ρ' ∧ Ev C e ρ' d := ⟨_, h1, h2⟩
theorem ex_ev2 {o : Option En} {ρ' : En} {k : Bool} (h1 : o = some ρ') (h2 : Ev C c ρ' (.bool k)) (h3 : k = true → Ev C e ρ' d) : ∃ ρ', o = some ρ' ∧ Ev C c ρ' (.bool k) ∧ (k = true → Ev C e ρ' d) := ⟨_, h1, h2, h3⟩
/-! statements -/
theorem er_nil : Er C [] ρ (.nx ρ) := .mk fun _ => rfl
theorem er_seq {s : S} {r : List S} {ρ' : En} {o : Out} (h : ∀ τ, evS C s ρ τ = some (.nx ρ', τ)) (hr : Er C r ρ' o) : Er C (s :: r) ρ o := .mk fun τ => by
  show ((evS C s ρ).bnd _) τ = _
  rw [M.bnd_eq (h τ)]
  exact hr.run τ
theorem er_ret {r : List S} (h : Ev C e ρ d) : Er C (.ret e :: r) ρ (.rt d) := .mk fun τ => by
  show (((evE C e ρ).bnd fun d => M.ret (Out.rt d)).bnd _) τ = _
  rw [M.bnd_eq (M.bnd_eq (h.run τ))]
  rfl
theorem er_asg {k : Nat} {r : List S} {o : Out} (h : Ev C e ρ d) (hr : Er C r (ρ.set k (some (.dat d))) o) : Er C (.asg k e :: r) ρ o :=
  er_seq (fun τ => by
    show ((evE C e ρ).bnd fun d => setO k (.dat d) ρ) τ = _
    rw [M.bnd_eq (h.run τ)]
    rfl) hr
theorem er_asgL {k : Nat} {r : List S} {o : Out} {ds : List D} (h : Ev C e ρ (.list ds)) (hr : Er C r (ρ.set k (some (.own (.lst ds)))) o) : Er C (.asgO k e :: r) ρ o :=
  er_seq (fun τ => by
    show ((evE C e ρ).bnd fun d => (M.of (odP d)).bnd fun o => setO k (.own o) ρ) τ = _
    rw [M.bnd_eq (h.run τ)]
    rfl) hr
theorem er_asgD {k : Nat} {r : List S} {o : Out} {ds : List (D × D)} (h : Ev C e ρ (.dict ds)) (hr : Er C r (ρ.set k (some (.own (.dic ds)))) o) : Er C (.asgO k e :: r) ρ o :=
  er_seq (fun τ => by
    show ((evE C e ρ).bnd fun d => (M.of (odP d)).bnd fun o => setO k (.own o) ρ) τ = _
    rw [M.bnd_eq (h.run τ)]
    rfl) hr
theorem er_unp {is : List Nat} {r : List S} {o : Out} {ds : List D} {ρ' : En} (h : Ev C e ρ (.tuple ds)) (hs : setDs is ds ρ = some ρ') (hr : Er C r ρ' o) : Er C (.unp is e :: r) ρ o :=
  er_seq (fun τ => by
    show ((evE C e ρ).bnd fun d => match d with
      | .tuple ds => (M.of (setDs is ds ρ)).bnd fun ρ' => M.ret (Out.nx ρ')
      | _ => M.fail) τ = _
    rw [M.bnd_eq (h.run τ)]
    show ((M.of (setDs is ds ρ)).bnd fun ρ' => M.ret (Out.nx ρ')) τ = _
    rw [M.bnd_eq (M.of_eq hs)]
    rfl) hr
theorem er_par {ts : List (Nat × Bool)} {es : List E} {r : List S} {o : Out} {ds : List D} {ρ' : En} (h : Evs C es ρ ds) (hs : setPar ts ds ρ = some ρ') (hr : Er C r ρ' o) : Er C (.par ts es :: r) ρ o :=
  er_seq (fun τ => by
    show ((evEs C es ρ).bnd fun ds => (M.of (setPar ts ds ρ)).bnd fun ρ' => M.ret (Out.nx ρ')) τ = _
    rw [M.bnd_eq (h.run τ), M.bnd_eq (M.of_eq hs)]
    rfl) hr
theorem er_frz {k : Nat} {r : List S} {o : Out} {od : Od} (h : ρ[k]? = some (some (.own od))) (hr : Er C r (ρ.set k (some (.dat od.data))) o) : Er C (.frz k :: r) ρ o :=
  er_seq (fun τ => by
    show ((ownAt ρ k).bnd fun o => setO k (.dat o.data) ρ) τ = _
    rw [M.bnd_eq (show ownAt ρ k τ = some (od, τ) by unfold ownAt; simp only [h])]
    rfl) hr
theorem er_app {k : Nat} {r : List S} {o : Out} {ds : List D} (h : Ev C e ρ d) (hk : ρ[k]? = some (some (.own (.lst ds)))) (hl : ds.length < 16777216) (hr : Er C r (ρ.set k (some (.own (.lst (ds ++ [d]))))) o) : Er C (.app k e :: r) ρ o :=
  er_seq (fun τ => by
    show ((evE C e ρ).bnd fun d => (lstAt ρ k).bnd fun ds => if lineOk (ds.length + 1) then setO k (.own (.lst (ds ++ [d]))) ρ else M.fail) τ = _
    rw [M.bnd_eq (h.run τ), M.bnd_eq (show lstAt ρ k τ = some (ds, τ) by unfold lstAt; simp only [hk])]
    show (if lineOk (ds.length + 1) then setO k (.own (.lst (ds ++ [d]))) ρ else M.fail) τ = _
    rw [if_pos (by unfold lineOk; exact decide_eq_true hl)]
    rfl) hr
theorem er_stoD {k : Nat} {r : List S} {o : Out} {ds : List (D × D)} (h : Ev C e ρ d) (hi : Ev C a ρ x) (hk : ρ[k]? = some (some (.own (.dic ds)))) (hx : isKey x = true) (hl : ds.length < 16777216) (hr : Er C r (ρ.set k (some (.own (.dic (putKD ds x d))))) o) : Er C (.sto k a e :: r) ρ o :=
  er_seq (fun τ => by
    show ((evE C e ρ).bnd fun d => (evE C a ρ).bnd fun y => (ownAt ρ k).bnd fun o => (M.of (stoO o y d)).bnd fun o' => setO k (.own o') ρ) τ = _
    rw [M.bnd_eq (h.run τ), M.bnd_eq (hi.run τ), M.bnd_eq (show ownAt ρ k τ = some (.dic ds, τ) by unfold ownAt; simp only [hk]), M.bnd_eq (M.of_eq (stoO_d hx hl))]
    rfl) hr
/-- if that ends -/
theorem er_ifB {u v r : List S} {o1 o2 : Out} {k : Bool} (hc : Ev C c ρ x) (hx : truD x = some k) (ha : k = true → Er C (u ++ r) ρ o1) (hb : k = false → Er C (v ++ r) ρ o2) : Er C (.ite c u v :: r) ρ (if k then o1 else o2) := .mk fun τ => by
  have app : ∀ (u r : List S) (ρ : En), evSs C (u ++ r) ρ = (evSs C u ρ).bnd fun o => match o with
      | .nx ρ' => evSs C r ρ'
      | .ct ρ' => M.ret (Out.ct ρ')
      | .rt x => M.ret (Out.rt x) := by
    intro u
    induction u with
    | nil => intro r ρ; rfl
    | cons s u ih =>
      intro r ρ
      funext τ
      show ((evS C s ρ).bnd _) τ = ((evS C s ρ).bnd _).bnd _ τ
      unfold M.bnd
      cases evS C s ρ τ with
      | none => rfl
      | some q =>
        obtain ⟨o, τ'⟩ := q
        cases o with
        | nx ρ' => exact congrFun (ih r ρ') τ'
        | ct ρ' => rfl
        | rt x => rfl
  show (((evE C c ρ).bnd fun x => (M.of (truD x)).bnd fun k => if k then evSs C u ρ else evSs C v ρ).bnd fun o => match o with
      | .nx ρ' => evSs C r ρ'
      | .ct ρ' => M.ret (Out.ct ρ')
      | .rt x => M.ret (Out.rt x)) τ = _
  have e1 : ((evE C c ρ).bnd fun x => (M.of (truD x)).bnd fun k => if k then evSs C u ρ else evSs C v ρ) τ = (if k then evSs C u ρ else evSs C v ρ) τ := by
    rw [M.bnd_eq (hc.run τ), M.bnd_eq (M.of_eq hx)]
  cases k with
  | true =>
    have := (ha rfl).run τ
    rw [app] at this
    unfold M.bnd at this ⊢
    unfold M.bnd at e1
    rw [e1]
    exact this
  | false =>
    have := (hb rfl).run τ
    rw [app] at this
    unfold M.bnd at this ⊢
    unfold M.bnd at e1
    rw [e1]
    exact this
theorem er_ifRet {r : List S} {k : Bool} (hc : Ev C c ρ x) (hx : truD x = some k) (ha : k = true → Ev C e ρ d) (hb : k = false → Er C r ρ (.rt y)) : Er C (.ite c [.ret e] [] :: r) ρ (.rt (if k then d else y)) := by
  have := er_ifB (u := [.ret e]) (v := []) (r := r) hc hx (fun h => er_ret (ha h)) hb
  cases k <;> exact this
theorem er_ifT {r : List S} (hc : Ev C c ρ x) (hx : truD x = some true) (ha : Ev C e ρ d) : Er C (.ite c [.ret e] [] :: r) ρ (.rt d) := er_ifRet (y := .none) hc hx (fun _ => ha) fun h => nomatch h
theorem er_ifF {u r : List S} {o : Out} (hc : Ev C c ρ x) (hx : truD x = some false) (hb : Er C r ρ o) : Er C (.ite c u [] :: r) ρ o := by
  have := er_ifB (u := u) (v := []) (r := r) (o1 := o) hc hx (fun h => nomatch h) fun _ => hb
  exact this
theorem er_ifR {u v r : List S} {k : Bool} (hc : Ev C c ρ x) (hx : truD x = some k) (ha : k = true → Er C (u ++ r) ρ (.rt d)) (hb : k = false → Er C (v ++ r) ρ (.rt y)) : Er C (.ite c u v :: r) ρ (.rt (if k then d else y)) := by
  have := er_ifB (u := u) (v := v) (r := r) hc hx ha hb
  cases k <;> exact this
/-- a loop that looks at each and may end -/
theorem er_check {ι : Type} {tg : Tg} {ik : IK} {src : List E} {body r : List S} {xs : List D} {l : List ι} {inj : ι → D} (R : Option ι → En) (bad : ι → Bool) (hs : Evs C src ρ xs) (hw : walkD ik xs = some (l.map inj)) (hρ : ρ = R none)
    (hb : ∀ x ∈ l, ∀ s, ∃ ρ', setTg tg (inj x) (R s) = some ρ' ∧ Er C body ρ' (if bad x then .rt d else .nx (R (some x)))) (hr : l.any bad = false → Er C r (R (l.getLast?)) (.rt y)) : Er C (.loop tg ik src body :: r) ρ (.rt (if l.any bad then d else y)) := .mk fun τ => by
  subst hρ
  have go : ∀ (l' : List ι) (s : Option ι), (∀ x ∈ l', x ∈ l) → loopL (fun d ρ => (M.of (setTg tg d ρ)).bnd fun ρ' => evSs C body ρ') (l'.map inj) (R s) τ = some (if l'.any bad then .rt d else .nx (R (l'.getLast?.or s)), τ) := by
    intro l'
    induction l' with
    | nil => intro s _; rfl
    | cons z l' ih =>
      intro s hm
      obtain ⟨ρ', h1, h2⟩ := hb z (hm z List.mem_cons_self) s
      have h2 := h2.run τ
      show (((M.of (setTg tg (inj z) (R s))).bnd fun ρ' => evSs C body ρ').bnd _) τ = _
      rw [M.bnd_eq ((M.bnd_eq (M.of_eq h1)).trans h2)]
      cases hz : bad z with
      | true => simp [hz]; rfl
      | false =>
        simp only [hz, Bool.false_eq_true, if_false, List.any_cons, Bool.false_or]
        rw [ih (some z) fun y hy => hm y (List.mem_cons_of_mem _ hy)]
        cases l' with
        | nil => rfl
        | cons w l' =>
          rw [List.getLast?_cons_cons]
          cases hq : (w :: l').getLast? with
          | none => simp at hq
          | some q => rfl
  show (((evEs C src (R none)).bnd fun xs => (M.of (walkD ik xs)).bnd fun items => loopL (fun d ρ => (M.of (setTg tg d ρ)).bnd fun ρ' => evSs C body ρ') items (R none)).bnd fun o => match o with
      | .nx ρ' => evSs C r ρ'
      | .ct ρ' => M.ret (Out.ct ρ')
      | .rt x => M.ret (Out.rt x)) τ = _
  rw [M.bnd_eq ((M.bnd_eq (hs.run τ)).trans ((M.bnd_eq (M.of_eq hw)).trans (go l none fun _ h => h)))]
  cases h : l.any bad with
  | true => rfl
  | false =>
    have := (hr h).run τ
    rw [show (l.getLast?.or none) = l.getLast? by simp]
    exact this
/-- a loop that goes through: the state by what was walked -/
theorem er_loop {ι κ : Type} {tg : Tg} {ik : IK} {src : List E} {body r : List S} {xs : List D} {l : List ι} {inj : ι → D} {o : Out} (R : κ → En) (step : κ → ι → κ) (s0 : κ) (P : κ → Nat → Prop) (hs : Evs C src ρ xs) (hw : walkD ik xs = some (l.map inj)) (h0 : P s0 0) (hρ : ρ = R s0)
    (hb : ∀ x ∈ l, ∀ s k, k < l.length → P s k → P (step s x) (k + 1) ∧ ∃ ρ', setTg tg (inj x) (R s) = some ρ' ∧ (Er C body ρ' (.nx (R (step s x))) ∨ Er C body ρ' (.ct (R (step s x))))) (hr : P (l.foldl step s0) l.length → Er C r (R (l.foldl step s0)) o) : Er C (.loop tg ik src body :: r) ρ o := by
  subst hρ
  have go : ∀ (l' : List ι) (s : κ) (k : Nat), (∀ x ∈ l', x ∈ l) → P s k → k + l'.length = l.length → ∀ τ, P (l'.foldl step s) l.length ∧ loopL (fun d ρ => (M.of (setTg tg d ρ)).bnd fun ρ' => evSs C body ρ') (l'.map inj) (R s) τ = some (.nx (R (l'.foldl step s)), τ) := by
    intro l'
    induction l' with
    | nil => intro s k _ hp hk τ; simp at hk; subst hk; exact ⟨hp, rfl⟩
    | cons x l' ih =>
      intro s k hm hp hk τ
      simp only [List.length_cons] at hk
      obtain ⟨h1, ρ', h2, h3⟩ := hb x (hm x List.mem_cons_self) s k (by omega) hp
      obtain ⟨g1, g2⟩ := ih (step s x) (k + 1) (fun y hy => hm y (List.mem_cons_of_mem _ hy)) h1 (by omega) τ
      refine ⟨g1, ?_⟩
      show (((M.of (setTg tg (inj x) (R s))).bnd fun ρ' => evSs C body ρ').bnd _) τ = _
      rcases h3 with h3 | h3
      · rw [M.bnd_eq ((M.bnd_eq (M.of_eq h2)).trans (h3.run τ))]
        exact g2
      · rw [M.bnd_eq ((M.bnd_eq (M.of_eq h2)).trans (h3.run τ))]
        exact g2
  have hP := (go l s0 0 (fun _ h => h) h0 (by simp) []).1
  refine er_seq (fun τ => ?_) (hr hP)
  show ((evEs C src (R s0)).bnd fun xs => (M.of (walkD ik xs)).bnd fun items => loopL (fun d ρ => (M.of (setTg tg d ρ)).bnd fun ρ' => evSs C body ρ') items (R s0)) τ = _
  rw [M.bnd_eq (hs.run τ), M.bnd_eq (M.of_eq hw)]
  exact (go l s0 0 (fun _ h => h) h0 (by simp) τ).2
end
/-- a def's value by its text -/
theorem gives_er {B : Tb} {n f : Nat} {b : List S} {p nn : Nat} {ds : List D} {d : D} (h : Is B f b false p nn) (hr : Er (callF B n) b (envI false (nn - p) ds) (.rt d)) (hl : ds.length = p := by rfl) : Gives (callF B (n + 1)) f ds d := by
  obtain ⟨d', g, e⟩ := gives_ok (P := fun d' => d' = d) ((ok_is (n := n) (Q := fun d1 _ => d1 = d) (τ := []) h (by simpa using hl)).2 (hr.ok ⟨_, rfl, rfl⟩))
  exact e ▸ g
theorem gives_cast {C : Nat → List D → M D} {f : Nat} {ds : List D} {x y : D} (h : Gives C f ds x) (e : x = y) : Gives C f ds y := e ▸ h
theorem gives_er1 {B : Tb} {n f : Nat} {b : List S} {p nn : Nat} {ds : List D} {x y : D} (h : Is B f b false p nn) (hl : ds.length = p) (hr : Er (callF B n) b (envI false (nn - p) ds) (.rt x)) (e : x = y) : Gives (callF B (n + 1)) f ds y := e ▸ gives_er h hr hl
end KN

set_option maxRecDepth 100000
set_option maxHeartbeats 4000000
namespace KN
open PySem L2 PyProof.Rows
/-! ### what is walked, as the image of a list -/
section
variable {ι κ : Type} {a b : D} {l : List ι} {m : List κ} {f : ι → D} {g : κ → D} {xs ys : List D}
theorem range_len : ∀ (n : Nat) (lo : Int), (rangeD lo n).length = n
  | 0, _ => rfl
  | n + 1, lo => by simp [rangeD, range_len n]
theorem rangeD_eq : ∀ (n : Nat) (lo : Nat), rangeD (lo : Int) n = (List.range' lo n).map fun k : Nat => PyData.int (k : Int)
  | 0, _ => rfl
  | n + 1, lo => by
    have := rangeD_eq n (lo + 1)
    rw [show ((lo + 1 : Nat) : Int) = (lo : Int) + 1 by omega] at this
    simp [rangeD, List.range'_succ, this]
theorem wd_range {n : Nat} (h : n ≤ 16777216) : walkD .range [.int (n : Int)] = some ((List.range n).map fun k : Nat => PyData.int (k : Int)) := by
  rw [walkD_range (by omega) (by omega), List.range_eq_range', ← rangeD_eq]
  rfl
theorem wd_rangeI {i : Int} (h : i ≤ 16777216) (h0 : 0 ≤ i) : walkD .range [.int i] = some ((List.range i.toNat).map fun k : Nat => PyData.int (k : Int)) := by
  obtain ⟨n, rfl⟩ := Int.eq_ofNat_of_zero_le h0
  exact wd_range (by omega)
theorem enum_map : ∀ (l : List ι) (k : Nat), enumFrom k (l.map f) = (l.zipIdx k).map fun p => .tuple [.int (p.2 : Int), f p.1]
  | [], _ => rfl
  | x :: r, k => by simp [enumFrom, List.zipIdx_cons, enum_map r (k + 1)]
theorem zip_map : ∀ (l : List ι) (m : List κ), zipD (l.map f) (m.map g) = (l.zip m).map fun p => .tuple [f p.1, g p.2]
  | [], _ => rfl
  | _ :: _, [] => rfl
  | x :: r, y :: q => by simp [zipD, zip_map r q]
theorem wd_lm : walkD .ex [.list (l.map f)] = some (l.map f) := rfl
theorem wd_tm : walkD .ex [.tuple (l.map f)] = some (l.map f) := rfl
theorem wd_l : walkD .ex [.list xs] = some (xs.map fun d => d) := by rw [List.map_id']; rfl
theorem wd_t : walkD .ex [.tuple xs] = some (xs.map fun d => d) := by rw [List.map_id']; rfl
theorem wd_s {z : Str} : walkD .ex [.str z] = some (z.cps.toList.map fun c => .str ⟨#[c]⟩) := rfl
theorem wd_d {kvs : List (D × D)} : walkD .ex [.dict kvs] = some (kvs.map (·.1)) := rfl
theorem wd_vals {kvs : List (D × D)} : walkD .vals [.dict kvs] = some (kvs.map (·.2)) := rfl
theorem wd_items {kvs : List (D × D)} : walkD .items [.dict kvs] = some (kvs.map fun p => .tuple [p.1, p.2]) := rfl
theorem wd_elm : walkD .enum [.list (l.map f)] = some (l.zipIdx.map fun p => .tuple [.int (p.2 : Int), f p.1]) := by rw [← enum_map]; rfl
theorem wd_etm : walkD .enum [.tuple (l.map f)] = some (l.zipIdx.map fun p => .tuple [.int (p.2 : Int), f p.1]) := by rw [← enum_map]; rfl
theorem wd_el : walkD .enum [.list xs] = some (xs.zipIdx.map fun p => .tuple [.int (p.2 : Int), p.1]) := by
  have := wd_elm (l := xs) (f := fun d => d)
  rwa [List.map_id'] at this
theorem wd_et : walkD .enum [.tuple xs] = some (xs.zipIdx.map fun p => .tuple [.int (p.2 : Int), p.1]) := by
  have := wd_etm (l := xs) (f := fun d => d)
  rwa [List.map_id'] at this
theorem wd_es {z : Str} : walkD .enum [.str z] = some (z.cps.toList.zipIdx.map fun p => .tuple [.int (p.2 : Int), .str ⟨#[p.1]⟩]) := by rw [← enum_map (f := fun c => PyData.str ⟨#[c]⟩)]; rfl
theorem wd_zlm : walkD .zip [.list (l.map f), .list (m.map g)] = some ((l.zip m).map fun p => .tuple [f p.1, g p.2]) := by rw [← zip_map]; rfl
theorem wd_ztm : walkD .zip [.tuple (l.map f), .tuple (m.map g)] = some ((l.zip m).map fun p => .tuple [f p.1, g p.2]) := by rw [← zip_map]; rfl
theorem wd_zltm : walkD .zip [.list (l.map f), .tuple (m.map g)] = some ((l.zip m).map fun p => .tuple [f p.1, g p.2]) := by rw [← zip_map]; rfl
theorem wd_ztlm : walkD .zip [.tuple (l.map f), .list (m.map g)] = some ((l.zip m).map fun p => .tuple [f p.1, g p.2]) := by rw [← zip_map]; rfl
theorem wd_zl : walkD .zip [.list xs, .list ys] = some ((xs.zip ys).map fun p => .tuple [p.1, p.2]) := by
  have := wd_zlm (l := xs) (m := ys) (f := fun d => d) (g := fun d => d)
  rwa [List.map_id', List.map_id'] at this
theorem wd_zt : walkD .zip [.tuple xs, .tuple ys] = some ((xs.zip ys).map fun p => .tuple [p.1, p.2]) := by
  have := wd_ztm (l := xs) (m := ys) (f := fun d => d) (g := fun d => d)
  rwa [List.map_id', List.map_id'] at this
theorem wc {ik : IK} (h : walkD ik xs = some (l.map f)) (hl : l.length ≤ 16777216) : walkC ik xs = some (l.map f) := walkC_of h (by rw [List.length_map]; exact hl)
theorem all_bools {l : List ι} {p : ι → Bool} : biD .all [.list (l.map fun x => .bool (p x))] = some (.bool (l.all p)) := by
  have e : ∀ l : List ι, blsOf (l.map fun x => PyData.bool (p x)) = some (l.map p) := by
    intro l
    induction l with
    | nil => rfl
    | cons x r ih => simp [blsOf, ih]
  show (match blsOf (l.map fun x => PyData.bool (p x)) with
    | some bs => some (PyData.bool (bs.all id))
    | none => none) = _
  rw [e]
  simp only [List.all_map]
  rfl
theorem any_bools {l : List ι} {p : ι → Bool} : biD .any [.list (l.map fun x => .bool (p x))] = some (.bool (l.any p)) := by
  have e : ∀ l : List ι, blsOf (l.map fun x => PyData.bool (p x)) = some (l.map p) := by
    intro l
    induction l with
    | nil => rfl
    | cons x r ih => simp [blsOf, ih]
  show (match blsOf (l.map fun x => PyData.bool (p x)) with
    | some bs => some (PyData.bool (bs.any id))
    | none => none) = _
  rw [e]
  simp only [List.any_map]
  rfl
theorem sl_fromL {k : Nat} : sliceD (.list (l.map f)) (some (k : Int)) none = some (.list ((l.drop k).map f)) := by
  rw [sliceD_list, cut_from, List.map_drop]
theorem sl_fromT {k : Nat} : sliceD (.tuple (l.map f)) (some (k : Int)) none = some (.tuple ((l.drop k).map f)) := by
  rw [sliceD_tuple, cut_from, List.map_drop]
theorem sl_toL {k : Nat} : sliceD (.list (l.map f)) none (some (k : Int)) = some (.list ((l.take k).map f)) := by
  rw [sliceD_list, cut_to, List.map_take]
theorem sl_toT {k : Nat} : sliceD (.tuple (l.map f)) none (some (k : Int)) = some (.tuple ((l.take k).map f)) := by
  rw [sliceD_tuple, cut_to, List.map_take]
theorem sl_1L : sliceD (.list (l.map f)) (some 1) none = some (.list ((l.drop 1).map f)) := sl_fromL (k := 1)
theorem sl_1T : sliceD (.tuple (l.map f)) (some 1) none = some (.tuple ((l.drop 1).map f)) := sl_fromT (k := 1)
theorem sl_fromL' {k : Nat} : sliceD (.list xs) (some (k : Int)) none = some (.list (xs.drop k)) := by rw [sliceD_list, cut_from]
theorem sl_fromT' {k : Nat} : sliceD (.tuple xs) (some (k : Int)) none = some (.tuple (xs.drop k)) := by rw [sliceD_tuple, cut_from]
theorem sl_toL' {k : Nat} : sliceD (.list xs) none (some (k : Int)) = some (.list (xs.take k)) := by rw [sliceD_list, cut_to]
theorem sl_toT' {k : Nat} : sliceD (.tuple xs) none (some (k : Int)) = some (.tuple (xs.take k)) := by rw [sliceD_tuple, cut_to]
/-- the order of texts -/
def ltS (a b : Str) : Bool := decide (a.cps.toList < b.cps.toList)
theorem shaped_str {x : Str} (h : PyData.strOk x = true) : SeqAt.shaped (.str x) = true := by simp [SeqAt.shaped, PyData.canLay0, PyData.depth, h]
theorem cmp_ltS {a b : Str} (ha : PyData.strOk a = true) (hb : PyData.strOk b = true) : cmpD .Lt (.str a) (.str b) = some (.bool (ltS a b)) := by
  show (ltD (.str a) (.str b)).map PyData.bool = _
  unfold ltD
  rw [if_pos (by simp [PySem.W.alike, ordD, shaped_str ha, shaped_str hb]), lt_ss]
  rfl
theorem beqS (a b : Str) : (a == b) = decide (a = b) := by
  by_cases h : a = b
  · subst h; simp
  · rw [decide_eq_false h]; simpa using h
theorem cmp_eqS {a b : Str} (ha : PyData.strOk a = true) (hb : PyData.strOk b = true) : cmpD .Eq (.str a) (.str b) = some (.bool (decide (a = b))) := by
  rw [cmpD_eq (shaped_str ha) (shaped_str hb)]
  simp only [PyData.eqv, beqS]
theorem cmp_neS {a b : Str} (ha : PyData.strOk a = true) (hb : PyData.strOk b = true) : cmpD .NotEq (.str a) (.str b) = some (.bool (!decide (a = b))) := by
  rw [cmpD_ne (shaped_str ha) (shaped_str hb)]
  simp only [PyData.eqv, beqS]
theorem get_t0 : getD (.tuple (a :: xs)) (.int 0) = some a := by rw [getD_tuple, atI_zero]; rfl
theorem get_t1 : getD (.tuple (a :: b :: xs)) (.int 1) = some b := by rw [getD_tuple, atI_one]; rfl
theorem get_l0 : getD (.list (a :: xs)) (.int 0) = some a := by rw [getD_list, atI_zero]; rfl
theorem get_l1 : getD (.list (a :: b :: xs)) (.int 1) = some b := by rw [getD_list, atI_one]; rfl
theorem inS_one {c : Nat} {b : Str} : cmpD .In (.str ⟨#[c]⟩) (.str b) = some (.bool (decide (c ∈ b.cps.toList))) := rfl
theorem ninS_one {c : Nat} {b : Str} : cmpD .NotIn (.str ⟨#[c]⟩) (.str b) = some (.bool (!decide (c ∈ b.cps.toList))) := rfl
theorem binD_addS {s t : Str} (h : s.length + t.length ≤ 16777216) : binD .Add (.str s) (.str t) = some (.str (s ++ t)) := if_pos (by unfold lineOk; exact decide_eq_true h)
theorem lenS_ok {z : Str} (h : z.length ≤ 16777216) : biD .len [.str z] = some (.int z.length) := if_pos (by unfold lineOk; exact decide_eq_true h)
end
end KN

set_option maxRecDepth 100000
set_option maxHeartbeats 4000000
namespace KN
open PySem L2 PyProof.Rows

def b1_is_number : List S := [
  .ret (.and (.isi (.var 0) ["int"] false) (.not (.isi (.var 0) ["bool"] false)))]
structure C1 (B : Tb) : Prop where
  own : Is B 1 b1_is_number false 1 1
def b2_is_name : List S := [
  .ret (.and (.isi (.var 0) ["str"] false) (.and (.chain .LtE .LtE (.int 1) (.bi .len [.var 0]) (.int 8)) (.bi .all [.comp (.cmp .In (.var 1) (.glob "LETTERS" (.str "abcdefghijklmnopqrstuvwxyz"))) (.nm 1) .ex [.var 0] .absent])))]
structure C2 (B : Tb) : Prop where
  own : Is B 2 b2_is_name false 1 2
def b3_rises : List S := [
  .ret (.bi .all [.comp (.cmp .Lt (.var 1) (.var 2)) (.tup [1, 2]) .zip [.var 0, .slice (.var 0) (.int 1) .absent] .absent])]
structure C3 (B : Tb) : Prop where
  own : Is B 3 b3_rises false 1 3
def b4_is_row : List S := [
  .ret (.and (.isi (.var 0) ["tuple"] false) (.and (.cmp .Eq (.bi .len [.var 0]) (.int 2)) (.and (.call 2 [.get (.var 0) (.int 0)]) (.call 1 [.get (.var 0) (.int 1)]))))]
structure C4 (B : Tb) : Prop where
  own : Is B 4 b4_is_row false 1 1
  c1 : C1 B
  c2 : C2 B
def b5_is_records : List S := [
  .ite (.or (.not (.isi (.var 0) ["tuple"] false)) (.not (.bi .all [.comp (.call 4 [.var 1]) (.nm 1) .ex [.var 0] .absent]))) [.ret (.bl false)] [],
  .ret (.call 3 [.comp (.var 2) (.tup [2, 3]) .ex [.var 0] .absent])]
structure C5 (B : Tb) : Prop where
  own : Is B 5 b5_is_records false 1 4
  c3 : C3 B
  c4 : C4 B
def b6_box : List S := [
  .asg 2 (.ite (.cmp .Lt (.var 1) (.bi .len [.var 0])) (.get (.var 0) (.var 1)) (.int 0)),
  .ret (.lst [.bin .Mult (.bi .abs [.var 2]) (.bi .int [.cmp .GtE (.bi .abs [.var 2]) (.bin .Pow (.int 10) (.int 18))]), .bin .Add (.bin .Add (.bin .Mod (.bi .int [.var 2]) (.int 2305843009213693951)) (.bin .Mult (.int 39373) (.var 1))) (.int 831), .int 0])]
structure C6 (B : Tb) : Prop where
  own : Is B 6 b6_box false 2 3
def b7_take : List S := [
  .ite (.cmp .Gt (.tget 0 (.int 0)) (.int 0)) [.asg 2 (.bin .Mod (.bi .int [.tget 0 (.int 0)]) (.var 1)), .stoT 0 (.int 0) (.bin .FloorDiv (.tget 0 (.int 0)) (.var 1)), .ret (.var 2)] [],
  .stoT 0 (.int 2) (.bin .Add (.tget 0 (.int 2)) (.int 1)),
  .asg 3 (.bin .Mod (.bi .int [.bin .Mult (.bin .Add (.tget 0 (.int 1)) (.bin .Mult (.int 48271) (.tget 0 (.int 2)))) (.bin .Add (.int 39373) (.tget 0 (.int 2)))]) (.int 2147483647)),
  .asg 4 (.bin .Add (.bin .Mod (.bi .int [.var 3]) (.int 40009)) (.int 7)),
  .asg 5 (.bin .Mod (.bi .int [.bin .Mult (.bin .Add (.bin .Add (.var 3) (.tget 0 (.int 2))) (.bin .FloorDiv (.tget 0 (.int 1)) (.int 1000003))) (.var 4)]) (.int 2147483629)),
  .ret (.bin .Mod (.bi .int [.bin .FloorDiv (.bin .Mod (.bi .int [.bin .Add (.bin .Mult (.var 5) (.int 48271)) (.var 3)]) (.int 2147483587)) (.int 64)]) (.var 1))]
structure C7 (B : Tb) : Prop where
  own : Is B 7 b7_take true 2 6
def b8_cells : List S := [
  .asgO 2 (.or (.bi .list [.slice (.var 0) .absent (.var 1)]) (.lst [.int 0])),
  .loop (.tup [3, 4]) .enum [.slice (.var 0) (.var 1) (.int 63)] [.asg 5 (.bin .Mod (.bi .int [.var 3]) (.var 1)), .sto 2 (.var 5) (.bin .Add (.get (.peek 2) (.var 5)) (.bin .Mult (.var 4) (.bin .Add (.var 3) (.int 2))))],
  .frz 2,
  .ret (.var 2)]
structure C8 (B : Tb) : Prop where
  own : Is B 8 b8_cells false 2 6
def b9_of : List S := [
  .ret (.get (.var 1) (.callT 7 0 [.bi .len [.var 1]]))]
structure C9 (B : Tb) : Prop where
  own : Is B 9 b9_of true 2 2
  c7 : C7 B
def b10_same : List S := [
  .ite (.isi (.var 1) ["list", "tuple"] true) [.ite (.or (.cmp .NotEq (.isi (.var 0) ["list"] false) (.isi (.var 1) ["list"] false)) (.cmp .NotEq (.isi (.var 0) ["tuple"] false) (.isi (.var 1) ["tuple"] false))) [.ret (.bl false)] [], .ret (.and (.cmp .Eq (.bi .len [.var 0]) (.bi .len [.var 1])) (.bi .all [.comp (.call 10 [.var 2, .var 3]) (.tup [2, 3]) .zip [.var 0, .var 1] .absent]))] [],
  .ite (.isi (.var 1) ["dict"] false) [.ite (.or (.not (.isi (.var 0) ["dict"] false)) (.cmp .NotEq (.bi .sorted [.var 0]) (.bi .sorted [.var 1]))) [.ret (.bl false)] [], .ret (.bi .all [.comp (.call 10 [.get (.var 0) (.var 4), .get (.var 1) (.var 4)]) (.nm 4) .ex [.var 1] .absent])] [],
  .ite (.or (.cmp .Is (.var 1) .non) (.isi (.var 1) ["bool", "str"] true)) [.ret (.and (.cmp .Eq (.var 0) (.var 1)) (.and (.cmp .Eq (.isi (.var 0) ["bool"] false) (.isi (.var 1) ["bool"] false)) (.cmp .Eq (.cmp .Is (.var 0) .non) (.cmp .Is (.var 1) .non))))] [],
  .ret (.and (.isi (.var 0) ["int"] false) (.and (.not (.isi (.var 0) ["bool"] false)) (.cmp .Eq (.var 0) (.var 1))))]
structure C10 (B : Tb) : Prop where
  own : Is B 10 b10_same false 2 5
def b11_goods : List S := [
  .asg 3 (.slice (.comp (.bin .Add (.str "r") (.var 4)) (.nm 4) .ex [.str "abcdefghijkl"] .absent) .absent (.callT 7 0 [.bin .Add (.var 1) (.int 1)])),
  .ret (.bi .tuple [.comp (.tup [.var 5, .callT 7 0 [.var 2]]) (.nm 5) .ex [.var 3] .absent])]
structure C11 (B : Tb) : Prop where
  own : Is B 11 b11_goods true 3 6
  c7 : C7 B
def b12_is_tag : List S := [
  .ite (.or (.not (.isi (.var 0) ["str"] false)) (.or (.cmp .Lt (.bi .len [.var 0]) (.int 1)) (.cmp .Gt (.bi .len [.var 0]) (.int 8)))) [.ret (.bl false)] [],
  .ret (.cmp .Eq (.comp (.var 1) (.nm 1) .ex [.var 0] (.cmp .NotIn (.var 1) (.str "abcdefghijklmnopqrstuvwxyz"))) (.lst []))]
structure C12 (B : Tb) : Prop where
  own : Is B 12 b12_is_tag false 1 2
def b13_is_goods : List S := [
  .ite (.not (.isi (.var 0) ["tuple"] false)) [.ret (.bl false)] [],
  .loop (.nm 1) .ex [.var 0] [.ite (.or (.not (.isi (.var 1) ["tuple"] false)) (.or (.cmp .NotEq (.bi .len [.var 1]) (.int 2)) (.not (.call 12 [.get (.var 1) (.int 0)])))) [.ret (.bl false)] [], .ite (.or (.not (.isi (.get (.var 1) (.int 1)) ["int"] false)) (.isi (.get (.var 1) (.int 1)) ["bool"] false)) [.ret (.bl false)] []],
  .asg 2 (.comp (.get (.var 1) (.int 0)) (.nm 1) .ex [.var 0] .absent),
  .ret (.cmp .Eq (.var 2) (.sset (.var 2)))]
structure C13 (B : Tb) : Prop where
  own : Is B 13 b13_is_goods false 1 3
  c12 : C12 B
def b14_spoilt : List S := [
  .asg 3 (.lst [.str "ra", .str "rb", .str "", .str "A", .non, .int 0, .int 3, .neg (.int 1), .bl true, .tup [], .tup [.str "ra", .int 1], .tup [.str "rb", .int 0], .tup [.str "ra"], .lst [], .lst [.str "rc", .int 5]]),
  .ite (.or (.cmp .Eq (.var 2) (.int 0)) (.or (.not (.isi (.var 1) ["list", "tuple"] true)) (.cmp .Eq (.bi .len [.var 1]) (.int 0)))) [.ret (.callT 9 0 [.var 3])] [],
  .par [(4, false), (5, false)] [.callT 7 0 [.int 7], .callT 7 0 [.bi .len [.var 1]]],
  .asgO 6 (.bi .list [.var 1]),
  .ite (.cmp .Eq (.var 4) (.int 0)) [.ret (.bi .list [.var 1])] [],
  .ite (.cmp .Eq (.var 4) (.int 1)) [.ret (.bi .tuple [.bin .Add (.slice (.peek 6) .absent (.var 5)) (.slice (.peek 6) (.bin .Add (.var 5) (.int 1)) .absent)])] [],
  .ite (.cmp .Eq (.var 4) (.int 2)) [.ret (.bi .tuple [.bin .Add (.slice (.peek 6) .absent (.bin .Add (.var 5) (.int 1))) (.slice (.peek 6) (.var 5) .absent)])] [],
  .ite (.cmp .Eq (.var 4) (.int 3)) [.ret (.bi .tuple [.bin .Add (.bin .Add (.slice (.peek 6) .absent (.var 5)) (.lst [.callT 9 0 [.var 3]])) (.slice (.peek 6) (.var 5) .absent)])] [],
  .ite (.cmp .Eq (.var 4) (.int 4)) [.ret (.bi .tuple [.rev (.peek 6)])] [],
  .sto 6 (.var 5) (.callT 14 0 [.get (.peek 6) (.var 5), .bin .Sub (.var 2) (.int 1)]),
  .ret (.bi .tuple [.peek 6])]
structure C14 (B : Tb) : Prop where
  own : Is B 14 b14_spoilt true 3 7
  c7 : C7 B
  c9 : C9 B
def b15_hand_right : List S := [
  .asg 0 (.tup []),
  .loop (.tup [1, 2]) .enum [.str "abcde"] [.asg 0 (.bin .Add (.var 0) (.bi .tuple [.comp (.tup [.bin .Add (.bin .Add (.str "z") (.var 2)) (.var 3), .neg (.var 1)]) (.nm 3) .ex [.str "abcdefghij"] .absent]))],
  .asg 4 (.lst [.tup [], .tup [.tup [.str "a", .int 0]], .tup [.tup [.str "a", .int 5], .tup [.str "b", .int 5]], .tup [.tup [.str "a", .neg (.bin .Pow (.int 10) (.int 50))], .tup [.str "abcdefgh", .bin .Pow (.int 10) (.int 50)]], .var 0]),
  .asgO 5 (.lst [.non, .int 0, .str "", .str "a", .bl true, .lst [], .lst [.tup [.str "a", .int 0]], .tup [.str "a", .int 0], .tup [.lst [.str "a", .int 0]], .tup [.tup [.str "a"]], .tup [.tup [.str "a", .int 0, .int 0]]]),
  .asgO 5 (.bin .Add (.peek 5) (.lst [.tup [.tup [.str "a", .str "0"]], .tup [.tup [.str "a", .non]], .tup [.tup [.str "a", .bl true]], .tup [.tup [.str "a", .lst [.int 0]]]])),
  .asgO 5 (.bin .Add (.peek 5) (.lst [.tup [.tup [.str "A", .int 0]], .tup [.tup [.str "", .int 0]], .tup [.tup [.str "abcdefghi", .int 0]], .tup [.tup [.str "a\n", .int 0]], .tup [.tup [.str "a1", .int 0]], .tup [.tup [.int 1, .int 0]]])),
  .asgO 5 (.bin .Add (.peek 5) (.lst [.tup [.tup [.non, .int 0]], .tup [.tup [.str "b", .int 0], .tup [.str "a", .int 0]], .tup [.tup [.str "a", .int 0], .tup [.str "a", .int 1]], .tup [.tup [.str "a", .int 0], .tup [.str "a", .int 0]]])),
  .asgO 5 (.bin .Add (.peek 5) (.lst [.tup [.tup [.tup [.str "a", .int 0]]], .tup [.tup [.str "a", .tup [.int 0]]], .tup [.tup [.str "a", .int 0], .non], .tup [.tup [.str "a", .int 0], .tup []]])),
  .app 5 (.tup [.tup [.str "a", .int 0], .tup [.str "b", .bl false]]),
  .app 5 (.tup [.lst []]),
  .asg 6 (.bin .Add (.comp (.call 5 [.var 7]) (.nm 7) .ex [.bin .Add (.var 4) (.peek 5)] .absent) (.lst [.callK 5 [0] [] [.get (.var 4) (.int 2)]])),
  .ret (.call 10 [.var 6, .bin .Add (.bin .Add (.bin .Mult (.lst [.bl true]) (.bi .len [.var 4])) (.bin .Mult (.lst [.bl false]) (.bi .len [.peek 5]))) (.lst [.bl true])])]
structure C15 (B : Tb) : Prop where
  own : Is B 15 b15_hand_right false 0 8
  c5 : C5 B
  c10 : C10 B
def b16_right : List S := [
  .loop (.nm 1) .range [.int 30] [.asg 2 (.callT 11 0 [.int 12, .int 20]), .asg 3 (.ite (.cmp .Gt (.callT 7 0 [.int 3]) (.int 0)) (.callT 14 0 [.var 2, .int 3]) (.var 2)), .ite (.not (.call 10 [.lst [.call 5 [.var 3], .call 5 [.var 2]], .lst [.call 13 [.var 3], .bl true]])) [.ret (.bl false)] []],
  .ret (.bl true)]
structure C16 (B : Tb) : Prop where
  own : Is B 16 b16_right true 1 4
  c5 : C5 B
  c7 : C7 B
  c10 : C10 B
  c11 : C11 B
  c13 : C13 B
  c14 : C14 B
def b17_law : List S := [
  .ite (.not (.call 15 [])) [.ret (.bl false)] [],
  .asg 1 (.call 8 [.var 0, .int 3]),
  .ret (.bi .all [.comp (.callR 16 (.callN 6 [.var 1, .var 2]) []) (.nm 2) .range [.bi .len [.var 1]] .absent])]
structure C17 (B : Tb) : Prop where
  own : Is B 17 b17_law false 1 3
  c6 : C6 B
  c8 : C8 B
  c15 : C15 B
  c16 : C16 B
def b18_tupled : List S := [
  .ret (.ite (.isi (.var 0) ["list", "tuple"] true) (.bi .tuple [.comp (.call 18 [.var 1]) (.nm 1) .ex [.var 0] .absent]) (.var 0))]
structure C18 (B : Tb) : Prop where
  own : Is B 18 b18_tupled false 1 2
def b19_is_name_set : List S := [
  .ret (.and (.isi (.var 0) ["tuple"] false) (.and (.bi .all [.comp (.call 2 [.var 1]) (.nm 1) .ex [.var 0] .absent]) (.call 3 [.var 0])))]
structure C19 (B : Tb) : Prop where
  own : Is B 19 b19_is_name_set false 1 2
  c2 : C2 B
  c3 : C3 B
def b20_near_table : List S := [
  .asg 2 (.call 18 [.var 0]),
  .asgO 3 .dic0,
  .loop (.tup [4, 5]) .ex [.var 2] [.sto 3 (.var 4) (.bi .tuple [.comp (.var 6) (.tup [6, 7]) .ex [.var 2] (.and (.cmp .NotEq (.var 6) (.var 4)) (.cmp .LtE (.bi .abs [.bin .Sub (.var 7) (.var 5)]) (.var 1)))])],
  .frz 3,
  .ret (.var 3)]
structure C20 (B : Tb) : Prop where
  own : Is B 20 b20_near_table false 2 8
  c18 : C18 B
def b21_clash : List S := [
  .asg 2 (.comp2 (.tup [.var 3, .var 4]) (.nm 3) .ex [.var 1] .absent (.nm 4) .ex [.get (.var 0) (.var 3)] (.and (.cmp .Lt (.var 3) (.var 4)) (.cmp .In (.var 4) (.var 1)))),
  .ret (.ite (.cmp .Gt (.bi .len [.var 2]) (.int 0)) (.bi .min [.var 2]) .non)]
structure C21 (B : Tb) : Prop where
  own : Is B 21 b21_clash false 2 5
def b22_uncovered : List S := [
  .ret (.bi .tuple [.comp (.var 2) (.nm 2) .ex [.var 0] (.and (.cmp .NotIn (.var 2) (.var 1)) (.not (.bi .any [.comp (.cmp .In (.var 3) (.var 1)) (.nm 3) .ex [.get (.var 0) (.var 2)] .absent])))])]
structure C22 (B : Tb) : Prop where
  own : Is B 22 b22_uncovered false 2 4
def b23_can_be_kept : List S := [
  .ret (.and (.cmp .Is (.call 21 [.var 0, .var 1]) .non) (.cmp .Eq (.bi .len [.call 22 [.var 0, .var 1]]) (.int 0)))]
structure C23 (B : Tb) : Prop where
  own : Is B 23 b23_can_be_kept false 2 2
  c21 : C21 B
  c22 : C22 B
def b24_is_kept : List S := [
  .asg 3 (.call 20 [.var 0, .var 1]),
  .ite (.or (.not (.call 19 [.var 2])) (.not (.bi .all [.comp (.cmp .In (.var 4) (.var 3)) (.nm 4) .ex [.var 2] .absent]))) [.ret (.bl false)] [],
  .ret (.call 23 [.var 3, .var 2])]
structure C24 (B : Tb) : Prop where
  own : Is B 24 b24_is_kept false 3 5
  c19 : C19 B
  c20 : C20 B
  c23 : C23 B
def b25_box : List S := [
  .asg 2 (.ite (.cmp .Lt (.var 1) (.bi .len [.var 0])) (.get (.var 0) (.var 1)) (.int 0)),
  .ret (.lst [.bin .Mult (.bi .abs [.var 2]) (.bi .int [.cmp .GtE (.bi .abs [.var 2]) (.bin .Pow (.int 10) (.int 18))]), .bin .Add (.bin .Add (.bin .Mod (.bi .int [.var 2]) (.int 2305843009213693951)) (.bin .Mult (.int 39373) (.var 1))) (.int 1245), .int 0])]
structure C25 (B : Tb) : Prop where
  own : Is B 25 b25_box false 2 3
def b26_lists : List S := [
  .ret (.ite (.isi (.var 0) ["list", "tuple"] true) (.comp (.call 26 [.var 1]) (.nm 1) .ex [.var 0] .absent) (.var 0))]
structure C26 (B : Tb) : Prop where
  own : Is B 26 b26_lists false 1 2
def b27_close : List S := [
  .asgO 2 .dic0,
  .loop (.tup [3, 4]) .ex [.var 0] [.sto 2 (.var 3) (.comp (.get (.var 5) (.int 0)) (.nm 5) .ex [.var 0] (.and (.cmp .NotEq (.get (.var 5) (.int 0)) (.var 3)) (.cmp .LtE (.bi .abs [.bin .Sub (.get (.var 5) (.int 1)) (.var 4)]) (.var 1))))],
  .frz 2,
  .ret (.var 2)]
structure C27 (B : Tb) : Prop where
  own : Is B 27 b27_close false 2 6
def b28_scan : List S := [
  .par [(3, false), (4, true)] [.call 27 [.var 0, .var 1], .lst []],
  .loop (.nm 5) .ex [.var 2] [.ite (.cmp .Eq (.comp (.var 6) (.nm 6) .ex [.peek 4] (.cmp .In (.var 6) (.get (.var 3) (.var 5)))) (.lst [])) [.app 4 (.var 5)] []],
  .ret (.bi .tuple [.bi .sorted [.peek 4]])]
structure C28 (B : Tb) : Prop where
  own : Is B 28 b28_scan false 3 7
  c27 : C27 B
def b29_rows : List S := [
  .ite (.cmp .Eq (.var 0) (.lst [])) [.ret (.lst [.tup []])] [],
  .asg 1 (.lst []),
  .loop (.tup [2, 3]) .enum [.var 0] [.asg 1 (.bin .Add (.var 1) (.comp (.bin .Add (.tup [.var 3]) (.var 4)) (.nm 4) .ex [.call 29 [.bin .Add (.slice (.var 0) .absent (.var 2)) (.slice (.var 0) (.bin .Add (.var 2) (.int 1)) .absent)]] .absent))],
  .ret (.var 1)]
structure C29 (B : Tb) : Prop where
  own : Is B 29 b29_rows false 1 5
def b30_sets : List S := [
  .asg 1 (.lst [.tup []]),
  .loop (.nm 2) .ex [.var 0] [.asg 1 (.bin .Add (.var 1) (.comp (.bin .Add (.var 3) (.tup [.var 2])) (.nm 3) .ex [.var 1] .absent))],
  .ret (.bi .sorted [.var 1])]
structure C30 (B : Tb) : Prop where
  own : Is B 30 b30_sets false 1 4
def b31_text : List S := [
  .ret (.tup [.tup [.str "a", .int 0], .tup [.str "b", .int 2], .tup [.str "c", .int 3], .tup [.str "d", .int 5], .tup [.str "e", .int 9]])]
structure C31 (B : Tb) : Prop where
  own : Is B 31 b31_text false 0 0
def b32_hand_right : List S := [
  .par [(0, false), (1, false)] [.call 31 [], .bin .Pow (.int 10) (.int 40)],
  .asg 2 (.lst [.lst [.tup [.str "a", .str "c", .str "e"], .tup [.str "a", .str "d", .str "e"], .tup [.str "b", .str "d", .str "e"]], .lst [.tup [.str "a", .str "d", .str "e"], .tup [.str "b", .str "e"], .tup [.str "c", .str "e"]]]),
  .asg 2 (.bin .Add (.var 2) (.lst [.lst [.bi .tuple [.str "abcde"]], .lst [.tup [.str "a"], .tup [.str "e"]]])),
  .asgO 3 (.comp (.comp (.call 24 [.var 0, .var 4, .var 6]) (.nm 6) .ex [.var 5] .absent) (.tup [4, 5]) .zip [.tup [.int 2, .int 3, .int 0, .int 9], .var 2] .absent),
  .asgO 7 (.lst [.bin .Mult (.lst [.bl true]) (.int 3), .bin .Mult (.lst [.bl true]) (.int 3), .lst [.bl true], .bin .Mult (.lst [.bl true]) (.int 2)]),
  .asg 8 (.lst [.tup [.str "a", .str "c"], .tup [.str "c", .str "e"], .tup [.str "a", .str "b", .str "d", .str "e"], .tup [.str "e", .str "d", .str "a"], .tup [.str "a", .str "a", .str "d", .str "e"], .lst [.str "a", .str "c", .str "e"]]),
  .asg 8 (.bin .Add (.var 8) (.lst [.non, .tup [], .str "ace", .int 0, .bl true, .tup [.str "a", .str "d", .str "x"], .tup [.str "a", .str "d", .str "e", .str "x"], .tup [.str "a", .str "d", .int 9]])),
  .asg 8 (.bin .Add (.var 8) (.lst [.tup [.str "a", .str "d", .lst [.str "e"]], .tup [.str "a", .str "d", .tup [.str "e"]], .tup [.str "a", .str "d", .non], .tup [.tup [.str "a", .str "d", .str "e"]], .tup [.str "a", .str "d", .str "e\n"]])),
  .asg 8 (.bin .Add (.var 8) (.lst [.tup [.str "a", .str "d", .str "E"], .tup [.str "a", .str "d", .str ""], .tup [.str "b", .str "d"], .tup [.str "a", .str "e"], .tup [.str "e"]])),
  .asgO 3 (.bin .Add (.peek 3) (.lst [.comp (.call 24 [.var 0, .int 2, .var 6]) (.nm 6) .ex [.var 8] .absent, .call 24 [.tup [], .int 2, .tup []], .call 24 [.tup [], .int 2, .tup [.str "a"]]])),
  .asgO 3 (.bin .Add (.peek 3) (.lst [.call 24 [.tup [.tup [.str "p", .bin .FloorDiv (.var 1) (.int 2)], .tup [.str "q", .bin .FloorDiv (.neg (.var 1)) (.int 2)]], .bin .Sub (.var 1) (.int 1), .tup [.str "p", .str "q"]]])),
  .asgO 3 (.bin .Add (.peek 3) (.lst [.call 24 [.tup [.tup [.str "p", .bin .FloorDiv (.var 1) (.int 2)], .tup [.str "q", .bin .FloorDiv (.neg (.var 1)) (.int 2)]], .var 1, .tup [.str "p", .str "q"]]])),
  .asgO 7 (.bin .Add (.peek 7) (.lst [.bin .Mult (.lst [.bl false]) (.bi .len [.var 8]), .bl true, .bl false, .bl true, .bl false])),
  .asg 9 (.tup [.tup [.str "p", .int 4], .tup [.str "q", .int 4], .tup [.str "r", .int 4], .tup [.str "s", .int 5]]),
  .asg 10 (.lst [.tup [.str "p"], .tup [.str "p", .str "s"], .tup [.str "q", .str "s"], .tup [.str "s"], .tup [.str "p", .str "q", .str "s"]]),
  .app 3 (.bin .Add (.comp (.call 24 [.var 9, .int 0, .var 6]) (.nm 6) .ex [.var 10] .absent) (.comp (.call 24 [.var 9, .int 1, .var 6]) (.nm 6) .ex [.var 10] .absent)),
  .app 7 (.lst [.bl false, .bl true, .bl true, .bl false, .bl false, .bl true, .bl false, .bl false, .bl true, .bl false]),
  .asg 11 (.bi .tuple [.comp (.tup [.get (.str "abcdefghijkl") (.var 12), .bin .Mult (.int 3) (.var 12)]) (.nm 12) .range [.int 12] .absent]),
  .asg 10 (.lst [.str "acegik", .str "behk", .str "bdfhjl", .str "behjl", .str "adgjl", .str "adgk", .str "adgik", .str "acfik"]),
  .asgO 3 (.bin .Add (.peek 3) (.lst [.comp (.call 24 [.var 11, .int 3, .bi .tuple [.var 6]]) (.nm 6) .ex [.var 10] .absent])),
  .asgO 3 (.bin .Add (.peek 3) (.lst [.callK 24 [2, 1, 0] [] [.tup [.str "b", .str "d", .str "e"], .int 2, .call 26 [.var 0]]])),
  .asgO 7 (.bin .Add (.peek 7) (.lst [.lst [.bl true, .bl true, .bl true, .bl true, .bl true, .bl false, .bl true, .bl true], .bl true])),
  .frz 3,
  .frz 7,
  .ret (.and (.call 10 [.var 3, .var 7]) (.not (.call 24 [.call 26 [.var 0], .int 2, .lst [.str "b", .str "d", .str "e"]])))]
structure C32 (B : Tb) : Prop where
  own : Is B 32 b32_hand_right false 0 13
  c10 : C10 B
  c24 : C24 B
  c26 : C26 B
  c31 : C31 B
def b33_case_right : List S := [
  .par [(1, false), (2, false)] [.callT 11 0 [.int 5, .int 9], .callT 7 0 [.int 4]],
  .asg 3 (.comp (.call 28 [.var 1, .var 2, .var 4]) (.nm 4) .ex [.call 29 [.comp (.get (.var 4) (.int 0)) (.nm 4) .ex [.var 1] .absent]] .absent),
  .asg 5 (.call 30 [.comp (.get (.var 4) (.int 0)) (.nm 4) .ex [.var 1] .absent]),
  .asg 6 (.bin .Add (.comp (.call 24 [.var 1, .var 2, .var 4]) (.nm 4) .ex [.var 5] .absent) (.comp (.call 24 [.call 26 [.var 1], .var 2, .var 4]) (.nm 4) .ex [.var 5] .absent)),
  .ret (.call 10 [.var 6, .bin .Mult (.comp (.cmp .In (.var 4) (.var 3)) (.nm 4) .ex [.var 5] .absent) (.int 2)])]
structure C33 (B : Tb) : Prop where
  own : Is B 33 b33_case_right true 1 7
  c7 : C7 B
  c10 : C10 B
  c11 : C11 B
  c24 : C24 B
  c26 : C26 B
  c28 : C28 B
  c29 : C29 B
  c30 : C30 B
def b34_right : List S := [
  .ret (.bi .all [.comp (.callT 33 0 []) (.nm 1) .range [.int 6] .absent])]
structure C34 (B : Tb) : Prop where
  own : Is B 34 b34_right true 1 2
  c33 : C33 B
def b35_law : List S := [
  .ite (.not (.call 32 [])) [.ret (.bl false)] [],
  .asg 1 (.call 8 [.var 0, .int 3]),
  .ret (.bi .all [.comp (.callR 34 (.callN 25 [.var 1, .var 2]) []) (.nm 2) .range [.bi .len [.var 1]] .absent])]
structure C35 (B : Tb) : Prop where
  own : Is B 35 b35_law false 1 3
  c8 : C8 B
  c25 : C25 B
  c32 : C32 B
  c34 : C34 B
def b36_set_of : List S := [
  .ret (.bi .tuple [.sset (.var 0)])]
structure C36 (B : Tb) : Prop where
  own : Is B 36 b36_set_of false 1 1
def b37_names_of : List S := [
  .ret (.bi .tuple [.comp (.var 1) (.tup [1, 2]) .ex [.call 18 [.var 0]] .absent])]
structure C37 (B : Tb) : Prop where
  own : Is B 37 b37_names_of false 1 3
  c18 : C18 B
def b38_check_names : List S := [
  .asg 2 (.call 37 [.var 0]),
  .loop (.nm 3) .ex [.var 1] [.ite (.cmp .NotIn (.var 3) (.var 2)) [.rais] []]]
structure C38 (B : Tb) : Prop where
  own : Is B 38 b38_check_names false 2 4
  c37 : C37 B
def b39_rows_of : List S := [
  .ret (.bi .sorted [.comp (.tup [.var 2, .var 1]) (.tup [1, 2]) .ex [.call 18 [.var 0]] .absent])]
structure C39 (B : Tb) : Prop where
  own : Is B 39 b39_rows_of false 1 3
  c18 : C18 B
def b40_can_follow : List S := [
  .asg 4 (.ite (.cmp .GtE (.var 2) (.int 0)) (.get (.get (.var 0) (.var 2)) (.int 0)) .non),
  .asg 5 (.ite (.cmp .Lt (.var 3) (.bi .len [.var 0])) (.get (.get (.var 0) (.var 3)) (.int 0)) .non),
  .ite (.and (.cmp .IsNot (.var 4) .non) (.and (.cmp .IsNot (.var 5) .non) (.cmp .LtE (.bin .Sub (.var 5) (.var 4)) (.var 1)))) [.ret (.bl false)] [],
  .loop (.tup [6, 7]) .ex [.slice (.var 0) (.bin .Add (.var 2) (.int 1)) (.var 3)] [.ite (.and (.or (.cmp .Is (.var 4) .non) (.cmp .Gt (.bin .Sub (.var 6) (.var 4)) (.var 1))) (.or (.cmp .Is (.var 5) .non) (.cmp .Gt (.bin .Sub (.var 5) (.var 6)) (.var 1)))) [.ret (.bl false)] []],
  .ret (.bl true)]
structure C40 (B : Tb) : Prop where
  own : Is B 40 b40_can_follow false 4 8
def b41_links : List S := [
  .asgO 2 (.lst []),
  .loop (.nm 3) .range [.bin .Add (.bi .len [.var 0]) (.int 1)] [.app 2 (.comp (.var 4) (.nm 4) .range [.neg (.int 1), .var 3] (.call 40 [.var 0, .var 1, .var 4, .var 3]))],
  .frz 2,
  .ret (.var 2)]
structure C41 (B : Tb) : Prop where
  own : Is B 41 b41_links false 2 5
  c40 : C40 B
def b42_many_with : List S := [
  .par [(4, true), (5, true)] [.lst [.int 0], .dic1 (.neg (.int 1)) (.int 1)],
  .loop (.tup [6, 7]) .ex [.var 0] [.app 4 (.bin .Add (.get (.peek 4) (.neg (.int 1))) (.bi .int [.cmp .In (.var 7) (.var 2)]))],
  .loop (.nm 8) .range [.bin .Add (.bi .len [.var 0]) (.int 1)] [.asg 9 (.and (.cmp .Lt (.var 8) (.bi .len [.var 0])) (.cmp .In (.get (.get (.var 0) (.var 8)) (.int 1)) (.var 3))), .asg 10 (.ite (.var 9) (.lst []) (.comp (.var 11) (.nm 11) .ex [.get (.var 1) (.var 8)] (.cmp .Eq (.get (.peek 4) (.var 8)) (.get (.peek 4) (.bin .Add (.var 11) (.int 1)))))), .sto 5 (.var 8) (.bi .sum [.comp (.get (.peek 5) (.var 11)) (.nm 11) .ex [.var 10] .absent])],
  .ret (.get (.peek 5) (.bi .len [.var 0]))]
structure C42 (B : Tb) : Prop where
  own : Is B 42 b42_many_with false 4 12
def b43_how_many_with : List S := [
  .expr (.call 38 [.var 0, .lst [.star (.var 2), .star (.var 3)]]),
  .asg 4 (.call 39 [.var 0]),
  .ret (.call 42 [.var 4, .call 41 [.var 4, .var 1], .var 2, .var 3])]
structure C43 (B : Tb) : Prop where
  own : Is B 43 b43_how_many_with false 4 5
  c38 : C38 B
  c39 : C39 B
  c41 : C41 B
  c42 : C42 B
def b44_how_many_kept : List S := [
  .ret (.call 43 [.var 0, .var 1, .tup [], .tup []])]
structure C44 (B : Tb) : Prop where
  own : Is B 44 b44_how_many_kept false 2 2
  c43 : C43 B
def b45_all_kept : List S := [
  .asg 2 (.call 39 [.var 0]),
  .par [(3, false), (4, true), (5, true)] [.call 41 [.var 2, .var 1], .lst [.tup [.tup [], .bi .len [.var 2]]], .lst []],
  .while 100000 (.cmp .Gt (.bi .len [.peek 4]) (.int 0)) [.pop (.tup [6, 7]) 4, .loop (.nm 8) .ex [.get (.var 3) (.var 7)] [.ite (.cmp .Lt (.var 8) (.int 0)) [.app 5 (.call 36 [.var 6])] [.app 4 (.tup [.tup [.star (.var 6), .get (.get (.var 2) (.var 8)) (.int 1)], .var 8])]]],
  .ret (.bi .sorted [.peek 5])]
structure C45 (B : Tb) : Prop where
  own : Is B 45 b45_all_kept false 2 9
  c36 : C36 B
  c39 : C39 B
  c41 : C41 B
def b46_box : List S := [
  .asg 2 (.ite (.cmp .Lt (.var 1) (.bi .len [.var 0])) (.get (.var 0) (.var 1)) (.int 0)),
  .ret (.lst [.bin .Mult (.bi .abs [.var 2]) (.bi .int [.cmp .GtE (.bi .abs [.var 2]) (.bin .Pow (.int 10) (.int 18))]), .bin .Add (.bin .Add (.bin .Mod (.bi .int [.var 2]) (.int 2305843009213693951)) (.bin .Mult (.int 39373) (.var 1))) (.int 1383), .int 0])]
structure C46 (B : Tb) : Prop where
  own : Is B 46 b46_box false 2 3
def b47_is_kept : List S := [
  .asg 3 (.call 27 [.var 0, .var 1]),
  .loop (.tup [4, 5]) .ex [.var 0] [.asg 6 (.comp (.var 7) (.nm 7) .ex [.var 2] (.cmp .In (.var 7) (.get (.var 3) (.var 4)))), .ite (.cmp .Eq (.cmp .NotEq (.var 6) (.lst [])) (.cmp .In (.var 4) (.var 2))) [.ret (.bl false)] []],
  .ret (.bl true)]
structure C47 (B : Tb) : Prop where
  own : Is B 47 b47_is_kept false 3 8
  c27 : C27 B
def b48_all_kept : List S := [
  .ret (.comp (.var 2) (.nm 2) .ex [.call 30 [.comp (.var 3) (.tup [3, 4]) .ex [.var 0] .absent]] (.call 47 [.var 0, .var 1, .var 2]))]
structure C48 (B : Tb) : Prop where
  own : Is B 48 b48_all_kept false 2 5
  c30 : C30 B
  c47 : C47 B
def b49_told_all : List S := [
  .ret (.lst [.call 45 [.var 0, .var 1], .call 44 [.var 0, .var 1]])]
structure C49 (B : Tb) : Prop where
  own : Is B 49 b49_told_all false 2 2
  c44 : C44 B
  c45 : C45 B
def b50_hand_right : List S := [
  .par [(0, false), (1, false)] [.call 31 [], .bin .Pow (.int 10) (.int 40)],
  .asg 2 (.comp (.call 45 [.var 0, .var 3]) (.nm 3) .ex [.tup [.int 0, .int 1, .int 2, .int 3, .int 4, .int 8, .int 9, .var 1]] .absent),
  .asg 4 (.lst [.lst [.bi .tuple [.str "abcde"]], .lst [.tup [.str "a", .str "b", .str "d", .str "e"], .tup [.str "a", .str "c", .str "d", .str "e"]]]),
  .asg 4 (.bin .Add (.var 4) (.lst [.lst [.tup [.str "a", .str "c", .str "e"], .tup [.str "a", .str "d", .str "e"], .tup [.str "b", .str "d", .str "e"]]])),
  .asg 4 (.bin .Add (.var 4) (.lst [.lst [.tup [.str "a", .str "d", .str "e"], .tup [.str "b", .str "e"], .tup [.str "c", .str "e"]], .lst [.tup [.str "a", .str "d"], .tup [.str "a", .str "e"], .tup [.str "b", .str "e"], .tup [.str "c", .str "e"]]])),
  .asg 4 (.bin .Add (.var 4) (.lst [.lst [.tup [.str "a", .str "e"], .tup [.str "b"], .tup [.str "c"], .tup [.str "d"]]])),
  .asg 4 (.bin .Add (.var 4) (.bin .Mult (.lst [.lst [.tup [.str "a"], .tup [.str "b"], .tup [.str "c"], .tup [.str "d"], .tup [.str "e"]]]) (.int 2))),
  .asg 2 (.bin .Add (.bin .Add (.var 2) (.comp (.call 44 [.var 0, .var 3]) (.nm 3) .ex [.tup [.int 0, .int 1, .int 2, .int 3, .int 4, .int 8, .int 9]] .absent)) (.lst [.call 45 [.tup [], .int 5]])),
  .asg 2 (.bin .Add (.var 2) (.lst [.call 44 [.tup [], .int 5], .call 45 [.tup [.tup [.str "q", .neg (.var 1)]], .int 0]])),
  .asg 4 (.bin .Add (.var 4) (.lst [.int 1, .int 2, .int 3, .int 3, .int 4, .int 4, .int 5, .lst [.tup []], .int 1, .lst [.tup [.str "q"]]])),
  .asg 5 (.tup [.tup [.str "a", .int 9], .tup [.str "b", .int 4], .tup [.str "c", .int 9], .tup [.str "d", .int 4], .tup [.str "e", .int 0]]),
  .asg 2 (.bin .Add (.var 2) (.lst [.call 45 [.var 5, .int 0], .call 45 [.var 5, .int 4], .call 45 [.var 5, .int 5]])),
  .asg 4 (.bin .Add (.var 4) (.lst [.lst [.tup [.str "a", .str "b", .str "e"], .tup [.str "a", .str "d", .str "e"], .tup [.str "b", .str "c", .str "e"], .tup [.str "c", .str "d", .str "e"]]])),
  .asg 4 (.bin .Add (.var 4) (.lst [.lst [.tup [.str "a", .str "b"], .tup [.str "a", .str "d"], .tup [.str "a", .str "e"], .tup [.str "b", .str "c"], .tup [.str "c", .str "d"], .tup [.str "c", .str "e"]]])),
  .asg 4 (.bin .Add (.var 4) (.lst [.lst [.tup [.str "a", .str "e"], .tup [.str "b"], .tup [.str "c", .str "e"], .tup [.str "d"]]])),
  .asg 6 (.tup [.tup [.str "m", .var 1], .tup [.str "n", .neg (.var 1)], .tup [.str "o", .int 0], .tup [.str "p", .bin .Sub (.int 1) (.var 1)]]),
  .asg 2 (.bin .Add (.var 2) (.lst [.call 45 [.var 6, .var 1], .call 45 [.var 6, .bin .Sub (.var 1) (.int 1)], .call 45 [.var 6, .int 1]])),
  .asg 4 (.bin .Add (.var 4) (.lst [.lst [.tup [.str "m", .str "n"], .tup [.str "m", .str "p"], .tup [.str "o"]], .lst [.tup [.str "m", .str "n", .str "o"], .tup [.str "m", .str "p"]]])),
  .asg 4 (.bin .Add (.var 4) (.lst [.lst [.tup [.str "m", .str "n", .str "o"], .tup [.str "m", .str "o", .str "p"]]])),
  .asg 7 (.bi .tuple [.comp (.tup [.get (.str "abcdefghijkl") (.var 8), .bin .Mult (.int 3) (.var 8)]) (.nm 8) .range [.int 12] .absent]),
  .asg 2 (.bin .Add (.var 2) (.lst [.comp (.call 44 [.var 7, .var 3]) (.nm 3) .ex [.tup [.int 2, .int 3, .int 6, .int 9, .int 33]] .absent, .bi .len [.call 45 [.var 7, .int 3]]])),
  .asg 2 (.bin .Add (.var 2) (.lst [.slice (.call 45 [.var 7, .int 3]) .absent (.int 2), .slice (.call 45 [.var 7, .int 33]) (.int 11) .absent])),
  .asg 4 (.bin .Add (.var 4) (.lst [.lst [.int 1, .int 28, .int 31, .int 26, .int 12], .int 28, .lst [.bi .tuple [.str "acegik"], .bi .tuple [.str "acegil"]], .lst [.tup [.str "l"]]])),
  .asgO 9 (.callN 45 [.var 0, .int 2]),
  .app 9 (.str "more"),
  .asg 10 (.call 26 [.var 0]),
  .asg 2 (.bin .Add (.var 2) (.lst [.call 49 [.var 0, .int 2], .callK 45 [1, 0] [] [.int 2, .var 10], .callK 44 [1, 0] [] [.int 2, .var 10]])),
  .asg 2 (.bin .Add (.var 2) (.lst [.var 10, .call 45 [.tup [.lst [.str "a", .int 0], .tup [.str "b", .int 2]], .int 2]])),
  .ret (.call 10 [.var 2, .bin .Add (.var 4) (.lst [.lst [.get (.var 4) (.int 2), .int 3], .get (.var 4) (.int 2), .int 3, .call 26 [.var 0], .lst [.tup [.str "a"], .tup [.str "b"]]])])]
structure C50 (B : Tb) : Prop where
  own : Is B 50 b50_hand_right false 0 11
  c10 : C10 B
  c26 : C26 B
  c31 : C31 B
  c44 : C44 B
  c45 : C45 B
  c49 : C49 B
def b51_case_right : List S := [
  .par [(1, false), (2, false)] [.callT 11 0 [.int 7, .int 12], .callT 7 0 [.int 5]],
  .asg 3 (.call 48 [.var 1, .var 2]),
  .ret (.call 10 [.lst [.call 49 [.var 1, .var 2], .call 49 [.call 26 [.var 1], .var 2]], .bin .Mult (.lst [.lst [.var 3, .bi .len [.var 3]]]) (.int 2)])]
structure C51 (B : Tb) : Prop where
  own : Is B 51 b51_case_right true 1 4
  c7 : C7 B
  c10 : C10 B
  c11 : C11 B
  c26 : C26 B
  c48 : C48 B
  c49 : C49 B
def b52_right : List S := [
  .ret (.bi .all [.comp (.callT 51 0 []) (.nm 1) .range [.int 10] .absent])]
structure C52 (B : Tb) : Prop where
  own : Is B 52 b52_right true 1 2
  c51 : C51 B
def b53_law : List S := [
  .ite (.not (.call 50 [])) [.ret (.bl false)] [],
  .asg 1 (.call 8 [.var 0, .int 3]),
  .ret (.bi .all [.comp (.callR 52 (.callN 46 [.var 1, .var 2]) []) (.nm 2) .range [.bi .len [.var 1]] .absent])]
structure C53 (B : Tb) : Prop where
  own : Is B 53 b53_law false 1 3
  c8 : C8 B
  c46 : C46 B
  c50 : C50 B
  c52 : C52 B
def b54_by_number : List S := [
  .ret (.bi .tuple [.comp (.var 2) (.tup [1, 2]) .ex [.bi .sorted [.comp (.tup [.var 1, .var 2]) (.tup [2, 1]) .ex [.call 18 [.var 0]] .absent]] .absent])]
structure C54 (B : Tb) : Prop where
  own : Is B 54 b54_by_number false 1 3
  c18 : C18 B
def b55_row_from_below : List S := [
  .par [(2, false), (3, true)] [.call 20 [.var 0, .var 1], .lst []],
  .loop (.nm 4) .ex [.call 54 [.var 0]] [.ite (.or (.cmp .Eq (.bi .len [.peek 3]) (.int 0)) (.cmp .NotIn (.var 4) (.get (.var 2) (.get (.peek 3) (.neg (.int 1)))))) [.app 3 (.var 4)] []],
  .frz 3,
  .ret (.var 3)]
structure C55 (B : Tb) : Prop where
  own : Is B 55 b55_row_from_below false 2 5
  c20 : C20 B
  c54 : C54 B
def b56_most_from_below : List S := [
  .ret (.call 36 [.call 55 [.var 0, .var 1]])]
structure C56 (B : Tb) : Prop where
  own : Is B 56 b56_most_from_below false 2 2
  c36 : C36 B
  c55 : C55 B
def b57_most_kept : List S := [
  .ret (.bi .len [.call 55 [.var 0, .var 1]])]
structure C57 (B : Tb) : Prop where
  own : Is B 57 b57_most_kept false 2 2
  c55 : C55 B
def b58_order_first : List S := [
  .ret (.tup [.star (.var 1), .star (.comp (.var 2) (.nm 2) .ex [.call 37 [.var 0]] (.cmp .NotIn (.var 2) (.var 1)))])]
structure C58 (B : Tb) : Prop where
  own : Is B 58 b58_order_first false 2 3
  c37 : C37 B
def b59_most_order : List S := [
  .ret (.call 58 [.var 0, .call 56 [.var 0, .var 1]])]
structure C59 (B : Tb) : Prop where
  own : Is B 59 b59_most_order false 2 2
  c56 : C56 B
  c58 : C58 B
def b60_box : List S := [
  .asg 2 (.ite (.cmp .Lt (.var 1) (.bi .len [.var 0])) (.get (.var 0) (.var 1)) (.int 0)),
  .ret (.lst [.bin .Mult (.bi .abs [.var 2]) (.bi .int [.cmp .GtE (.bi .abs [.var 2]) (.bin .Pow (.int 10) (.int 18))]), .bin .Add (.bin .Add (.bin .Mod (.bi .int [.var 2]) (.int 2305843009213693951)) (.bin .Mult (.int 39373) (.var 1))) (.int 1935), .int 0])]
structure C60 (B : Tb) : Prop where
  own : Is B 60 b60_box false 2 3
def b61_wide : List S := [
  .ite (.cmp .Gt (.callT 7 0 [.int 4]) (.int 0)) [.ret (.tup [.var 1, .var 2])] [],
  .ret (.tup [.bi .tuple [.comp (.tup [.var 3, .bin .Add (.bin .Mult (.bin .Sub (.var 4) (.int 5)) (.bin .Pow (.int 10) (.int 38))) (.int 7)]) (.tup [3, 4]) .ex [.var 1] .absent], .bin .Sub (.bin .Add (.bin .Mult (.var 2) (.bin .Pow (.int 10) (.int 38))) (.bin .Pow (.int 10) (.int 38))) (.int 1)])]
structure C61 (B : Tb) : Prop where
  own : Is B 61 b61_wide true 3 5
  c7 : C7 B
def b62_way : List S := [
  .ret (.comp (.get (.var 1) (.int 1)) (.nm 1) .ex [.bi .sorted [.comp (.tup [.var 3, .var 2]) (.tup [2, 3]) .ex [.var 0] .absent]] .absent)]
structure C62 (B : Tb) : Prop where
  own : Is B 62 b62_way false 1 4
def b63_hand : List S := [
  .asg 0 (.tup [.tup [.str "a", .int 0], .tup [.str "b", .int 1], .tup [.str "c", .int 3], .tup [.str "d", .int 4], .tup [.str "e", .int 6]]),
  .asg 1 (.tup [.tup [.str "a", .int 5], .tup [.str "b", .neg (.int 2)], .tup [.str "c", .int 5], .tup [.str "d", .int 5], .tup [.str "e", .neg (.int 2)]]),
  .ret (.tup [.var 0, .var 1, .bi .tuple [.comp (.tup [.var 3, .var 2]) (.tup [2, 3]) .enum [.str "abcdefghijkl"] .absent]])]
structure C63 (B : Tb) : Prop where
  own : Is B 63 b63_hand false 0 4
def b64_below : List S := [
  .par [(2, false), (3, true)] [.bi .dict [.var 0], .lst []],
  .loop (.nm 4) .ex [.call 62 [.var 0]] [.ite (.or (.cmp .Eq (.peek 3) (.lst [])) (.cmp .Gt (.bin .Sub (.get (.var 2) (.var 4)) (.get (.var 2) (.get (.peek 3) (.neg (.int 1))))) (.var 1))) [.app 3 (.var 4)] []],
  .ret (.bi .tuple [.bi .sorted [.peek 3]])]
structure C64 (B : Tb) : Prop where
  own : Is B 64 b64_below false 2 5
  c62 : C62 B
def b65_order_right : List S := [
  .loop (.nm 3) .ex [.tup [.var 0, .call 26 [.var 0]]] [.asg 4 (.call 59 [.var 3, .var 1]), .ite (.or (.not (.isi (.var 4) ["tuple"] false)) (.cmp .NotEq (.bi .sorted [.var 4]) (.comp (.get (.var 5) (.int 0)) (.nm 5) .ex [.var 0] .absent))) [.ret (.bl false)] [], .ite (.cmp .NotEq (.bi .len [.call 28 [.var 0, .var 1, .var 4]]) (.var 2)) [.ret (.bl false)] []],
  .ret (.bl true)]
structure C65 (B : Tb) : Prop where
  own : Is B 65 b65_order_right false 3 6
  c26 : C26 B
  c28 : C28 B
  c59 : C59 B
def b66_by_hand_right : List S := [
  .unp [0, 1, 2] (.call 63 []),
  .asg 3 (.bin .Pow (.int 10) (.int 40)),
  .asgO 4 (.lst [.comp (.call 57 [.var 0, .var 5]) (.nm 5) .ex [.tup [.int 0, .int 1, .int 2, .int 3, .int 5, .int 6, .var 3]] .absent]),
  .app 4 (.comp (.call 56 [.var 0, .var 5]) (.nm 5) .ex [.tup [.int 0, .int 1, .int 2, .int 3, .int 5, .int 6]] .absent),
  .asgO 6 (.lst [.lst [.int 5, .int 3, .int 3, .int 2, .int 2, .int 1, .int 1]]),
  .app 6 (.lst [.bi .tuple [.str "abcde"], .tup [.str "a", .str "c", .str "e"], .tup [.str "a", .str "c", .str "e"], .tup [.str "a", .str "d"], .tup [.str "a", .str "e"], .tup [.str "a"]]),
  .asgO 4 (.bin .Add (.peek 4) (.lst [.comp (.call 57 [.var 1, .var 5]) (.nm 5) .ex [.tup [.int 0, .int 6, .int 7]] .absent, .comp (.call 56 [.var 1, .var 5]) (.nm 5) .ex [.tup [.int 0, .int 6, .int 7]] .absent])),
  .asgO 6 (.bin .Add (.peek 6) (.lst [.lst [.int 2, .int 2, .int 1], .lst [.tup [.str "a", .str "b"], .tup [.str "a", .str "b"], .tup [.str "b"]]])),
  .asgO 4 (.bin .Add (.peek 4) (.lst [.comp (.call 57 [.var 2, .var 5]) (.nm 5) .ex [.tup [.int 0, .int 1, .int 2, .int 3, .int 5, .int 10, .int 11]] .absent])),
  .asgO 4 (.bin .Add (.peek 4) (.lst [.call 56 [.var 2, .int 1], .call 56 [.var 2, .int 2], .call 56 [.var 2, .int 10]])),
  .asgO 6 (.bin .Add (.peek 6) (.lst [.lst [.int 12, .int 6, .int 4, .int 3, .int 2, .int 2, .int 1], .bi .tuple [.str "acegik"], .bi .tuple [.str "adgj"], .tup [.str "a", .str "l"]])),
  .asg 7 (.tup [.tup [.str "a", .var 3], .tup [.str "b", .bin .Sub (.int 0) (.var 3)], .tup [.str "c", .int 0]]),
  .asgO 4 (.bin .Add (.peek 4) (.lst [.comp (.call 57 [.var 7, .var 5]) (.nm 5) .ex [.tup [.int 0, .bin .Sub (.var 3) (.int 1), .var 3]] .absent, .call 56 [.var 7, .var 3]])),
  .asgO 6 (.bin .Add (.peek 6) (.lst [.lst [.int 3, .int 3, .int 2], .tup [.str "a", .str "b"]])),
  .asgO 4 (.bin .Add (.peek 4) (.lst [.call 57 [.tup [], .int 0], .call 56 [.tup [], .var 3], .call 59 [.tup [], .int 3], .call 57 [.tup [.tup [.str "z", .neg (.int 7)]], .int 0]])),
  .asgO 6 (.bin .Add (.peek 6) (.lst [.int 0, .tup [], .tup [], .int 1])),
  .asgO 4 (.bin .Add (.peek 4) (.lst [.callK 57 [1, 0] [] [.int 2, .call 26 [.var 0]], .callK 56 [1, 0] [] [.int 1, .call 26 [.var 2]]])),
  .asgO 4 (.bin .Add (.peek 4) (.lst [.call 57 [.tup [.lst [.str "a", .int 0], .tup [.str "b", .int 1]], .int 1], .call 56 [.tup [.lst [.str "a", .int 0], .tup [.str "b", .int 2]], .int 1]])),
  .asgO 6 (.bin .Add (.peek 6) (.lst [.int 3, .bi .tuple [.str "acegik"], .int 1, .tup [.str "a", .str "b"]])),
  .frz 4,
  .frz 6,
  .ite (.not (.call 10 [.var 4, .var 6])) [.ret (.bl false)] [],
  .asg 8 (.callK 59 [1, 0] [] [.int 2, .call 26 [.var 0]]),
  .ite (.cmp .NotEq (.bi .len [.call 28 [.var 0, .int 2, .var 8]]) (.int 3)) [.ret (.bl false)] [],
  .asg 9 (.lst [.tup [.var 0, .int 2, .int 3], .tup [.var 0, .int 3, .int 2], .tup [.var 1, .int 0, .int 2], .tup [.var 2, .int 1, .int 6], .tup [.var 2, .int 3, .int 3], .tup [.var 7, .var 3, .int 2]]),
  .ret (.bi .all [.comp (.call 65 [.get (.var 10) (.int 0), .get (.var 10) (.int 1), .get (.var 10) (.int 2)]) (.nm 10) .ex [.var 9] .absent])]
structure C66 (B : Tb) : Prop where
  own : Is B 66 b66_by_hand_right false 0 11
  c10 : C10 B
  c26 : C26 B
  c28 : C28 B
  c56 : C56 B
  c57 : C57 B
  c59 : C59 B
  c63 : C63 B
  c65 : C65 B
def b67_right : List S := [
  .loop (.nm 1) .range [.int 12] [.unp [2, 3] (.callT 61 0 [.callT 11 0 [.int 7, .int 13], .callT 7 0 [.int 6]]), .asg 4 (.bi .max [.comp (.bi .len [.var 5]) (.nm 5) .ex [.call 48 [.var 2, .var 3]] .absent]), .asg 6 (.lst [.call 57 [.var 2, .var 3], .call 57 [.call 26 [.var 2], .var 3]]), .asg 6 (.bin .Add (.var 6) (.lst [.call 56 [.var 2, .var 3], .call 56 [.call 26 [.var 2], .var 3]])), .ite (.not (.call 10 [.var 6, .bin .Add (.bin .Mult (.lst [.var 4]) (.int 2)) (.bin .Mult (.lst [.call 64 [.var 2, .var 3]]) (.int 2))])) [.ret (.bl false)] [], .ite (.or (.cmp .NotEq (.bi .len [.get (.var 6) (.int 2)]) (.var 4)) (.not (.call 65 [.var 2, .var 3, .var 4]))) [.ret (.bl false)] []],
  .ret (.bl true)]
structure C67 (B : Tb) : Prop where
  own : Is B 67 b67_right true 1 7
  c7 : C7 B
  c10 : C10 B
  c11 : C11 B
  c26 : C26 B
  c48 : C48 B
  c56 : C56 B
  c57 : C57 B
  c61 : C61 B
  c64 : C64 B
  c65 : C65 B
def b68_law : List S := [
  .ite (.not (.call 66 [])) [.ret (.bl false)] [],
  .asg 1 (.call 8 [.var 0, .int 2]),
  .ret (.bi .all [.comp (.callR 67 (.callN 60 [.var 1, .var 2]) []) (.nm 2) .range [.bi .len [.var 1]] .absent])]
structure C68 (B : Tb) : Prop where
  own : Is B 68 b68_law false 1 3
  c8 : C8 B
  c60 : C60 B
  c66 : C66 B
  c67 : C67 B
def b69_are_kept : List S := [
  .ret (.bi .all [.comp (.cmp .NotEq (.cmp .In (.var 2) (.var 1)) (.bi .any [.comp (.cmp .In (.var 3) (.get (.var 0) (.var 2))) (.nm 3) .ex [.var 1] .absent])) (.nm 2) .ex [.var 0] .absent])]
structure C69 (B : Tb) : Prop where
  own : Is B 69 b69_are_kept false 2 4
def b70_is_kept_set : List S := [
  .ite (.or (.not (.call 19 [.var 2])) (.not (.bi .all [.comp (.cmp .In (.var 3) (.call 37 [.var 0])) (.nm 3) .ex [.var 2] .absent]))) [.ret (.bl false)] [],
  .ret (.call 69 [.call 20 [.var 0, .var 1], .var 2])]
structure C70 (B : Tb) : Prop where
  own : Is B 70 b70_is_kept_set false 3 4
  c19 : C19 B
  c20 : C20 B
  c37 : C37 B
  c69 : C69 B
def b71_with_next : List S := [
  .loop (.nm 3) .ex [.var 0] [.ite (.and (.cmp .NotIn (.var 3) (.var 2)) (.not (.bi .any [.comp (.cmp .In (.var 4) (.get (.var 1) (.var 3))) (.nm 4) .ex [.var 2] .absent]))) [.ret (.comp (.tup [.star (.var 2), .var 4]) (.nm 4) .ex [.tup [.var 3, .star (.get (.var 1) (.var 3))]] (.not (.bi .any [.comp (.cmp .In (.var 5) (.get (.var 1) (.var 4))) (.nm 5) .ex [.var 2] .absent])))] []],
  .ret (.lst [])]
structure C71 (B : Tb) : Prop where
  own : Is B 71 b71_with_next false 3 6
def b72_all_kept_sets : List S := [
  .par [(2, false), (3, false), (4, false), (5, true)] [.call 54 [.var 0], .call 20 [.var 0, .var 1], .lst [.tup []], .lst []],
  .while 100000 (.cmp .Gt (.bi .len [.var 4]) (.int 0)) [.asgO 6 (.lst []), .loop (.nm 7) .ex [.var 4] [.asg 8 (.call 71 [.var 2, .var 3, .var 7]), .extd 6 (.var 8), .ite (.cmp .Eq (.bi .len [.var 8]) (.int 0)) [.app 5 (.call 36 [.var 7])] []], .frz 6, .asg 4 (.var 6)],
  .ret (.bi .sorted [.peek 5])]
structure C72 (B : Tb) : Prop where
  own : Is B 72 b72_all_kept_sets false 2 9
  c20 : C20 B
  c36 : C36 B
  c54 : C54 B
  c71 : C71 B
def b73_is_most : List S := [
  .ret (.and (.call 70 [.var 0, .var 1, .var 2]) (.cmp .Eq (.bi .len [.var 2]) (.call 57 [.var 0, .var 1])))]
structure C73 (B : Tb) : Prop where
  own : Is B 73 b73_is_most false 3 3
  c57 : C57 B
  c70 : C70 B
def b74_all_most : List S := [
  .ret (.comp (.var 2) (.nm 2) .ex [.call 72 [.var 0, .var 1]] (.cmp .Eq (.bi .len [.var 2]) (.call 57 [.var 0, .var 1])))]
structure C74 (B : Tb) : Prop where
  own : Is B 74 b74_all_most false 2 3
  c57 : C57 B
  c72 : C72 B
def b75_least_most : List S := [
  .ret (.get (.call 74 [.var 0, .var 1]) (.int 0))]
structure C75 (B : Tb) : Prop where
  own : Is B 75 b75_least_most false 2 2
  c74 : C74 B
def b76_how_many_most : List S := [
  .ret (.bi .len [.call 74 [.var 0, .var 1]])]
structure C76 (B : Tb) : Prop where
  own : Is B 76 b76_how_many_most false 2 2
  c74 : C74 B
def b77_in_all : List S := [
  .ret (.bi .tuple [.comp (.var 2) (.nm 2) .ex [.call 37 [.var 0]] (.bi .all [.comp (.cmp .In (.var 2) (.var 3)) (.nm 3) .ex [.var 1] .absent])])]
structure C77 (B : Tb) : Prop where
  own : Is B 77 b77_in_all false 2 4
  c37 : C37 B
def b78_in_some : List S := [
  .ret (.bi .tuple [.comp (.var 2) (.nm 2) .ex [.call 37 [.var 0]] (.bi .any [.comp (.cmp .In (.var 2) (.var 3)) (.nm 3) .ex [.var 1] .absent])])]
structure C78 (B : Tb) : Prop where
  own : Is B 78 b78_in_some false 2 4
  c37 : C37 B
def b79_in_all_most : List S := [
  .ret (.call 77 [.var 0, .call 74 [.var 0, .var 1]])]
structure C79 (B : Tb) : Prop where
  own : Is B 79 b79_in_all_most false 2 2
  c74 : C74 B
  c77 : C77 B
def b80_in_some_most : List S := [
  .ret (.call 78 [.var 0, .call 74 [.var 0, .var 1]])]
structure C80 (B : Tb) : Prop where
  own : Is B 80 b80_in_some_most false 2 2
  c74 : C74 B
  c78 : C78 B
def b81_most_with : List S := [
  .expr (.call 38 [.var 0, .tup [.var 2]]),
  .ret (.bi .max [.comp (.bi .len [.var 3]) (.nm 3) .ex [.call 72 [.var 0, .var 1]] (.cmp .In (.var 2) (.var 3))])]
structure C81 (B : Tb) : Prop where
  own : Is B 81 b81_most_with false 3 4
  c38 : C38 B
  c72 : C72 B
def b82_stretches : List S := [
  .asg 2 (.bi .dict [.call 18 [.var 0]]),
  .ret (.bi .tuple [.comp (.tup [.get (.var 2) (.var 3), .bin .Add (.get (.var 2) (.var 3)) (.var 1)]) (.nm 3) .ex [.call 55 [.var 0, .var 1]] .absent])]
structure C82 (B : Tb) : Prop where
  own : Is B 82 b82_stretches false 2 4
  c18 : C18 B
  c55 : C55 B
def b83_is_stretch : List S := [
  .ite (.or (.not (.isi (.var 1) ["tuple"] false)) (.or (.cmp .NotEq (.bi .len [.var 1]) (.int 2)) (.not (.bi .all [.comp (.call 1 [.var 2]) (.nm 2) .ex [.var 1] .absent])))) [.ret (.bl false)] [],
  .ret (.cmp .Eq (.bin .Sub (.get (.var 1) (.int 1)) (.get (.var 1) (.int 0))) (.var 0))]
structure C83 (B : Tb) : Prop where
  own : Is B 83 b83_is_stretch false 2 3
  c1 : C1 B
def b84_is_cover : List S := [
  .ite (.or (.not (.isi (.var 2) ["tuple"] false)) (.or (.not (.bi .all [.comp (.call 83 [.var 1, .var 3]) (.nm 3) .ex [.var 2] .absent])) (.not (.call 3 [.var 2])))) [.ret (.bl false)] [],
  .ret (.bi .all [.comp (.bi .any [.comp (.chain .LtE .LtE (.var 6) (.var 5) (.var 7)) (.tup [6, 7]) .ex [.var 2] .absent]) (.tup [4, 5]) .ex [.call 18 [.var 0]] .absent])]
structure C84 (B : Tb) : Prop where
  own : Is B 84 b84_is_cover false 3 8
  c3 : C3 B
  c18 : C18 B
  c83 : C83 B
def b85_span_marks : List S := [
  .asg 1 (.comp (.var 3) (.tup [2, 3]) .ex [.call 18 [.var 0]] .absent),
  .ret (.call 36 [.lst [.int 0, .star (.comp2 (.bi .abs [.bin .Sub (.var 4) (.var 5)]) (.nm 4) .ex [.var 1] .absent (.nm 5) .ex [.var 1] .absent)]])]
structure C85 (B : Tb) : Prop where
  own : Is B 85 b85_span_marks false 1 6
  c18 : C18 B
  c36 : C36 B
def b86_spans_at : List S := [
  .asg 3 (.comp (.var 4) (.tup [4, 5]) .enum [.var 1] (.cmp .Eq (.var 5) (.var 2))),
  .ite (.cmp .Eq (.bi .len [.var 3]) (.int 0)) [.ret .non] [],
  .asg 6 (.bin .Add (.get (.var 3) (.neg (.int 1))) (.int 1)),
  .ret (.tup [.get (.var 0) (.get (.var 3) (.int 0)), .ite (.cmp .Lt (.var 6) (.bi .len [.var 0])) (.bin .Sub (.get (.var 0) (.var 6)) (.int 1)) .non])]
structure C86 (B : Tb) : Prop where
  own : Is B 86 b86_spans_at false 3 7
def b87_spans_most : List S := [
  .asg 2 (.call 85 [.var 0]),
  .ret (.call 86 [.var 2, .comp (.call 57 [.var 0, .var 3]) (.nm 3) .ex [.var 2] .absent, .var 1])]
structure C87 (B : Tb) : Prop where
  own : Is B 87 b87_spans_most false 2 4
  c57 : C57 B
  c85 : C85 B
  c86 : C86 B
def b88_ask_pairs : List S := [
  .par [(2, false), (3, false), (4, true)] [.call 54 [.var 0], .call 20 [.var 0, .var 1], .lst []],
  .loop (.nm 5) .ex [.var 2] [.ite (.not (.bi .any [.comp (.or (.cmp .Eq (.var 7) (.var 5)) (.cmp .In (.var 7) (.get (.var 3) (.var 5)))) (.tup [6, 7]) .ex [.peek 4] .absent])) [.app 4 (.tup [.var 5, .get (.comp (.var 7) (.nm 7) .ex [.var 2] (.or (.cmp .Eq (.var 7) (.var 5)) (.cmp .In (.var 7) (.get (.var 3) (.var 5))))) (.neg (.int 1))])] []],
  .frz 4,
  .ret (.var 4)]
structure C88 (B : Tb) : Prop where
  own : Is B 88 b88_ask_pairs false 2 8
  c20 : C20 B
  c54 : C54 B
def b89_taken : List S := [
  .ret (.call 36 [.comp (.var 3) (.tup [2, 3]) .ex [.call 88 [.var 0, .var 1]] .absent])]
structure C89 (B : Tb) : Prop where
  own : Is B 89 b89_taken false 2 4
  c36 : C36 B
  c88 : C88 B
def b90_asking : List S := [
  .ret (.call 36 [.comp (.var 2) (.tup [2, 3]) .ex [.call 88 [.var 0, .var 1]] .absent])]
structure C90 (B : Tb) : Prop where
  own : Is B 90 b90_asking false 2 4
  c36 : C36 B
  c88 : C88 B
def b91_fewest_kept : List S := [
  .ret (.bi .len [.call 88 [.var 0, .var 1]])]
structure C91 (B : Tb) : Prop where
  own : Is B 91 b91_fewest_kept false 2 2
  c88 : C88 B
def b92_fewest_order : List S := [
  .ret (.call 58 [.var 0, .call 89 [.var 0, .var 1]])]
structure C92 (B : Tb) : Prop where
  own : Is B 92 b92_fewest_order false 2 2
  c58 : C58 B
  c89 : C89 B
def b93_is_fewest : List S := [
  .ret (.and (.call 70 [.var 0, .var 1, .var 2]) (.cmp .Eq (.bi .len [.var 2]) (.call 91 [.var 0, .var 1])))]
structure C93 (B : Tb) : Prop where
  own : Is B 93 b93_is_fewest false 3 3
  c70 : C70 B
  c91 : C91 B
def b94_all_fewest : List S := [
  .ret (.comp (.var 2) (.nm 2) .ex [.call 72 [.var 0, .var 1]] (.cmp .Eq (.bi .len [.var 2]) (.call 91 [.var 0, .var 1])))]
structure C94 (B : Tb) : Prop where
  own : Is B 94 b94_all_fewest false 2 3
  c72 : C72 B
  c91 : C91 B
def b95_least_fewest : List S := [
  .ret (.get (.call 94 [.var 0, .var 1]) (.int 0))]
structure C95 (B : Tb) : Prop where
  own : Is B 95 b95_least_fewest false 2 2
  c94 : C94 B
def b96_how_many_fewest : List S := [
  .ret (.bi .len [.call 94 [.var 0, .var 1]])]
structure C96 (B : Tb) : Prop where
  own : Is B 96 b96_how_many_fewest false 2 2
  c94 : C94 B
def b97_in_all_fewest : List S := [
  .ret (.call 77 [.var 0, .call 94 [.var 0, .var 1]])]
structure C97 (B : Tb) : Prop where
  own : Is B 97 b97_in_all_fewest false 2 2
  c77 : C77 B
  c94 : C94 B
def b98_in_some_fewest : List S := [
  .ret (.call 78 [.var 0, .call 94 [.var 0, .var 1]])]
structure C98 (B : Tb) : Prop where
  own : Is B 98 b98_in_some_fewest false 2 2
  c78 : C78 B
  c94 : C94 B
def b99_fewest_with : List S := [
  .expr (.call 38 [.var 0, .tup [.var 2]]),
  .ret (.bi .min [.comp (.bi .len [.var 3]) (.nm 3) .ex [.call 72 [.var 0, .var 1]] (.cmp .In (.var 2) (.var 3))])]
structure C99 (B : Tb) : Prop where
  own : Is B 99 b99_fewest_with false 3 4
  c38 : C38 B
  c72 : C72 B
def b100_are_apart : List S := [
  .ret (.and (.cmp .NotIn (.var 2) (.get (.var 0) (.var 1))) (.not (.bi .any [.comp (.cmp .In (.var 3) (.get (.var 0) (.var 2))) (.nm 3) .ex [.get (.var 0) (.var 1)] .absent])))]
structure C100 (B : Tb) : Prop where
  own : Is B 100 b100_are_apart false 3 4
def b101_is_asking : List S := [
  .ite (.or (.not (.call 19 [.var 2])) (.not (.bi .all [.comp (.cmp .In (.var 3) (.call 37 [.var 0])) (.nm 3) .ex [.var 2] .absent]))) [.ret (.bl false)] [],
  .asg 4 (.call 20 [.var 0, .var 1]),
  .asg 5 (.bi .all [.comp2 (.or (.cmp .Eq (.var 6) (.var 7)) (.call 100 [.var 4, .var 6, .var 7])) (.nm 6) .ex [.var 2] .absent (.nm 7) .ex [.var 2] .absent]),
  .ret (.and (.var 5) (.cmp .Eq (.bi .len [.var 2]) (.call 91 [.var 0, .var 1])))]
structure C101 (B : Tb) : Prop where
  own : Is B 101 b101_is_asking false 3 8
  c19 : C19 B
  c20 : C20 B
  c37 : C37 B
  c91 : C91 B
  c100 : C100 B
def b102_kept_of : List S := [
  .asg 3 (.comp (.var 4) (.nm 4) .ex [.call 72 [.var 0, .var 1]] (.cmp .Eq (.bi .len [.var 4]) (.var 2))),
  .ret (.ite (.cmp .Gt (.bi .len [.var 3]) (.int 0)) (.get (.var 3) (.int 0)) .non)]
structure C102 (B : Tb) : Prop where
  own : Is B 102 b102_kept_of false 3 5
  c72 : C72 B
def b103_spans_fewest : List S := [
  .asg 2 (.call 85 [.var 0]),
  .ret (.call 86 [.var 2, .comp (.call 91 [.var 0, .var 3]) (.nm 3) .ex [.var 2] .absent, .var 1])]
structure C103 (B : Tb) : Prop where
  own : Is B 103 b103_spans_fewest false 2 4
  c85 : C85 B
  c86 : C86 B
  c91 : C91 B
def b104_box : List S := [
  .asg 2 (.ite (.cmp .Lt (.var 1) (.bi .len [.var 0])) (.get (.var 0) (.var 1)) (.int 0)),
  .ret (.lst [.bin .Mult (.bi .abs [.var 2]) (.bi .int [.cmp .GtE (.bi .abs [.var 2]) (.bin .Pow (.int 10) (.int 18))]), .bin .Add (.bin .Add (.bin .Mod (.bi .int [.var 2]) (.int 2305843009213693951)) (.bin .Mult (.int 39373) (.var 1))) (.int 1015), .int 0])]
structure C104 (B : Tb) : Prop where
  own : Is B 104 b104_box false 2 3
def b105_covers : List S := [
  .loop (.nm 3) .ex [.var 2] [.ite (.cmp .NotEq (.bin .Sub (.get (.var 3) (.int 1)) (.get (.var 3) (.int 0))) (.var 1)) [.ret (.bl false)] []],
  .ret (.cmp .Eq (.comp (.var 3) (.nm 3) .ex [.var 0] (.cmp .Eq (.comp (.var 4) (.nm 4) .ex [.var 2] (.chain .LtE .LtE (.get (.var 4) (.int 0)) (.get (.var 3) (.int 1)) (.get (.var 4) (.int 1)))) (.lst []))) (.lst []))]
structure C105 (B : Tb) : Prop where
  own : Is B 105 b105_covers false 3 5
def b106_most_right : List S := [
  .par [(3, false), (4, false)] [.bi .max [.comp (.bi .len [.var 5]) (.nm 5) .ex [.var 2] .absent], .comp (.get (.var 5) (.int 0)) (.nm 5) .ex [.var 0] .absent],
  .par [(6, false), (7, false)] [.comp (.var 5) (.nm 5) .ex [.var 2] (.cmp .Eq (.bi .len [.var 5]) (.var 3)), .call 82 [.var 0, .var 1]],
  .asgO 8 (.lst [.call 57 [.var 0, .var 1], .bi .len [.call 56 [.var 0, .var 1]]]),
  .asgO 8 (.bin .Add (.peek 8) (.lst [.comp (.call 73 [.var 0, .var 1, .var 5]) (.nm 5) .ex [.var 2] .absent, .call 75 [.var 0, .var 1]])),
  .asgO 9 (.lst [.var 3, .var 3, .comp (.cmp .In (.var 5) (.var 6)) (.nm 5) .ex [.var 2] .absent, .get (.var 6) (.int 0)]),
  .asgO 8 (.bin .Add (.peek 8) (.lst [.call 76 [.var 0, .var 1], .bi .list [.call 79 [.var 0, .var 1]]])),
  .app 8 (.bi .list [.call 80 [.var 0, .var 1]]),
  .asgO 9 (.bin .Add (.peek 9) (.lst [.bi .len [.var 6], .comp (.var 10) (.nm 10) .ex [.var 4] (.cmp .Eq (.comp (.var 5) (.nm 5) .ex [.var 6] (.cmp .NotIn (.var 10) (.var 5))) (.lst []))])),
  .app 9 (.comp (.var 10) (.nm 10) .ex [.var 4] (.cmp .NotEq (.comp (.var 5) (.nm 5) .ex [.var 6] (.cmp .In (.var 10) (.var 5))) (.lst []))),
  .asgO 8 (.bin .Add (.peek 8) (.lst [.comp (.call 81 [.var 0, .var 1, .var 10]) (.nm 10) .ex [.var 4] .absent, .bi .len [.var 7]])),
  .asgO 8 (.bin .Add (.peek 8) (.lst [.call 84 [.var 0, .var 1, .var 7], .call 105 [.var 0, .var 1, .var 7]])),
  .asgO 9 (.bin .Add (.peek 9) (.lst [.comp (.bi .max [.comp (.bi .len [.var 5]) (.nm 5) .ex [.var 2] (.cmp .In (.var 10) (.var 5))]) (.nm 10) .ex [.var 4] .absent, .var 3, .bl true, .bl true])),
  .app 8 (.cmp .In (.call 56 [.var 0, .var 1]) (.var 6)),
  .app 8 (.bi .len [.call 28 [.var 0, .var 1, .call 59 [.var 0, .var 1]]]),
  .frz 8,
  .ret (.call 10 [.var 8, .bin .Add (.peek 9) (.lst [.bl true, .var 3])])]
structure C106 (B : Tb) : Prop where
  own : Is B 106 b106_most_right false 3 11
  c10 : C10 B
  c28 : C28 B
  c56 : C56 B
  c57 : C57 B
  c59 : C59 B
  c73 : C73 B
  c75 : C75 B
  c76 : C76 B
  c79 : C79 B
  c80 : C80 B
  c81 : C81 B
  c82 : C82 B
  c84 : C84 B
  c105 : C105 B
def b107_few_right : List S := [
  .par [(3, false), (4, false), (5, false)] [.bi .min [.comp (.bi .len [.var 6]) (.nm 6) .ex [.var 2] .absent], .comp (.get (.var 6) (.int 0)) (.nm 6) .ex [.var 0] .absent, .call 27 [.var 0, .var 1]],
  .par [(7, false), (8, false)] [.comp (.var 6) (.nm 6) .ex [.var 2] (.cmp .Eq (.bi .len [.var 6]) (.var 3)), .call 90 [.var 0, .var 1]],
  .asgO 9 (.lst [.call 91 [.var 0, .var 1], .comp (.call 93 [.var 0, .var 1, .var 6]) (.nm 6) .ex [.var 2] .absent]),
  .asgO 9 (.bin .Add (.peek 9) (.lst [.call 95 [.var 0, .var 1], .call 96 [.var 0, .var 1]])),
  .asgO 10 (.lst [.var 3, .comp (.cmp .In (.var 6) (.var 7)) (.nm 6) .ex [.var 2] .absent, .get (.var 7) (.int 0), .bi .len [.var 7]]),
  .asgO 9 (.bin .Add (.peek 9) (.lst [.bi .list [.call 97 [.var 0, .var 1]], .bi .list [.call 98 [.var 0, .var 1]]])),
  .app 9 (.comp (.call 99 [.var 0, .var 1, .var 11]) (.nm 11) .ex [.var 4] .absent),
  .app 10 (.comp (.var 11) (.nm 11) .ex [.var 4] (.cmp .Eq (.comp (.var 6) (.nm 6) .ex [.var 7] (.cmp .NotIn (.var 11) (.var 6))) (.lst []))),
  .app 10 (.comp (.var 11) (.nm 11) .ex [.var 4] (.cmp .NotEq (.comp (.var 6) (.nm 6) .ex [.var 7] (.cmp .In (.var 11) (.var 6))) (.lst []))),
  .app 10 (.comp (.bi .min [.comp (.bi .len [.var 6]) (.nm 6) .ex [.var 2] (.cmp .In (.var 11) (.var 6))]) (.nm 11) .ex [.var 4] .absent),
  .asgO 9 (.bin .Add (.peek 9) (.lst [.cmp .In (.call 89 [.var 0, .var 1]) (.var 7), .bi .len [.var 8], .call 101 [.var 0, .var 1, .var 8]])),
  .app 9 (.bi .len [.call 28 [.var 0, .var 1, .call 92 [.var 0, .var 1]]]),
  .asgO 10 (.bin .Add (.peek 10) (.lst [.bl true, .var 3, .bl true, .var 3])),
  .asg 12 (.lst []),
  .loop (.nm 11) .ex [.var 8] [.loop (.nm 6) .ex [.var 8] [.asg 13 (.comp (.var 14) (.nm 14) .ex [.get (.var 5) (.var 11)] (.cmp .In (.var 14) (.get (.var 5) (.var 6)))), .asg 12 (.bin .Add (.var 12) (.bin .Mult (.lst [.var 11]) (.bi .int [.and (.cmp .NotEq (.var 11) (.var 6)) (.or (.cmp .In (.var 6) (.get (.var 5) (.var 11))) (.cmp .NotEq (.var 13) (.lst [])))])))]],
  .asg 15 (.bi .max [.comp (.bi .len [.var 6]) (.nm 6) .ex [.var 2] .absent]),
  .loop (.nm 16) .range [.neg (.int 1), .bin .Add (.var 15) (.int 2)] [.asg 17 (.call 102 [.var 0, .var 1, .var 16]), .app 9 (.ite (.cmp .Is (.var 17) .non) (.var 17) (.and (.cmp .Eq (.bi .len [.var 17]) (.var 16)) (.cmp .In (.var 17) (.var 2)))), .app 10 (.ite (.chain .LtE .LtE (.var 3) (.var 16) (.var 15)) (.bl true) .non)],
  .ret (.call 10 [.bin .Add (.peek 9) (.lst [.var 12, .cmp .LtE (.var 15) (.bin .Mult (.int 2) (.var 3))]), .bin .Add (.peek 10) (.lst [.lst [], .bl true])])]
structure C107 (B : Tb) : Prop where
  own : Is B 107 b107_few_right false 3 18
  c10 : C10 B
  c27 : C27 B
  c28 : C28 B
  c89 : C89 B
  c90 : C90 B
  c91 : C91 B
  c92 : C92 B
  c93 : C93 B
  c95 : C95 B
  c96 : C96 B
  c97 : C97 B
  c98 : C98 B
  c99 : C99 B
  c101 : C101 B
  c102 : C102 B
def b108_spans_right : List S := [
  .par [(2, true), (3, true)] [.lst [], .lst []],
  .loop (.nm 4) .range [.bin .Add (.var 1) (.int 2)] [.asg 5 (.call 48 [.var 0, .var 4]), .app 2 (.bi .max [.comp (.bi .len [.var 6]) (.nm 6) .ex [.var 5] .absent]), .app 3 (.bi .min [.comp (.bi .len [.var 6]) (.nm 6) .ex [.var 5] .absent])],
  .frz 3,
  .frz 2,
  .loop (.nm 7) .range [.bin .Add (.bi .len [.var 0]) (.int 2)] [.asgO 8 (.lst []), .loop (.nm 9) .ex [.tup [.var 2, .var 3]] [.asg 10 (.comp (.var 4) (.nm 4) .range [.bin .Add (.var 1) (.int 2)] (.cmp .Eq (.get (.var 9) (.var 4)) (.var 7))), .app 8 (.ite (.cmp .NotEq (.var 10) (.lst [])) (.tup [.get (.var 10) (.int 0), .ite (.cmp .LtE (.get (.var 10) (.neg (.int 1))) (.var 1)) (.get (.var 10) (.neg (.int 1))) .non]) .non)], .frz 8, .ite (.not (.call 10 [.lst [.call 87 [.var 0, .var 7], .call 103 [.var 0, .var 7]], .var 8])) [.ret (.bl false)] []],
  .ret (.and (.cmp .Is (.call 87 [.var 0, .neg (.int 1)]) .non) (.cmp .Is (.call 103 [.var 0, .bin .Add (.bi .len [.var 0]) (.int 1)]) .non))]
structure C108 (B : Tb) : Prop where
  own : Is B 108 b108_spans_right false 2 11
  c10 : C10 B
  c48 : C48 B
  c87 : C87 B
  c103 : C103 B
def b109_case_right : List S := [
  .asg 2 (.call 48 [.var 0, .var 1]),
  .ret (.and (.call 106 [.var 0, .var 1, .var 2]) (.call 107 [.var 0, .var 1, .var 2]))]
structure C109 (B : Tb) : Prop where
  own : Is B 109 b109_case_right false 2 3
  c48 : C48 B
  c106 : C106 B
  c107 : C107 B
def b110_hand_right : List S := [
  .par [(0, false), (1, false)] [.tup [.tup [.str "a", .int 0], .tup [.str "b", .int 1], .tup [.str "c", .int 3], .tup [.str "d", .int 4]], .tup [.tup [.str "a", .int 0], .tup [.str "b", .int 1], .tup [.str "c", .int 3], .tup [.str "d", .int 4], .tup [.str "e", .int 6]]],
  .asgO 2 (.lst [.call 57 [.var 1, .int 2], .call 91 [.var 1, .int 2], .call 89 [.var 1, .int 2], .call 90 [.var 1, .int 2]]),
  .app 2 (.call 56 [.var 1, .int 2]),
  .frz 2,
  .ite (.not (.call 10 [.var 2, .lst [.int 3, .int 2, .tup [.str "b", .str "e"], .tup [.str "a", .str "d"], .tup [.str "a", .str "c", .str "e"]]])) [.ret (.bl false)] [],
  .asg 3 (.tup [.tup [.str "a", .int 5], .tup [.str "b", .int 5], .tup [.str "c", .int 5]]),
  .asg 4 (.lst [.tup [.var 0, .int 2], .tup [.var 1, .int 2], .tup [.var 3, .int 0], .tup [.tup [.tup [.str "a", .int 0], .tup [.str "b", .int 2], .tup [.str "c", .int 4]], .int 2], .tup [.tup [], .int 1]]),
  .ite (.not (.bi .all [.comp (.call 109 [.get (.var 5) (.int 0), .get (.var 5) (.int 1)]) (.nm 5) .ex [.var 4] .absent])) [.ret (.bl false)] [],
  .ret (.and (.call 108 [.var 1, .int 6]) (.and (.call 108 [.var 3, .int 0]) (.call 108 [.tup [.tup [.str "a", .int 7]], .int 0])))]
structure C110 (B : Tb) : Prop where
  own : Is B 110 b110_hand_right false 0 6
  c10 : C10 B
  c56 : C56 B
  c57 : C57 B
  c89 : C89 B
  c90 : C90 B
  c91 : C91 B
  c108 : C108 B
  c109 : C109 B
def b111_right : List S := [
  .loop (.nm 1) .range [.int 4] [.ite (.not (.call 109 [.callT 11 0 [.int 8, .int 20], .callT 7 0 [.int 7]])) [.ret (.bl false)] []],
  .ret (.call 108 [.bin .Add (.callT 11 0 [.int 4, .int 9]) (.tup [.tup [.str "z", .int 9]]), .int 9])]
structure C111 (B : Tb) : Prop where
  own : Is B 111 b111_right true 1 2
  c7 : C7 B
  c11 : C11 B
  c108 : C108 B
  c109 : C109 B
def b112_law : List S := [
  .ite (.not (.call 110 [])) [.ret (.bl false)] [],
  .asg 1 (.call 8 [.var 0, .int 3]),
  .ret (.bi .all [.comp (.callR 111 (.callN 104 [.var 1, .var 2]) []) (.nm 2) .range [.bi .len [.var 1]] .absent])]
structure C112 (B : Tb) : Prop where
  own : Is B 112 b112_law false 1 3
  c8 : C8 B
  c104 : C104 B
  c110 : C110 B
  c111 : C111 B
def b113_are_all_near : List S := [
  .ret (.bi .all [.comp2 (.or (.cmp .Eq (.var 2) (.var 3)) (.cmp .In (.var 3) (.get (.var 0) (.var 2)))) (.nm 2) .ex [.var 1] .absent (.nm 3) .ex [.var 1] .absent])]
structure C113 (B : Tb) : Prop where
  own : Is B 113 b113_are_all_near false 2 4
def b114_ends : List S := [
  .asg 2 (.call 20 [.var 0, .var 1]),
  .ret (.bi .tuple [.comp (.var 3) (.nm 3) .ex [.var 2] (.call 113 [.var 2, .get (.var 2) (.var 3)])])]
structure C114 (B : Tb) : Prop where
  own : Is B 114 b114_ends false 2 4
  c20 : C20 B
  c113 : C113 B
def b115_end_groups : List S := [
  .asg 2 (.call 20 [.var 0, .var 1]),
  .ret (.call 36 [.comp (.call 36 [.lst [.var 3, .star (.get (.var 2) (.var 3))]]) (.nm 3) .ex [.call 114 [.var 0, .var 1]] .absent])]
structure C115 (B : Tb) : Prop where
  own : Is B 115 b115_end_groups false 2 4
  c20 : C20 B
  c36 : C36 B
  c114 : C114 B
def b116_odd_records : List S := [
  .asg 2 (.call 115 [.var 0, .var 1]),
  .ret (.bi .tuple [.comp (.var 3) (.nm 3) .ex [.call 37 [.var 0]] (.cmp .NotEq (.bi .len [.comp (.var 4) (.nm 4) .ex [.var 2] (.cmp .In (.var 3) (.var 4))]) (.int 1))])]
structure C116 (B : Tb) : Prop where
  own : Is B 116 b116_odd_records false 2 5
  c37 : C37 B
  c115 : C115 B
def b117_is_steady : List S := [
  .ret (.cmp .Eq (.bi .len [.call 116 [.var 0, .var 1]]) (.int 0))]
structure C117 (B : Tb) : Prop where
  own : Is B 117 b117_is_steady false 2 2
  c116 : C116 B
def b118_steady_number : List S := [
  .ret (.ite (.call 117 [.var 0, .var 1]) (.bi .len [.call 115 [.var 0, .var 1]]) .non)]
structure C118 (B : Tb) : Prop where
  own : Is B 118 b118_steady_number false 2 2
  c115 : C115 B
  c117 : C117 B
def b119_box : List S := [
  .asg 2 (.ite (.cmp .Lt (.var 1) (.bi .len [.var 0])) (.get (.var 0) (.var 1)) (.int 0)),
  .ret (.lst [.bin .Mult (.bi .abs [.var 2]) (.bi .int [.cmp .GtE (.bi .abs [.var 2]) (.bin .Pow (.int 10) (.int 18))]), .bin .Add (.bin .Add (.bin .Mod (.bi .int [.var 2]) (.int 2305843009213693951)) (.bin .Mult (.int 39373) (.var 1))) (.int 1567), .int 0])]
structure C119 (B : Tb) : Prop where
  own : Is B 119 b119_box false 2 3
def b120_ends : List S := [
  .par [(2, false), (3, false)] [.call 27 [.var 0, .var 1], .lst []],
  .loop (.tup [4, 5]) .ex [.var 0] [.asg 6 (.lst []), .loop (.nm 7) .ex [.get (.var 2) (.var 4)] [.asg 6 (.bin .Add (.var 6) (.comp (.var 8) (.nm 8) .ex [.get (.var 2) (.var 4)] (.and (.cmp .NotEq (.var 8) (.var 7)) (.cmp .NotIn (.var 8) (.get (.var 2) (.var 7))))))], .asg 3 (.bin .Add (.var 3) (.bin .Mult (.lst [.var 4]) (.bi .int [.cmp .Eq (.var 6) (.lst [])])))],
  .ret (.var 3)]
structure C120 (B : Tb) : Prop where
  own : Is B 120 b120_ends false 2 9
  c27 : C27 B
def b121_flocks : List S := [
  .asg 2 (.call 27 [.var 0, .var 1]),
  .ret (.sset (.comp (.bi .tuple [.bi .sorted [.bin .Add (.get (.var 2) (.var 3)) (.lst [.var 3])]]) (.nm 3) .ex [.call 120 [.var 0, .var 1]] .absent))]
structure C121 (B : Tb) : Prop where
  own : Is B 121 b121_flocks false 2 4
  c27 : C27 B
  c120 : C120 B
def b122_tags : List S := [
  .ret (.comp (.var 1) (.tup [1, 2]) .ex [.var 0] .absent)]
structure C122 (B : Tb) : Prop where
  own : Is B 122 b122_tags false 1 3
def b123_row : List S := [
  .ret (.bi .tuple [.comp (.tup [.get (.str "abcdefghijkl") (.var 1), .var 2]) (.tup [1, 2]) .enum [.var 0] .absent])]
structure C123 (B : Tb) : Prop where
  own : Is B 123 b123_row false 1 3
def b124_case_right : List S := [
  .asg 2 (.sset (.comp (.bi .len [.call 28 [.var 0, .var 1, .var 3]]) (.nm 3) .ex [.call 29 [.call 122 [.var 0]]] .absent)),
  .par [(4, false), (5, false)] [.call 121 [.var 0, .var 1], .call 26 [.var 0]],
  .asg 6 (.bi .tuple [.comp (.var 7) (.nm 7) .ex [.call 122 [.var 0]] (.cmp .NotEq (.bi .len [.comp (.var 8) (.nm 8) .ex [.var 4] (.cmp .In (.var 7) (.var 8))]) (.int 1))]),
  .asg 9 (.lst [.cmp .Eq (.bi .len [.var 2]) (.int 1), .ite (.cmp .Eq (.bi .len [.var 2]) (.int 1)) (.get (.var 2) (.int 0)) .non, .var 6]),
  .asg 10 (.lst [.call 117 [.var 0, .var 1], .call 118 [.var 0, .var 1], .call 116 [.var 0, .var 1]]),
  .asg 10 (.bin .Add (.var 10) (.lst [.callK 117 [1, 0] [] [.var 1, .var 5], .callK 118 [1, 0] [] [.var 1, .var 5], .callK 116 [1, 0] [] [.var 1, .var 5]])),
  .ret (.call 10 [.bin .Add (.var 10) (.lst [.var 5, .cmp .Eq (.cmp .Eq (.var 6) (.tup [])) (.get (.var 9) (.int 0))]), .bin .Add (.bin .Add (.var 9) (.var 9)) (.lst [.call 26 [.var 0], .bl true])])]
structure C124 (B : Tb) : Prop where
  own : Is B 124 b124_case_right false 2 11
  c10 : C10 B
  c26 : C26 B
  c28 : C28 B
  c29 : C29 B
  c116 : C116 B
  c117 : C117 B
  c118 : C118 B
  c121 : C121 B
  c122 : C122 B
def b125_by_hand_right : List S := [
  .par [(0, false), (1, false), (2, false), (3, false)] [.call 123 [.tup [.int 0, .int 2, .int 4]], .call 123 [.tup [.int 0, .int 1, .int 3, .int 4]], .call 123 [.tup [.int 0, .int 1, .int 3, .int 4, .int 6]], .bin .Pow (.int 10) (.int 40)],
  .asg 4 (.lst [.call 117 [.var 0, .int 2], .call 117 [.var 1, .int 2], .call 117 [.var 2, .int 2], .call 118 [.var 1, .int 2], .call 118 [.var 0, .int 2], .call 118 [.tup [], .int 5], .call 116 [.var 0, .int 2], .call 116 [.var 2, .int 2], .call 116 [.var 1, .int 2], .call 117 [.tup [], .int 0]]),
  .asg 5 (.lst [.bl false, .bl true, .bl false, .int 2, .non, .int 0, .tup [.str "b"], .tup [.str "c"], .tup [], .bl true]),
  .asg 4 (.bin .Add (.var 4) (.lst [.call 118 [.call 123 [.tup [.int 5, .int 5, .int 5]], .int 0], .call 118 [.call 123 [.tup [.int 5, .int 5, .int 6]], .int 0], .call 118 [.call 123 [.tup [.int 0, .int 3]], .int 3], .call 118 [.call 123 [.tup [.int 0, .int 3]], .int 2], .call 118 [.call 123 [.tup [.int 0, .int 1, .int 2, .int 3]], .int 3], .call 118 [.call 123 [.tup [.int 0, .int 1, .int 2, .int 3]], .int 2], .call 116 [.call 123 [.tup [.int 0, .int 1, .int 2, .int 3]], .int 2], .call 118 [.tup [.tup [.str "z", .int 7]], .int 0]])),
  .asg 5 (.bin .Add (.var 5) (.lst [.int 1, .int 2, .int 1, .int 2, .int 1, .non, .tup [.str "b", .str "c"], .int 1])),
  .asg 6 (.call 123 [.tup [.int 0, .int 1, .int 10, .int 11, .int 20, .int 21, .int 30, .int 31, .int 40, .int 41, .int 50, .int 51]]),
  .asg 4 (.bin .Add (.var 4) (.lst [.call 118 [.var 6, .int 1], .call 118 [.var 6, .int 0], .call 118 [.var 6, .int 9], .call 118 [.var 6, .int 51], .call 116 [.var 6, .int 10], .call 118 [.call 123 [.tup [.bin .Sub (.int 0) (.var 3), .var 3]], .var 3], .call 118 [.call 123 [.tup [.bin .Sub (.int 0) (.var 3), .int 0, .var 3]], .var 3]])),
  .asg 5 (.bin .Add (.var 5) (.lst [.int 6, .int 12, .non, .int 1, .bi .tuple [.str "defghi"], .int 2, .non])),
  .asg 4 (.bin .Add (.var 4) (.lst [.call 118 [.lst [.lst [.str "a", .int 0], .lst [.str "b", .int 2]], .int 2], .call 117 [.tup [.lst [.str "a", .int 0], .tup [.str "b", .int 2], .lst [.str "c", .int 4]], .int 2], .call 116 [.lst [.tup [.str "a", .int 0], .lst [.str "b", .int 2], .tup [.str "c", .int 4]], .int 2]])),
  .ret (.call 10 [.var 4, .bin .Add (.var 5) (.lst [.int 1, .bl false, .tup [.str "b"]])])]
structure C125 (B : Tb) : Prop where
  own : Is B 125 b125_by_hand_right false 0 7
  c10 : C10 B
  c116 : C116 B
  c117 : C117 B
  c118 : C118 B
  c123 : C123 B
def b126_right : List S := [
  .loop (.nm 1) .range [.int 5] [.asg 2 (.callT 11 0 [.int 5, .int 9]), .ite (.not (.call 124 [.var 2, .callT 7 0 [.int 6]])) [.ret (.bl false)] []],
  .ret (.bl true)]
structure C126 (B : Tb) : Prop where
  own : Is B 126 b126_right true 1 3
  c7 : C7 B
  c11 : C11 B
  c124 : C124 B
def b127_law : List S := [
  .ite (.not (.call 125 [])) [.ret (.bl false)] [],
  .asg 1 (.call 8 [.var 0, .int 3]),
  .ret (.bi .all [.comp (.callR 126 (.callN 119 [.var 1, .var 2]) []) (.nm 2) .range [.bi .len [.var 1]] .absent])]
structure C127 (B : Tb) : Prop where
  own : Is B 127 b127_law false 1 3
  c8 : C8 B
  c119 : C119 B
  c125 : C125 B
  c126 : C126 B
def b128_without_record : List S := [
  .expr (.call 38 [.var 0, .tup [.var 1]]),
  .ret (.bi .tuple [.comp (.var 2) (.nm 2) .ex [.call 18 [.var 0]] (.cmp .NotEq (.get (.var 2) (.int 0)) (.var 1))])]
structure C128 (B : Tb) : Prop where
  own : Is B 128 b128_without_record false 2 3
  c18 : C18 B
  c38 : C38 B
def b129_part_of : List S := [
  .expr (.call 38 [.var 0, .var 1]),
  .ret (.bi .tuple [.comp (.var 2) (.nm 2) .ex [.call 18 [.var 0]] (.cmp .In (.get (.var 2) (.int 0)) (.var 1))])]
structure C129 (B : Tb) : Prop where
  own : Is B 129 b129_part_of false 2 3
  c18 : C18 B
  c38 : C38 B
def b130_steady_without : List S := [
  .ret (.bi .tuple [.comp (.var 2) (.nm 2) .ex [.call 37 [.var 0]] (.call 117 [.call 128 [.var 0, .var 2], .var 1])])]
structure C130 (B : Tb) : Prop where
  own : Is B 130 b130_steady_without false 2 3
  c37 : C37 B
  c117 : C117 B
  c128 : C128 B
def b131_left_of : List S := [
  .ret (.bi .tuple [.comp (.var 2) (.nm 2) .ex [.call 37 [.var 0]] (.cmp .NotIn (.var 2) (.var 1))])]
structure C131 (B : Tb) : Prop where
  own : Is B 131 b131_left_of false 2 3
  c37 : C37 B
def b132_least_off : List S := [
  .asg 2 (.lst [.tup []]),
  .while 100000 (.bl true) [.asg 3 (.comp (.var 4) (.nm 4) .ex [.var 2] (.call 117 [.call 129 [.var 0, .call 131 [.var 0, .var 4]], .var 1])), .ite (.cmp .Gt (.bi .len [.var 3]) (.int 0)) [.ret (.get (.var 3) (.int 0))] [], .asg 2 (.comp2 (.tup [.star (.var 4), .var 5]) (.nm 4) .ex [.var 2] .absent (.nm 5) .ex [.call 37 [.var 0]] (.or (.cmp .Eq (.bi .len [.var 4]) (.int 0)) (.cmp .Lt (.get (.var 4) (.neg (.int 1))) (.var 5))))]]
structure C132 (B : Tb) : Prop where
  own : Is B 132 b132_least_off false 2 6
  c37 : C37 B
  c117 : C117 B
  c129 : C129 B
  c131 : C131 B
def b133_fewest_off : List S := [
  .ret (.bi .len [.call 132 [.var 0, .var 1]])]
structure C133 (B : Tb) : Prop where
  own : Is B 133 b133_fewest_off false 2 2
  c132 : C132 B
def b134_box : List S := [
  .asg 2 (.ite (.cmp .Lt (.var 1) (.bi .len [.var 0])) (.get (.var 0) (.var 1)) (.int 0)),
  .ret (.lst [.bin .Mult (.bi .abs [.var 2]) (.bi .int [.cmp .GtE (.bi .abs [.var 2]) (.bin .Pow (.int 10) (.int 18))]), .bin .Add (.bin .Add (.bin .Mod (.bi .int [.var 2]) (.int 2305843009213693951)) (.bin .Mult (.int 39373) (.var 1))) (.int 1636), .int 0])]
structure C134 (B : Tb) : Prop where
  own : Is B 134 b134_box false 2 3
def b135_calm : List S := [
  .asg 2 (.call 121 [.var 0, .var 1]),
  .ret (.cmp .Eq (.comp (.var 3) (.nm 3) .ex [.call 122 [.var 0]] (.cmp .NotEq (.bi .len [.comp (.var 4) (.nm 4) .ex [.var 2] (.cmp .In (.var 3) (.var 4))]) (.int 1))) (.lst []))]
structure C135 (B : Tb) : Prop where
  own : Is B 135 b135_calm false 2 5
  c121 : C121 B
  c122 : C122 B
def b136_case_right : List S := [
  .par [(2, false), (3, false)] [.call 122 [.var 0], .call 26 [.var 0]],
  .asg 4 (.bi .tuple [.comp (.var 5) (.nm 5) .ex [.var 2] (.call 135 [.bi .tuple [.comp (.var 6) (.nm 6) .ex [.var 0] (.cmp .NotEq (.get (.var 6) (.int 0)) (.var 5))], .var 1])]),
  .asg 7 (.bi .sorted [.comp (.tup [.bi .len [.var 6], .var 6]) (.nm 6) .ex [.call 30 [.var 2]] .absent]),
  .asg 8 .non,
  .loop (.tup [9, 10]) .ex [.var 7] [.ite (.and (.cmp .Is (.var 8) .non) (.call 135 [.bi .tuple [.comp (.var 6) (.nm 6) .ex [.var 0] (.cmp .NotIn (.get (.var 6) (.int 0)) (.var 10))], .var 1])) [.asg 8 (.var 10)] []],
  .asg 11 (.lst [.var 4, .bi .len [.var 8], .var 8]),
  .asg 12 (.lst [.call 130 [.var 0, .var 1], .call 133 [.var 0, .var 1], .call 132 [.var 0, .var 1]]),
  .asg 12 (.bin .Add (.var 12) (.lst [.callK 130 [1, 0] [] [.var 1, .var 3], .callK 133 [1, 0] [] [.var 1, .var 3], .callK 132 [1, 0] [] [.var 1, .var 3]])),
  .ret (.call 10 [.bin .Add (.var 12) (.lst [.var 3]), .bin .Add (.bin .Add (.var 11) (.var 11)) (.lst [.call 26 [.var 0]])])]
structure C136 (B : Tb) : Prop where
  own : Is B 136 b136_case_right false 2 13
  c10 : C10 B
  c26 : C26 B
  c30 : C30 B
  c122 : C122 B
  c130 : C130 B
  c132 : C132 B
  c133 : C133 B
  c135 : C135 B
def b137_by_hand_right : List S := [
  .par [(0, false), (1, false), (2, false)] [.call 123 [.tup [.int 0, .int 2, .int 4]], .call 123 [.tup [.int 0, .int 1, .int 3, .int 4]], .call 123 [.tup [.int 0, .int 1, .int 3, .int 4, .int 6]]],
  .asg 3 (.lst [.call 130 [.var 2, .int 2], .call 133 [.var 2, .int 2], .call 132 [.var 2, .int 2], .call 132 [.var 1, .int 2], .call 133 [.var 1, .int 2], .call 130 [.var 1, .int 2], .call 130 [.var 0, .int 2], .call 132 [.var 0, .int 2], .call 130 [.tup [], .int 3], .call 132 [.tup [], .int 3]]),
  .asg 4 (.lst [.tup [.str "a", .str "c", .str "e"], .int 1, .tup [.str "a"], .tup [], .int 0, .tup [.str "b", .str "c"], .tup [.str "a", .str "b", .str "c"], .tup [.str "a"], .tup [], .tup []]),
  .asg 5 (.call 123 [.tup [.int 0, .int 2, .int 4, .int 6, .int 8, .int 10, .int 12, .int 14, .int 16, .int 18]]),
  .asg 3 (.bin .Add (.var 3) (.lst [.call 133 [.var 5, .int 2], .call 132 [.var 5, .int 2], .call 130 [.var 5, .int 2], .call 133 [.var 5, .int 0], .call 130 [.var 5, .int 18], .call 132 [.call 123 [.tup [.int 0, .int 2, .int 4, .int 20, .int 22, .int 24]], .int 2]])),
  .asg 4 (.bin .Add (.var 4) (.lst [.int 2, .tup [.str "a", .str "f"], .tup [], .int 0, .bi .tuple [.str "abcdefghij"], .tup [.str "a", .str "d"]])),
  .asg 3 (.bin .Add (.var 3) (.lst [.call 132 [.tup [.lst [.str "a", .int 0], .tup [.str "b", .int 2], .lst [.str "c", .int 4]], .int 2], .call 130 [.lst [.tup [.str "a", .int 0], .lst [.str "b", .int 2], .tup [.str "c", .int 4]], .int 2]])),
  .ret (.call 10 [.var 3, .bin .Add (.var 4) (.lst [.tup [.str "a"], .tup [.str "a", .str "b", .str "c"]])])]
structure C137 (B : Tb) : Prop where
  own : Is B 137 b137_by_hand_right false 0 6
  c10 : C10 B
  c123 : C123 B
  c130 : C130 B
  c132 : C132 B
  c133 : C133 B
def b138_right : List S := [
  .loop (.nm 1) .range [.int 4] [.ite (.not (.call 136 [.callT 11 0 [.int 7, .int 11], .callT 7 0 [.int 6]])) [.ret (.bl false)] []],
  .ret (.bl true)]
structure C138 (B : Tb) : Prop where
  own : Is B 138 b138_right true 1 2
  c7 : C7 B
  c11 : C11 B
  c136 : C136 B
def b139_law : List S := [
  .ite (.not (.call 137 [])) [.ret (.bl false)] [],
  .asg 1 (.call 8 [.var 0, .int 3]),
  .ret (.bi .all [.comp (.callR 138 (.callN 134 [.var 1, .var 2]) []) (.nm 2) .range [.bi .len [.var 1]] .absent])]
structure C139 (B : Tb) : Prop where
  own : Is B 139 b139_law false 1 3
  c8 : C8 B
  c134 : C134 B
  c137 : C137 B
  c138 : C138 B
def b140_groups_with : List S := [
  .expr (.call 38 [.var 0, .tup [.var 2]]),
  .ret (.bi .len [.comp (.var 3) (.nm 3) .ex [.call 115 [.var 0, .var 1]] (.cmp .In (.var 2) (.var 3))])]
structure C140 (B : Tb) : Prop where
  own : Is B 140 b140_groups_with false 3 4
  c38 : C38 B
  c115 : C115 B
def b141_next_ones : List S := [
  .par [(2, false), (3, true)] [.bi .dict [.call 18 [.var 0]], .lst []],
  .loop (.nm 4) .ex [.call 54 [.var 0]] [.ite (.or (.cmp .Eq (.bi .len [.peek 3]) (.int 0)) (.cmp .Gt (.bin .Sub (.get (.var 2) (.var 4)) (.get (.var 2) (.get (.peek 3) (.neg (.int 1))))) (.var 1))) [.app 3 (.var 4)] []],
  .frz 3,
  .ret (.var 3)]
structure C141 (B : Tb) : Prop where
  own : Is B 141 b141_next_ones false 2 5
  c18 : C18 B
  c54 : C54 B
def b142_far_ones : List S := [
  .par [(2, false), (3, true)] [.bi .dict [.call 18 [.var 0]], .lst []],
  .asg 4 (.call 54 [.var 0]),
  .loop (.nm 5) .ex [.var 4] [.ite (.or (.cmp .Eq (.bi .len [.peek 3]) (.int 0)) (.cmp .Gt (.bin .Sub (.get (.var 2) (.var 5)) (.get (.var 2) (.get (.peek 3) (.neg (.int 1))))) (.var 1))) [.app 3 (.get (.comp (.var 6) (.nm 6) .ex [.var 4] (.chain .LtE .LtE (.get (.var 2) (.var 5)) (.get (.var 2) (.var 6)) (.bin .Add (.get (.var 2) (.var 5)) (.var 1)))) (.neg (.int 1)))] []],
  .frz 3,
  .ret (.var 3)]
structure C142 (B : Tb) : Prop where
  own : Is B 142 b142_far_ones false 2 7
  c18 : C18 B
  c54 : C54 B
def b143_two_orders : List S := [
  .par [(2, false), (3, false)] [.call 141 [.var 0, .var 1], .call 142 [.var 0, .var 1]],
  .ite (.cmp .Eq (.bi .len [.var 2]) (.bi .len [.var 3])) [.rais] [],
  .ret (.tup [.call 58 [.var 0, .var 2], .call 58 [.var 0, .var 3]])]
structure C143 (B : Tb) : Prop where
  own : Is B 143 b143_two_orders false 2 4
  c58 : C58 B
  c141 : C141 B
  c142 : C142 B
def b144_is_order_of : List S := [
  .ite (.or (.not (.isi (.var 1) ["tuple"] false)) (.not (.bi .all [.comp (.call 2 [.var 2]) (.nm 2) .ex [.var 1] .absent]))) [.ret (.bl false)] [],
  .ret (.cmp .Eq (.bi .tuple [.bi .sorted [.var 1]]) (.call 37 [.var 0]))]
structure C144 (B : Tb) : Prop where
  own : Is B 144 b144_is_order_of false 2 3
  c2 : C2 B
  c37 : C37 B
def b145_scanned : List S := [
  .par [(3, false), (4, true)] [.bi .dict [.call 18 [.var 0]], .lst []],
  .loop (.nm 5) .ex [.var 2] [.ite (.not (.bi .any [.comp (.cmp .LtE (.bi .abs [.bin .Sub (.get (.var 3) (.var 5)) (.get (.var 3) (.var 6))]) (.var 1)) (.nm 6) .ex [.peek 4] .absent])) [.app 4 (.var 5)] []],
  .frz 4,
  .ret (.call 36 [.var 4])]
structure C145 (B : Tb) : Prop where
  own : Is B 145 b145_scanned false 3 7
  c18 : C18 B
  c36 : C36 B
def b146_is_two_orders : List S := [
  .ite (.or (.not (.isi (.var 2) ["tuple"] false)) (.or (.cmp .NotEq (.bi .len [.var 2]) (.glob "PAIR" (.int 2))) (.not (.bi .all [.comp (.call 144 [.var 0, .var 3]) (.nm 3) .ex [.var 2] .absent])))) [.ret (.bl false)] [],
  .ret (.cmp .NotEq (.bi .len [.call 145 [.var 0, .var 1, .get (.var 2) (.int 0)]]) (.bi .len [.call 145 [.var 0, .var 1, .get (.var 2) (.int 1)]]))]
structure C146 (B : Tb) : Prop where
  own : Is B 146 b146_is_two_orders false 3 4
  c144 : C144 B
  c145 : C145 B
def b147_steady_spans : List S := [
  .asg 1 (.comp (.var 3) (.tup [2, 3]) .ex [.call 18 [.var 0]] .absent),
  .asg 4 (.call 36 [.lst [.int 0, .star (.comp2 (.bin .Sub (.var 5) (.var 6)) (.nm 5) .ex [.var 1] .absent (.nm 6) .ex [.var 1] (.cmp .Gt (.var 5) (.var 6)))]]),
  .asgO 7 (.lst []),
  .loop (.tup [8, 9]) .enum [.var 4] [.asg 10 (.ite (.cmp .Lt (.bin .Add (.var 8) (.int 1)) (.bi .len [.var 4])) (.bin .Sub (.get (.var 4) (.bin .Add (.var 8) (.int 1))) (.int 1)) .non), .ite (.not (.call 117 [.var 0, .var 9])) [.cont] [], .ite (.and (.cmp .Gt (.bi .len [.peek 7]) (.int 0)) (.cmp .Eq (.get (.get (.peek 7) (.neg (.int 1))) (.int 1)) (.bin .Sub (.var 9) (.int 1)))) [.sto 7 (.neg (.int 1)) (.tup [.get (.get (.peek 7) (.neg (.int 1))) (.int 0), .var 10])] [.app 7 (.tup [.var 9, .var 10])]],
  .ret (.bi .tuple [.peek 7])]
structure C147 (B : Tb) : Prop where
  own : Is B 147 b147_steady_spans false 1 11
  c18 : C18 B
  c36 : C36 B
  c117 : C117 B
def b148_is_order : List S := [
  .ite (.or (.not (.isi (.var 1) ["tuple"] false)) (.not (.bi .all [.comp (.isi (.var 2) ["str"] false) (.nm 2) .ex [.var 1] .absent]))) [.ret (.bl false)] [],
  .ret (.cmp .Eq (.bi .tuple [.bi .sorted [.var 1]]) (.call 37 [.var 0]))]
structure C148 (B : Tb) : Prop where
  own : Is B 148 b148_is_order false 2 3
  c37 : C37 B
def b149_check_order : List S := [
  .ite (.not (.call 148 [.var 0, .bi .tuple [.var 1]])) [.rais] []]
structure C149 (B : Tb) : Prop where
  own : Is B 149 b149_check_order false 2 2
  c148 : C148 B
def b150_kept_rows : List S := [
  .par [(2, true), (3, false)] [.lst [], .tup []],
  .loop (.nm 4) .ex [.var 1] [.ite (.not (.bi .any [.comp (.cmp .In (.var 5) (.get (.var 0) (.var 4))) (.nm 5) .ex [.var 3] .absent])) [.asg 3 (.tup [.star (.var 3), .var 4])] [], .app 2 (.var 3)],
  .frz 2,
  .ret (.var 2)]
structure C150 (B : Tb) : Prop where
  own : Is B 150 b150_kept_rows false 2 6
def b151_kept_list : List S := [
  .asg 2 (.call 150 [.var 0, .var 1]),
  .ret (.ite (.cmp .Gt (.bi .len [.var 2]) (.int 0)) (.get (.var 2) (.neg (.int 1))) (.tup []))]
structure C151 (B : Tb) : Prop where
  own : Is B 151 b151_kept_list false 2 3
  c150 : C150 B
def b152_kept : List S := [
  .expr (.call 149 [.var 0, .var 2]),
  .ret (.call 36 [.call 151 [.call 20 [.var 0, .var 1], .var 2]])]
structure C152 (B : Tb) : Prop where
  own : Is B 152 b152_kept false 3 3
  c20 : C20 B
  c36 : C36 B
  c149 : C149 B
  c151 : C151 B
def b153_box : List S := [
  .asg 2 (.ite (.cmp .Lt (.var 1) (.bi .len [.var 0])) (.get (.var 0) (.var 1)) (.int 0)),
  .ret (.lst [.bin .Mult (.bi .abs [.var 2]) (.bi .int [.cmp .GtE (.bi .abs [.var 2]) (.bin .Pow (.int 10) (.int 18))]), .bin .Add (.bin .Add (.bin .Mod (.bi .int [.var 2]) (.int 2305843009213693951)) (.bin .Mult (.int 39373) (.var 1))) (.int 1866), .int 0])]
structure C153 (B : Tb) : Prop where
  own : Is B 153 b153_box false 2 3
def b154_spans_right : List S := [
  .asg 3 (.comp (.var 4) (.nm 4) .ex [.call 147 [.var 0]] (.and (.cmp .LtE (.get (.var 4) (.int 0)) (.var 1)) (.or (.cmp .Is (.get (.var 4) (.int 1)) .non) (.cmp .LtE (.var 1) (.get (.var 4) (.int 1)))))),
  .ite (.or (.cmp .NotEq (.cmp .Eq (.bi .len [.var 3]) (.int 1)) (.var 2)) (.cmp .Gt (.bi .len [.var 3]) (.int 1))) [.ret (.bl false)] [],
  .asg 5 (.call 132 [.var 0, .var 1]),
  .asg 6 (.var 0),
  .loop (.nm 7) .ex [.var 5] [.asg 6 (.call 128 [.var 6, .var 7])],
  .asg 8 (.call 130 [.var 0, .var 1]),
  .asg 9 (.lst [.call 117 [.var 6, .var 1], .bi .len [.var 5], .cmp .Eq (.cmp .Eq (.bi .len [.var 5]) (.int 0)) (.var 2), .cmp .Eq (.cmp .Eq (.bi .len [.var 5]) (.int 1)) (.and (.not (.var 2)) (.cmp .NotEq (.var 8) (.tup [])))]),
  .ret (.call 10 [.var 9, .lst [.bl true, .call 133 [.var 0, .var 1], .bl true, .bl true]])]
structure C154 (B : Tb) : Prop where
  own : Is B 154 b154_spans_right false 3 10
  c10 : C10 B
  c117 : C117 B
  c128 : C128 B
  c130 : C130 B
  c132 : C132 B
  c133 : C133 B
  c147 : C147 B
def b155_case_right : List S := [
  .par [(2, false), (3, false)] [.call 45 [.var 0, .var 1], .call 115 [.var 0, .var 1]],
  .asg 4 (.sset (.comp (.bi .len [.var 5]) (.nm 5) .ex [.var 2] .absent)),
  .asg 6 (.cmp .Eq (.bi .len [.var 4]) (.int 1)),
  .asg 7 (.lst [.call 117 [.var 0, .var 1], .cmp .Eq (.call 57 [.var 0, .var 1]) (.call 91 [.var 0, .var 1]), .cmp .Eq (.call 116 [.var 0, .var 1]) (.tup []), .call 118 [.var 0, .var 1]]),
  .ite (.or (.not (.call 10 [.var 7, .lst [.var 6, .var 6, .var 6, .ite (.var 6) (.get (.var 4) (.int 0)) .non]])) (.cmp .NotEq (.call 44 [.var 0, .var 1]) (.bi .len [.var 2]))) [.ret (.bl false)] [],
  .ite (.cmp .NotEq (.call 116 [.var 0, .var 1]) (.bi .tuple [.comp (.var 8) (.nm 8) .ex [.call 37 [.var 0]] (.cmp .NotEq (.call 140 [.var 0, .var 1, .var 8]) (.int 1))])) [.ret (.bl false)] [],
  .asg 9 (.tup [.call 59 [.var 0, .var 1], .call 92 [.var 0, .var 1]]),
  .ite (.cmp .Eq (.call 146 [.var 0, .var 1, .var 9]) (.var 6)) [.ret (.bl false)] [],
  .ite (.var 6) [.loop (.nm 5) .ex [.var 2] [.ite (.cmp .NotEq (.comp (.var 10) (.nm 10) .ex [.var 3] (.cmp .NotEq (.bi .len [.comp (.var 8) (.nm 8) .ex [.var 10] (.cmp .In (.var 8) (.var 5))]) (.int 1))) (.lst [])) [.ret (.bl false)] []]] [.asg 11 (.call 143 [.var 0, .var 1]), .ite (.or (.not (.call 148 [.var 0, .get (.var 11) (.int 0)])) (.not (.call 148 [.var 0, .get (.var 11) (.int 1)]))) [.ret (.bl false)] [], .ite (.cmp .Eq (.bi .len [.call 152 [.var 0, .var 1, .get (.var 11) (.int 0)]]) (.bi .len [.call 152 [.var 0, .var 1, .get (.var 11) (.int 1)]])) [.ret (.bl false)] []],
  .ret (.call 154 [.var 0, .var 1, .var 6])]
structure C155 (B : Tb) : Prop where
  own : Is B 155 b155_case_right false 2 12
  c10 : C10 B
  c37 : C37 B
  c44 : C44 B
  c45 : C45 B
  c57 : C57 B
  c59 : C59 B
  c91 : C91 B
  c92 : C92 B
  c115 : C115 B
  c116 : C116 B
  c117 : C117 B
  c118 : C118 B
  c140 : C140 B
  c143 : C143 B
  c146 : C146 B
  c148 : C148 B
  c152 : C152 B
  c154 : C154 B
def b156_by_hand_right : List S := [
  .par [(0, false), (1, false), (2, false)] [.call 123 [.tup [.int 0, .int 2, .int 4]], .call 123 [.tup [.int 0, .int 1, .int 3, .int 4]], .call 123 [.tup [.int 0, .int 1, .int 3, .int 4, .int 6]]],
  .asg 3 (.lst [.call 45 [.var 0, .int 2], .call 57 [.var 2, .int 2], .call 91 [.var 2, .int 2], .call 118 [.var 1, .int 2], .call 115 [.var 1, .int 2], .call 152 [.var 0, .int 2, .tup [.str "b", .str "a", .str "c"]]]),
  .ite (.not (.call 10 [.var 3, .lst [.lst [.tup [.str "a", .str "c"], .tup [.str "b"]], .int 3, .int 2, .int 2, .tup [.tup [.str "a", .str "b"], .tup [.str "c", .str "d"]], .tup [.str "b"]]])) [.ret (.bl false)] [],
  .asg 4 (.lst [.tup [.var 0, .int 2], .tup [.var 1, .int 2], .tup [.var 2, .int 2], .tup [.tup [], .int 3], .tup [.call 123 [.tup [.int 5, .int 5, .int 7]], .int 0], .tup [.call 123 [.tup [.int 5, .int 5, .int 7]], .int 2], .tup [.var 2, .int 6], .tup [.var 2, .int 0]]),
  .ret (.bi .all [.comp (.call 155 [.get (.var 5) (.int 0), .get (.var 5) (.int 1)]) (.nm 5) .ex [.var 4] .absent])]
structure C156 (B : Tb) : Prop where
  own : Is B 156 b156_by_hand_right false 0 6
  c10 : C10 B
  c45 : C45 B
  c57 : C57 B
  c91 : C91 B
  c115 : C115 B
  c118 : C118 B
  c123 : C123 B
  c152 : C152 B
  c155 : C155 B
def b157_right : List S := [
  .loop (.nm 1) .range [.int 6] [.ite (.not (.call 155 [.callT 11 0 [.int 9, .int 14], .callT 7 0 [.int 7]])) [.ret (.bl false)] []],
  .ret (.bl true)]
structure C157 (B : Tb) : Prop where
  own : Is B 157 b157_right true 1 2
  c7 : C7 B
  c11 : C11 B
  c155 : C155 B
def b158_law : List S := [
  .ite (.not (.call 156 [])) [.ret (.bl false)] [],
  .asg 1 (.call 8 [.var 0, .int 3]),
  .ret (.bi .all [.comp (.callR 157 (.callN 153 [.var 1, .var 2]) []) (.nm 2) .range [.bi .len [.var 1]] .absent])]
structure C158 (B : Tb) : Prop where
  own : Is B 158 b158_law false 1 3
  c8 : C8 B
  c153 : C153 B
  c156 : C156 B
  c157 : C157 B
def b159_box : List S := [
  .asg 2 (.ite (.cmp .Lt (.var 1) (.bi .len [.var 0])) (.get (.var 0) (.var 1)) (.int 0)),
  .ret (.lst [.bin .Mult (.bi .abs [.var 2]) (.bi .int [.cmp .GtE (.bi .abs [.var 2]) (.bin .Pow (.int 10) (.int 18))]), .bin .Add (.bin .Add (.bin .Mod (.bi .int [.var 2]) (.int 2305843009213693951)) (.bin .Mult (.int 39373) (.var 1))) (.int 1981), .int 0])]
structure C159 (B : Tb) : Prop where
  own : Is B 159 b159_box false 2 3
def b160_covers : List S := [
  .ite (.not (.isi (.var 2) ["tuple"] false)) [.ret (.bl false)] [],
  .loop (.nm 3) .ex [.var 2] [.ite (.or (.not (.isi (.var 3) ["tuple"] false)) (.or (.cmp .NotEq (.bi .len [.var 3]) (.int 2)) (.or (.isi (.get (.var 3) (.int 0)) ["bool"] false) (.isi (.get (.var 3) (.int 1)) ["bool"] false)))) [.ret (.bl false)] [], .ite (.or (.not (.isi (.get (.var 3) (.int 0)) ["int"] false)) (.or (.not (.isi (.get (.var 3) (.int 1)) ["int"] false)) (.cmp .NotEq (.bin .Sub (.get (.var 3) (.int 1)) (.get (.var 3) (.int 0))) (.var 1)))) [.ret (.bl false)] []],
  .ite (.cmp .NotEq (.bi .list [.var 2]) (.sset (.var 2))) [.ret (.bl false)] [],
  .ret (.cmp .Eq (.comp (.var 3) (.nm 3) .ex [.var 0] (.cmp .Eq (.comp (.var 4) (.nm 4) .ex [.var 2] (.chain .LtE .LtE (.get (.var 4) (.int 0)) (.get (.var 3) (.int 1)) (.get (.var 4) (.int 1)))) (.lst []))) (.lst []))]
structure C160 (B : Tb) : Prop where
  own : Is B 160 b160_covers false 3 5
def b161_told_right : List S := [
  .loop (.nm 3) .ex [.tup [.var 0, .call 26 [.var 0]]] [.asg 4 (.call 82 [.var 3, .var 1]), .ite (.or (.not (.call 160 [.var 0, .var 1, .var 4])) (.or (.cmp .NotEq (.bi .len [.var 4]) (.var 2)) (.not (.call 84 [.var 3, .var 1, .var 4])))) [.ret (.bl false)] []],
  .ret (.bl true)]
structure C161 (B : Tb) : Prop where
  own : Is B 161 b161_told_right false 3 5
  c26 : C26 B
  c82 : C82 B
  c84 : C84 B
  c160 : C160 B
def b162_by_hand_right : List S := [
  .unp [0, 1, 2] (.call 63 []),
  .par [(3, false), (4, false)] [.slice (.var 0) .absent (.int 4), .bin .Pow (.int 10) (.int 40)],
  .asgO 5 (.lst [.tup [.tup [.int 0, .int 2], .tup [.int 3, .int 5]], .tup [.tup [.neg (.int 1), .int 1], .tup [.int 3, .int 5], .tup [.int 9, .int 11]], .tup [.tup [.int 0, .int 2], .tup [.int 2, .int 4]], .tup [.tup [.neg (.int 2), .int 0], .tup [.neg (.int 1), .int 1], .tup [.int 1, .int 3], .tup [.int 2, .int 4]]]),
  .app 5 (.tup [.tup [.bin .Sub (.neg (.var 4)) (.int 9), .bin .Sub (.neg (.var 4)) (.int 7)], .tup [.neg (.int 1), .int 1], .tup [.int 2, .int 4], .tup [.bin .Add (.var 4) (.int 1), .bin .Add (.var 4) (.int 3)]]),
  .asgO 6 (.lst [.tup [.tup [.int 0, .int 2], .tup [.int 5, .int 7]], .tup [.tup [.int 0, .int 3], .tup [.int 4, .int 6]], .tup [.tup [.int 3, .int 5], .tup [.int 0, .int 2]], .tup [.tup [.int 0, .int 2], .tup [.int 0, .int 2], .tup [.int 3, .int 5]], .tup [.tup [.int 0, .int 2]], .tup [], .non, .int 0]),
  .asgO 6 (.bin .Add (.peek 6) (.lst [.lst [.tup [.int 0, .int 2], .tup [.int 3, .int 5]], .tup [.tup [.int 0, .int 2], .lst [.int 3, .int 5]], .tup [.tup [.int 0, .int 2], .tup [.int 3, .int 5, .int 7]], .tup [.tup [.int 0, .int 2], .tup [.int 3, .non]], .tup [.tup [.int 0, .int 2], .int 3], .str "ab"])),
  .asgO 6 (.bin .Add (.peek 6) (.lst [.tup [.tup [.int 0, .int 2], .tup [.int 5, .int 3]], .tup [.tup [.int 0, .int 2], .tup [.int 3, .int 5], .tup [.str "a", .str "c"]], .tup [.int 0, .int 2], .bl true, .tup [.tup [.int 0, .int 2], .tup [.int 3, .int 5], .tup []], .tup [.tup [.int 2, .int 4], .tup [.neg (.int 1), .int 0]]])),
  .app 6 (.tup [.tup [.int 0, .int 1], .tup [.int 3, .int 4]]),
  .asg 7 (.lst [.comp (.call 84 [.var 3, .int 2, .var 8]) (.nm 8) .ex [.peek 5] .absent, .comp (.call 84 [.var 3, .int 2, .var 8]) (.nm 8) .ex [.peek 6] .absent]),
  .asgO 9 (.lst [.bin .Mult (.lst [.bl true]) (.int 5), .bin .Mult (.lst [.bl false]) (.int 21)]),
  .asg 7 (.bin .Add (.var 7) (.lst [.comp (.call 160 [.var 3, .int 2, .var 8]) (.nm 8) .ex [.bin .Add (.peek 5) (.peek 6)] .absent])),
  .app 9 (.bin .Add (.bin .Mult (.lst [.bl true]) (.int 5)) (.bin .Mult (.lst [.bl false]) (.int 21))),
  .asg 10 (.tup [.tup [.str "a", .int 0], .tup [.str "b", .int 1]]),
  .asg 7 (.bin .Add (.var 7) (.lst [.call 84 [.var 10, .int 1, .tup [.tup [.bl false, .int 1]]], .call 84 [.var 10, .int 1, .tup [.tup [.int 0, .bl true]]], .call 84 [.var 10, .int 1, .tup [.tup [.int 0, .int 1]]]])),
  .asg 7 (.bin .Add (.var 7) (.lst [.call 84 [.tup [], .int 3, .tup []], .call 84 [.tup [], .int 3, .tup [.tup [.int 4, .int 7]]], .call 84 [.tup [], .int 3, .tup [.tup [.int 4, .int 8]]], .call 82 [.tup [], .int 5]])),
  .asgO 9 (.bin .Add (.peek 9) (.lst [.bl false, .bl false, .bl true, .bl true, .bl true, .bl false, .tup []])),
  .asg 7 (.bin .Add (.var 7) (.lst [.call 84 [.var 0, .int 0, .bi .tuple [.comp (.tup [.var 11, .var 11]) (.nm 11) .ex [.tup [.int 0, .int 1, .int 3, .int 4, .int 6]] .absent]], .call 84 [.var 0, .var 4, .tup [.tup [.bin .Sub (.int 6) (.var 4), .int 6]]]])),
  .asg 7 (.bin .Add (.var 7) (.lst [.callK 84 [2, 1, 0] [] [.tup [.tup [.int 0, .int 2], .tup [.int 3, .int 5]], .int 2, .call 26 [.var 3]]])),
  .asg 7 (.bin .Add (.var 7) (.lst [.call 84 [.tup [.lst [.str "a", .int 0], .tup [.str "b", .int 2]], .int 2, .tup [.tup [.int 0, .int 2]]], .bi .len [.callK 82 [1, 0] [] [.int 2, .call 26 [.var 0]]]])),
  .ite (.not (.call 10 [.var 7, .bin .Add (.peek 9) (.lst [.bl true, .bl true, .bl true, .bl true, .int 3])])) [.ret (.bl false)] [],
  .asg 12 (.lst [.tup [.var 3, .int 2, .int 2], .tup [.var 0, .int 2, .int 3], .tup [.var 0, .int 0, .int 5], .tup [.var 1, .int 0, .int 2], .tup [.var 1, .int 7, .int 1], .tup [.var 2, .int 2, .int 4]]),
  .asg 12 (.bin .Add (.var 12) (.lst [.tup [.var 2, .int 11, .int 1], .tup [.tup [.tup [.str "a", .var 4], .tup [.str "b", .bin .Sub (.int 0) (.var 4)], .tup [.str "c", .int 0]], .var 4, .int 2], .tup [.tup [.tup [.str "z", .neg (.int 7)]], .int 0, .int 1]])),
  .ret (.bi .all [.comp (.call 161 [.get (.var 8) (.int 0), .get (.var 8) (.int 1), .get (.var 8) (.int 2)]) (.nm 8) .ex [.var 12] .absent])]
structure C162 (B : Tb) : Prop where
  own : Is B 162 b162_by_hand_right false 0 13
  c10 : C10 B
  c26 : C26 B
  c63 : C63 B
  c82 : C82 B
  c84 : C84 B
  c160 : C160 B
  c161 : C161 B
def b163_right : List S := [
  .loop (.nm 1) .range [.int 12] [.unp [2, 3] (.callT 61 0 [.callT 11 0 [.int 7, .int 13], .callT 7 0 [.int 6]]), .ite (.not (.call 161 [.var 2, .var 3, .bi .max [.comp (.bi .len [.var 4]) (.nm 4) .ex [.call 48 [.var 2, .var 3]] .absent]])) [.ret (.bl false)] [], .asg 5 (.comp (.bin .Sub (.get (.var 4) (.int 1)) (.callT 7 0 [.int 3])) (.nm 4) .ex [.var 2] (.cmp .Gt (.callT 7 0 [.int 3]) (.int 0))), .asg 6 (.comp (.bi .tuple [.comp (.tup [.var 8, .bin .Add (.bin .Add (.var 8) (.var 3)) (.var 7)]) (.nm 8) .ex [.sset (.var 5)] .absent]) (.nm 7) .ex [.tup [.int 0, .int 0, .int 1]] .absent), .asg 6 (.bin .Add (.var 6) (.lst [.slice (.get (.var 6) (.int 0)) (.int 1) .absent, .bi .list [.get (.var 6) (.int 0)], .bin .Add (.get (.var 6) (.int 0)) (.slice (.get (.var 6) (.int 0)) .absent (.int 1))])), .ite (.not (.call 10 [.comp (.call 84 [.var 2, .var 3, .var 4]) (.nm 4) .ex [.var 6] .absent, .comp (.call 160 [.var 2, .var 3, .var 4]) (.nm 4) .ex [.var 6] .absent])) [.ret (.bl false)] []],
  .ret (.bl true)]
structure C163 (B : Tb) : Prop where
  own : Is B 163 b163_right true 1 9
  c7 : C7 B
  c10 : C10 B
  c11 : C11 B
  c48 : C48 B
  c61 : C61 B
  c84 : C84 B
  c160 : C160 B
  c161 : C161 B
def b164_law : List S := [
  .ite (.not (.call 162 [])) [.ret (.bl false)] [],
  .asg 1 (.call 8 [.var 0, .int 2]),
  .ret (.bi .all [.comp (.callR 163 (.callN 159 [.var 1, .var 2]) []) (.nm 2) .range [.bi .len [.var 1]] .absent])]
structure C164 (B : Tb) : Prop where
  own : Is B 164 b164_law false 1 3
  c8 : C8 B
  c159 : C159 B
  c162 : C162 B
  c163 : C163 B
def b165_box : List S := [
  .asg 2 (.ite (.cmp .Lt (.var 1) (.bi .len [.var 0])) (.get (.var 0) (.var 1)) (.int 0)),
  .ret (.lst [.bin .Mult (.bi .abs [.var 2]) (.bi .int [.cmp .GtE (.bi .abs [.var 2]) (.bin .Pow (.int 10) (.int 18))]), .bin .Add (.bin .Add (.bin .Mod (.bi .int [.var 2]) (.int 2305843009213693951)) (.bin .Mult (.int 39373) (.var 1))) (.int 2027), .int 0])]
structure C165 (B : Tb) : Prop where
  own : Is B 165 b165_box false 2 3
def b166_walk : List S := [
  .par [(2, false), (3, false), (4, true), (5, true)] [.call 62 [.var 0], .call 27 [.var 0, .var 1], .lst [], .lst []],
  .loop (.nm 6) .ex [.var 2] [.ite (.and (.cmp .NotIn (.var 6) (.peek 4)) (.cmp .Eq (.comp (.var 7) (.nm 7) .ex [.peek 4] (.cmp .In (.var 7) (.get (.var 3) (.var 6)))) (.lst []))) [.app 5 (.var 6), .app 4 (.get (.comp (.var 7) (.nm 7) .ex [.var 2] (.or (.cmp .Eq (.var 7) (.var 6)) (.cmp .In (.var 7) (.get (.var 3) (.var 6))))) (.neg (.int 1)))] []],
  .ret (.lst [.bi .tuple [.bi .sorted [.peek 4]], .bi .tuple [.bi .sorted [.peek 5]]])]
structure C166 (B : Tb) : Prop where
  own : Is B 166 b166_walk false 2 8
  c27 : C27 B
  c62 : C62 B
def b167_order_right : List S := [
  .loop (.nm 3) .ex [.tup [.var 0, .call 26 [.var 0]]] [.asg 4 (.call 92 [.var 3, .var 1]), .ite (.or (.not (.isi (.var 4) ["tuple"] false)) (.cmp .NotEq (.bi .sorted [.var 4]) (.comp (.get (.var 5) (.int 0)) (.nm 5) .ex [.var 0] .absent))) [.ret (.bl false)] [], .ite (.cmp .NotEq (.bi .len [.call 28 [.var 0, .var 1, .var 4]]) (.var 2)) [.ret (.bl false)] []],
  .ret (.bl true)]
structure C167 (B : Tb) : Prop where
  own : Is B 167 b167_order_right false 3 6
  c26 : C26 B
  c28 : C28 B
  c92 : C92 B
def b168_by_hand_right : List S := [
  .unp [0, 1, 2] (.call 63 []),
  .asg 3 (.bin .Pow (.int 10) (.int 40)),
  .asgO 4 (.lst [.comp (.call 91 [.var 0, .var 5]) (.nm 5) .ex [.tup [.int 0, .int 1, .int 2, .int 3, .int 6, .var 3]] .absent, .comp (.call 89 [.var 0, .var 5]) (.nm 5) .ex [.tup [.int 0, .int 1, .int 2, .int 3]] .absent]),
  .app 4 (.comp (.call 90 [.var 0, .var 5]) (.nm 5) .ex [.tup [.int 0, .int 1, .int 2, .int 3]] .absent),
  .asgO 6 (.lst [.lst [.int 5, .int 3, .int 2, .int 1, .int 1, .int 1], .lst [.bi .tuple [.str "abcde"], .tup [.str "b", .str "d", .str "e"], .tup [.str "b", .str "e"], .tup [.str "c"]]]),
  .app 6 (.lst [.bi .tuple [.str "abcde"], .tup [.str "a", .str "c", .str "e"], .tup [.str "a", .str "d"], .tup [.str "a"]]),
  .asgO 4 (.bin .Add (.peek 4) (.lst [.comp (.call 91 [.var 1, .var 5]) (.nm 5) .ex [.tup [.int 0, .int 6, .int 7]] .absent, .comp (.call 89 [.var 1, .var 5]) (.nm 5) .ex [.tup [.int 0, .int 7]] .absent])),
  .app 4 (.comp (.call 90 [.var 1, .var 5]) (.nm 5) .ex [.tup [.int 0, .int 7]] .absent),
  .asgO 6 (.bin .Add (.peek 6) (.lst [.lst [.int 2, .int 2, .int 1], .lst [.tup [.str "d", .str "e"], .tup [.str "d"]], .lst [.tup [.str "a", .str "b"], .tup [.str "b"]]])),
  .asgO 4 (.bin .Add (.peek 4) (.lst [.comp (.call 91 [.var 2, .var 5]) (.nm 5) .ex [.tup [.int 0, .int 1, .int 2, .int 3, .int 5, .int 6, .int 11]] .absent, .call 89 [.var 2, .int 1], .call 90 [.var 2, .int 1]])),
  .asgO 6 (.bin .Add (.peek 6) (.lst [.lst [.int 12, .int 4, .int 3, .int 2, .int 2, .int 1, .int 1], .bi .tuple [.str "behk"], .bi .tuple [.str "adgj"]])),
  .asgO 4 (.bin .Add (.peek 4) (.lst [.call 89 [.var 2, .int 2], .call 90 [.var 2, .int 2], .call 89 [.var 2, .int 5], .call 90 [.var 2, .int 5]])),
  .asgO 6 (.bin .Add (.peek 6) (.lst [.tup [.str "c", .str "h", .str "l"], .tup [.str "a", .str "f", .str "k"], .tup [.str "f", .str "l"], .tup [.str "a", .str "l"]])),
  .asg 7 (.tup [.tup [.str "a", .var 3], .tup [.str "b", .bin .Sub (.int 0) (.var 3)], .tup [.str "c", .int 0]]),
  .asgO 4 (.bin .Add (.peek 4) (.lst [.comp (.call 91 [.var 7, .var 5]) (.nm 5) .ex [.tup [.bin .Sub (.var 3) (.int 1), .var 3]] .absent, .call 89 [.var 7, .var 3], .call 90 [.var 7, .var 3]])),
  .asgO 6 (.bin .Add (.peek 6) (.lst [.lst [.int 3, .int 1], .tup [.str "c"], .tup [.str "b"]])),
  .asgO 4 (.bin .Add (.peek 4) (.lst [.call 91 [.tup [], .int 0], .call 89 [.tup [], .int 3], .call 90 [.tup [], .var 3], .call 92 [.tup [], .int 3], .call 89 [.tup [.tup [.str "z", .neg (.int 7)]], .int 0]])),
  .asgO 6 (.bin .Add (.peek 6) (.lst [.int 0, .tup [], .tup [], .tup [], .tup [.str "z"]])),
  .asg 8 (.call 26 [.var 0]),
  .asgO 4 (.bin .Add (.peek 4) (.lst [.callK 91 [1, 0] [] [.int 2, .var 8], .callK 89 [1, 0] [] [.int 2, .var 8], .callK 90 [1, 0] [] [.int 2, .var 8]])),
  .asgO 4 (.bin .Add (.peek 4) (.lst [.call 91 [.tup [.lst [.str "a", .int 0], .tup [.str "b", .int 1]], .int 0], .call 89 [.tup [.lst [.str "a", .int 0], .tup [.str "b", .int 1]], .int 1], .var 8])),
  .asgO 6 (.bin .Add (.peek 6) (.lst [.int 2, .tup [.str "b", .str "e"], .tup [.str "a", .str "d"], .int 2, .tup [.str "b"], .call 26 [.var 0]])),
  .frz 4,
  .frz 6,
  .ite (.not (.call 10 [.var 4, .var 6])) [.ret (.bl false)] [],
  .asg 9 (.callK 92 [1, 0] [] [.int 2, .var 8]),
  .ite (.cmp .NotEq (.bi .len [.call 28 [.var 0, .int 2, .var 9]]) (.int 2)) [.ret (.bl false)] [],
  .asg 10 (.lst [.tup [.var 0, .int 2, .int 2], .tup [.var 0, .int 3, .int 1], .tup [.var 1, .int 0, .int 2], .tup [.var 2, .int 1, .int 4], .tup [.var 2, .int 2, .int 3], .tup [.var 7, .var 3, .int 1]]),
  .ret (.bi .all [.comp (.call 167 [.get (.var 11) (.int 0), .get (.var 11) (.int 1), .get (.var 11) (.int 2)]) (.nm 11) .ex [.var 10] .absent])]
structure C168 (B : Tb) : Prop where
  own : Is B 168 b168_by_hand_right false 0 12
  c10 : C10 B
  c26 : C26 B
  c28 : C28 B
  c63 : C63 B
  c89 : C89 B
  c90 : C90 B
  c91 : C91 B
  c92 : C92 B
  c167 : C167 B
def b169_right : List S := [
  .loop (.nm 1) .range [.int 12] [.unp [2, 3] (.callT 61 0 [.callT 11 0 [.int 7, .int 13], .callT 7 0 [.int 6]]), .asg 4 (.bi .min [.comp (.bi .len [.var 5]) (.nm 5) .ex [.call 48 [.var 2, .var 3]] .absent]), .asg 6 (.bin .Add (.lst [.var 4, .var 4]) (.bin .Mult (.call 166 [.var 2, .var 3]) (.int 2))), .asg 7 (.lst [.call 91 [.var 2, .var 3], .call 91 [.call 26 [.var 2], .var 3], .call 89 [.var 2, .var 3]]), .asg 7 (.bin .Add (.var 7) (.lst [.call 90 [.var 2, .var 3], .call 89 [.call 26 [.var 2], .var 3], .call 90 [.call 26 [.var 2], .var 3]])), .ite (.or (.not (.call 10 [.var 7, .var 6])) (.cmp .NotEq (.lst [.bi .len [.get (.var 7) (.int 2)], .bi .len [.get (.var 7) (.int 3)]]) (.lst [.var 4, .var 4]))) [.ret (.bl false)] [], .asg 8 (.call 27 [.var 2, .var 3]), .ite (.cmp .NotEq (.comp (.var 9) (.nm 9) .ex [.var 8] (.cmp .Gt (.bi .len [.comp (.var 5) (.nm 5) .ex [.get (.var 7) (.int 3)] (.or (.cmp .Eq (.var 5) (.var 9)) (.cmp .In (.var 5) (.get (.var 8) (.var 9))))]) (.int 1))) (.lst [])) [.ret (.bl false)] [], .ite (.or (.not (.call 47 [.var 2, .var 3, .get (.var 7) (.int 2)])) (.not (.call 167 [.var 2, .var 3, .var 4]))) [.ret (.bl false)] []],
  .ret (.bl true)]
structure C169 (B : Tb) : Prop where
  own : Is B 169 b169_right true 1 10
  c7 : C7 B
  c10 : C10 B
  c11 : C11 B
  c26 : C26 B
  c27 : C27 B
  c47 : C47 B
  c48 : C48 B
  c61 : C61 B
  c89 : C89 B
  c90 : C90 B
  c91 : C91 B
  c166 : C166 B
  c167 : C167 B
def b170_law : List S := [
  .ite (.not (.call 168 [])) [.ret (.bl false)] [],
  .asg 1 (.call 8 [.var 0, .int 2]),
  .ret (.bi .all [.comp (.callR 169 (.callN 165 [.var 1, .var 2]) []) (.nm 2) .range [.bi .len [.var 1]] .absent])]
structure C170 (B : Tb) : Prop where
  own : Is B 170 b170_law false 1 3
  c8 : C8 B
  c165 : C165 B
  c168 : C168 B
  c169 : C169 B
def b171_box : List S := [
  .asg 2 (.ite (.cmp .Lt (.var 1) (.bi .len [.var 0])) (.get (.var 0) (.var 1)) (.int 0)),
  .ret (.lst [.bin .Mult (.bi .abs [.var 2]) (.bi .int [.cmp .GtE (.bi .abs [.var 2]) (.bin .Pow (.int 10) (.int 18))]), .bin .Add (.bin .Add (.bin .Mod (.bi .int [.var 2]) (.int 2305843009213693951)) (.bin .Mult (.int 39373) (.var 1))) (.int 2073), .int 0])]
structure C171 (B : Tb) : Prop where
  own : Is B 171 b171_box false 2 3
def b172_asks : List S := [
  .asg 4 (.call 27 [.var 0, .var 1]),
  .ite (.or (.cmp .NotEq (.bi .len [.var 3]) (.var 2)) (.cmp .NotEq (.comp (.var 5) (.nm 5) .ex [.var 3] (.cmp .NotIn (.var 5) (.var 4))) (.lst []))) [.ret (.bl false)] [],
  .ret (.cmp .Eq (.comp (.var 5) (.nm 5) .ex [.var 4] (.cmp .Gt (.bi .len [.comp (.var 6) (.nm 6) .ex [.var 3] (.or (.cmp .Eq (.var 6) (.var 5)) (.cmp .In (.var 6) (.get (.var 4) (.var 5))))]) (.int 1))) (.lst []))]
structure C172 (B : Tb) : Prop where
  own : Is B 172 b172_asks false 4 7
  c27 : C27 B
def b173_sizes_right : List S := [
  .par [(3, false), (4, false)] [.bi .min [.comp (.bi .len [.var 5]) (.nm 5) .ex [.var 2] .absent], .bi .max [.comp (.bi .len [.var 5]) (.nm 5) .ex [.var 2] .absent]],
  .ite (.cmp .Gt (.var 4) (.bin .Mult (.int 2) (.var 3))) [.ret (.bl false)] [],
  .loop (.nm 6) .range [.neg (.int 1), .bin .Add (.bi .len [.var 0]) (.int 3)] [.loop (.nm 7) .ex [.tup [.call 102 [.var 0, .var 1, .var 6], .call 102 [.call 26 [.var 0], .var 1, .var 6]]] [.ite (.cmp .NotEq (.cmp .Is (.var 7) .non) (.or (.cmp .Lt (.var 6) (.var 3)) (.cmp .Gt (.var 6) (.var 4)))) [.ret (.bl false)] [], .ite (.and (.cmp .IsNot (.var 7) .non) (.or (.cmp .NotIn (.var 7) (.var 2)) (.cmp .NotEq (.bi .len [.var 7]) (.var 6)))) [.ret (.bl false)] []]],
  .ret (.bl true)]
structure C173 (B : Tb) : Prop where
  own : Is B 173 b173_sizes_right false 3 8
  c26 : C26 B
  c102 : C102 B
def b174_by_hand_right : List S := [
  .unp [0, 1, 2] (.call 63 []),
  .asg 3 (.bin .Pow (.int 10) (.int 30)),
  .asg 4 (.lst [.comp (.call 101 [.var 0, .int 2, .bi .tuple [.var 5]]) (.nm 5) .ex [.tup [.str "ad", .str "be", .str "ae", .str "ac", .str "a", .str "", .str "da", .str "ade", .str "bd", .str "ce"]] .absent]),
  .asgO 6 (.lst [.lst [.bl true, .bl true, .bl true, .bl false, .bl false, .bl false, .bl false, .bl false, .bl false, .bl false]]),
  .asg 4 (.bin .Add (.var 4) (.lst [.comp (.call 101 [.var 2, .int 1, .bi .tuple [.var 5]]) (.nm 5) .ex [.tup [.str "adgj", .str "adgk", .str "behk", .str "aegj", .str "acgj", .str "adg", .str "adgjl"]] .absent])),
  .app 6 (.lst [.bl true, .bl true, .bl true, .bl false, .bl false, .bl false, .bl false]),
  .asg 4 (.bin .Add (.var 4) (.lst [.comp (.call 101 [.var 1, .int 0, .bi .tuple [.var 5]]) (.nm 5) .ex [.tup [.str "ab", .str "de", .str "be", .str "a", .str "ac"]] .absent, .call 101 [.tup [], .int 4, .tup []]])),
  .asgO 6 (.bin .Add (.peek 6) (.lst [.lst [.bl true, .bl true, .bl false, .bl false, .bl false], .bl true])),
  .asg 7 (.lst [.lst [.str "a", .str "d"], .str "ad", .non, .int 2, .tup [.str "a", .non], .tup [.str "a", .lst [.str "d"]], .tup [.str "a", .int 4], .tup [.str "a", .str "z"], .tup [.str "a", .str "d\n"], .tup [.tup [.str "a", .int 0], .tup [.str "d", .int 4]]]),
  .asg 7 (.bin .Add (.var 7) (.lst [.tup [.str "a", .str "d", .str "d"], .bl true, .tup [.lst [.str "a"], .lst [.str "d"]]])),
  .asg 4 (.bin .Add (.var 4) (.lst [.comp (.call 101 [.var 0, .int 2, .var 5]) (.nm 5) .ex [.var 7] .absent, .comp (.call 102 [.var 0, .int 2, .var 8]) (.nm 8) .ex [.tup [.int 3, .int 4, .int 1, .int 0, .neg (.int 1), .var 3, .neg (.var 3)]] .absent])),
  .asgO 6 (.bin .Add (.peek 6) (.lst [.bin .Mult (.lst [.bl false]) (.int 13), .lst [.tup [.str "a", .str "c", .str "e"], .non, .non, .non, .non, .non, .non]])),
  .asg 4 (.bin .Add (.var 4) (.lst [.comp (.call 102 [.tup [], .int 2, .var 8]) (.nm 8) .ex [.tup [.int 0, .int 1, .neg (.int 1)]] .absent, .call 102 [.var 0, .int 0, .int 5], .call 102 [.var 0, .int 3, .int 1]])),
  .asgO 6 (.bin .Add (.peek 6) (.lst [.lst [.tup [], .non, .non], .bi .tuple [.str "abcde"], .tup [.str "c"]])),
  .asg 4 (.bin .Add (.var 4) (.lst [.call 102 [.var 2, .int 1, .int 4], .call 102 [.var 2, .int 1, .int 3], .call 102 [.var 2, .int 1, .int 7], .call 102 [.var 2, .int 0, .int 12]])),
  .asgO 6 (.bin .Add (.peek 6) (.lst [.bi .tuple [.str "behk"], .non, .non, .bi .tuple [.str "abcdefghijkl"]])),
  .asg 4 (.bin .Add (.var 4) (.lst [.bi .len [.call 102 [.var 2, .int 1, .int 5]], .call 47 [.var 2, .int 1, .call 102 [.var 2, .int 1, .int 5]]])),
  .asgO 6 (.bin .Add (.peek 6) (.lst [.int 5, .bl true])),
  .asg 9 (.call 26 [.var 0]),
  .asg 4 (.bin .Add (.var 4) (.lst [.callK 101 [2, 1, 0] [] [.tup [.str "a", .str "d"], .int 2, .var 9], .callK 102 [2, 1, 0] [] [.int 3, .int 2, .var 9]])),
  .asg 4 (.bin .Add (.var 4) (.lst [.call 101 [.tup [.lst [.str "a", .int 0], .tup [.str "b", .int 1]], .int 1, .tup [.str "a"]], .call 102 [.tup [.lst [.str "a", .int 0], .tup [.str "b", .int 1]], .int 0, .int 2], .var 9])),
  .asgO 6 (.bin .Add (.peek 6) (.lst [.bl true, .tup [.str "a", .str "c", .str "e"], .bl true, .tup [.str "a", .str "b"], .call 26 [.var 0]])),
  .frz 6,
  .ret (.call 10 [.var 4, .var 6])]
structure C174 (B : Tb) : Prop where
  own : Is B 174 b174_by_hand_right false 0 10
  c10 : C10 B
  c26 : C26 B
  c47 : C47 B
  c63 : C63 B
  c101 : C101 B
  c102 : C102 B
def b175_right : List S := [
  .loop (.nm 1) .range [.int 8] [.unp [2, 3] (.callT 61 0 [.callT 11 0 [.int 6, .int 12], .callT 7 0 [.int 5]]), .asg 4 (.call 48 [.var 2, .var 3]), .par [(5, false), (6, false)] [.bi .min [.comp (.bi .len [.var 7]) (.nm 7) .ex [.var 4] .absent], .call 30 [.comp (.get (.var 7) (.int 0)) (.nm 7) .ex [.var 2] .absent]], .asg 8 (.lst [.comp (.call 101 [.var 2, .var 3, .var 7]) (.nm 7) .ex [.var 6] .absent, .comp (.call 101 [.call 26 [.var 2], .var 3, .var 7]) (.nm 7) .ex [.var 6] .absent]), .asg 9 (.comp (.call 172 [.var 2, .var 3, .var 5, .var 7]) (.nm 7) .ex [.var 6] .absent), .ite (.or (.not (.call 10 [.var 8, .lst [.var 9, .var 9]])) (.or (.cmp .NotIn (.bl true) (.var 9)) (.not (.call 173 [.var 2, .var 3, .var 4])))) [.ret (.bl false)] []],
  .ret (.bl true)]
structure C175 (B : Tb) : Prop where
  own : Is B 175 b175_right true 1 10
  c7 : C7 B
  c10 : C10 B
  c11 : C11 B
  c26 : C26 B
  c30 : C30 B
  c48 : C48 B
  c61 : C61 B
  c101 : C101 B
  c172 : C172 B
  c173 : C173 B
def b176_law : List S := [
  .ite (.not (.call 174 [])) [.ret (.bl false)] [],
  .asg 1 (.call 8 [.var 0, .int 2]),
  .ret (.bi .all [.comp (.callR 175 (.callN 171 [.var 1, .var 2]) []) (.nm 2) .range [.bi .len [.var 1]] .absent])]
structure C176 (B : Tb) : Prop where
  own : Is B 176 b176_law false 1 3
  c8 : C8 B
  c171 : C171 B
  c174 : C174 B
  c175 : C175 B
def b177_is_parts : List S := [
  .ite (.or (.not (.isi (.var 1) ["tuple"] false)) (.not (.bi .all [.comp (.and (.call 19 [.var 2]) (.cmp .Gt (.bi .len [.var 2]) (.int 0))) (.nm 2) .ex [.var 1] .absent]))) [.ret (.bl false)] [],
  .ret (.and (.call 3 [.var 1]) (.cmp .Eq (.bi .sorted [.comp2 (.var 3) (.nm 2) .ex [.var 1] .absent (.nm 3) .ex [.var 2] .absent]) (.bi .list [.call 37 [.var 0]])))]
structure C177 (B : Tb) : Prop where
  own : Is B 177 b177_is_parts false 2 4
  c3 : C3 B
  c19 : C19 B
  c37 : C37 B
def b178_heads_by : List S := [
  .asg 2 (.lst [.tup []]),
  .loop (.nm 3) .ex [.var 1] [.asg 4 (.comp (.var 5) (.nm 5) .ex [.var 3] (.bi .all [.comp (.or (.cmp .Eq (.var 6) (.var 5)) (.cmp .In (.var 6) (.get (.var 0) (.var 5)))) (.nm 6) .ex [.var 3] .absent])), .asg 2 (.comp2 (.tup [.star (.var 7), .var 5]) (.nm 7) .ex [.var 2] .absent (.nm 5) .ex [.var 4] (.not (.bi .any [.comp (.cmp .In (.var 8) (.get (.var 0) (.var 5))) (.nm 8) .ex [.var 7] .absent])))],
  .ret (.bi .sorted [.comp (.call 36 [.var 7]) (.nm 7) .ex [.var 2] .absent])]
structure C178 (B : Tb) : Prop where
  own : Is B 178 b178_heads_by false 2 9
  c36 : C36 B
def b179_is_grouping : List S := [
  .ret (.and (.call 177 [.var 0, .var 2]) (.cmp .Gt (.bi .len [.call 178 [.call 20 [.var 0, .var 1], .var 2]]) (.int 0)))]
structure C179 (B : Tb) : Prop where
  own : Is B 179 b179_is_grouping false 3 3
  c20 : C20 B
  c177 : C177 B
  c178 : C178 B
def b180_is_heads : List S := [
  .ret (.and (.call 19 [.var 3]) (.cmp .In (.var 3) (.call 178 [.call 20 [.var 0, .var 1], .var 2])))]
structure C180 (B : Tb) : Prop where
  own : Is B 180 b180_is_heads false 4 4
  c19 : C19 B
  c20 : C20 B
  c178 : C178 B
def b181_least_heads : List S := [
  .asg 3 (.call 178 [.call 20 [.var 0, .var 1], .var 2]),
  .ret (.ite (.cmp .Gt (.bi .len [.var 3]) (.int 0)) (.get (.var 3) (.int 0)) .non)]
structure C181 (B : Tb) : Prop where
  own : Is B 181 b181_least_heads false 3 4
  c20 : C20 B
  c178 : C178 B
def b182_box : List S := [
  .asg 2 (.ite (.cmp .Lt (.var 1) (.bi .len [.var 0])) (.get (.var 0) (.var 1)) (.int 0)),
  .ret (.lst [.bin .Mult (.bi .abs [.var 2]) (.bi .int [.cmp .GtE (.bi .abs [.var 2]) (.bin .Pow (.int 10) (.int 18))]), .bin .Add (.bin .Add (.bin .Mod (.bi .int [.var 2]) (.int 2305843009213693951)) (.bin .Mult (.int 39373) (.var 1))) (.int 2303), .int 0])]
structure C182 (B : Tb) : Prop where
  own : Is B 182 b182_box false 2 3
def b183_kit : List S := [
  .asg 0 (.tup [.tup [.str "a", .int 0], .tup [.str "b", .int 1], .tup [.str "c", .int 3], .tup [.str "d", .int 4], .tup [.str "f", .int 6]]),
  .asg 1 (.tup [.tup [.str "p", .int 0], .tup [.str "q", .int 1], .tup [.str "r", .int 2], .tup [.str "z", .neg (.int 1)]]),
  .asg 2 (.tup [.tup [.str "a", .int 0], .tup [.str "b", .int 1], .tup [.str "c", .int 3], .tup [.str "d", .int 4]]),
  .ret (.tup [.var 0, .var 1, .var 2])]
structure C183 (B : Tb) : Prop where
  own : Is B 183 b183_kit false 0 3
def b184_parts : List S := [
  .asg 1 (.lst [.tup []]),
  .loop (.nm 2) .ex [.var 0] [.asgO 3 (.lst []), .loop (.nm 4) .ex [.var 1] [.app 3 (.bin .Add (.var 4) (.tup [.tup [.var 2]])), .asgO 3 (.bin .Add (.peek 3) (.comp (.bin .Add (.bin .Add (.slice (.var 4) .absent (.var 5)) (.tup [.bin .Add (.get (.var 4) (.var 5)) (.tup [.var 2])])) (.slice (.var 4) (.bin .Add (.var 5) (.int 1)) .absent)) (.nm 5) .range [.bi .len [.var 4]] .absent))], .frz 3, .asg 1 (.var 3)],
  .ret (.bi .sorted [.comp (.bi .tuple [.bi .sorted [.var 4]]) (.nm 4) .ex [.var 1] .absent])]
structure C184 (B : Tb) : Prop where
  own : Is B 184 b184_parts false 1 6
def b185_are_heads : List S := [
  .loop (.nm 3) .ex [.var 1] [.asg 4 (.comp (.var 5) (.nm 5) .ex [.var 3] (.cmp .In (.var 5) (.var 2))), .ite (.cmp .NotEq (.bi .len [.var 4]) (.int 1)) [.ret (.bl false)] [], .ite (.cmp .NotEq (.comp (.var 5) (.nm 5) .ex [.var 3] (.and (.cmp .NotEq (.var 5) (.get (.var 4) (.int 0))) (.cmp .NotIn (.var 5) (.get (.var 0) (.get (.var 4) (.int 0)))))) (.lst [])) [.ret (.bl false)] []],
  .ret (.cmp .Eq (.comp (.var 5) (.nm 5) .ex [.var 2] (.cmp .NotEq (.comp (.var 6) (.nm 6) .ex [.get (.var 0) (.var 5)] (.cmp .In (.var 6) (.var 2))) (.lst []))) (.lst []))]
structure C185 (B : Tb) : Prop where
  own : Is B 185 b185_are_heads false 3 7
def b186_great_right : List S := [
  .par [(2, false), (3, false)] [.lst [], .lst []],
  .asg 4 (.bin .Pow (.int 10) (.int 40)),
  .par [(5, false), (6, false)] [.tup [.tup [.str "a", .int 7], .tup [.str "b", .int 7], .tup [.str "c", .int 7]], .tup [.tup [.str "a", .bin .Sub (.int 0) (.var 4)], .tup [.str "b", .bin .Sub (.int 1) (.var 4)], .tup [.str "c", .var 4]]],
  .asg 2 (.bin .Add (.var 2) (.lst [.call 181 [.var 5, .int 0, .tup [.tup [.str "a", .str "b", .str "c"]]]])),
  .asg 2 (.bin .Add (.var 2) (.lst [.call 180 [.var 5, .int 0, .tup [.tup [.str "a", .str "b", .str "c"]], .tup [.str "c"]]])),
  .asg 2 (.bin .Add (.var 2) (.lst [.call 179 [.var 5, .int 0, .tup [.tup [.str "a", .str "b"], .tup [.str "c"]]]])),
  .asg 2 (.bin .Add (.var 2) (.lst [.call 181 [.var 6, .int 1, .tup [.tup [.str "a", .str "b"], .tup [.str "c"]]]])),
  .asg 2 (.bin .Add (.var 2) (.lst [.call 179 [.var 6, .int 0, .tup [.tup [.str "a", .str "b"], .tup [.str "c"]]]])),
  .asg 2 (.bin .Add (.var 2) (.lst [.call 181 [.var 6, .var 4, .tup [.tup [.str "a", .str "b"], .tup [.str "c"]]]])),
  .asg 3 (.bin .Add (.var 3) (.lst [.tup [.str "a"], .bl true, .bl false, .tup [.str "a", .str "c"], .bl false, .tup [.str "a", .str "c"]])),
  .asg 7 (.bi .tuple [.str "abcdefghijkl"]),
  .asg 8 (.bi .tuple [.comp (.tup [.get (.var 7) (.var 9), .bin .Mult (.int 3) (.var 9)]) (.nm 9) .range [.int 12] .absent]),
  .asg 2 (.bin .Add (.var 2) (.lst [.call 181 [.var 8, .int 3, .bi .tuple [.comp (.slice (.var 7) (.bin .Mult (.int 3) (.var 9)) (.bin .Add (.bin .Mult (.int 3) (.var 9)) (.int 3))) (.nm 9) .range [.int 4] .absent]]])),
  .asg 2 (.bin .Add (.var 2) (.lst [.call 179 [.var 8, .int 2, .bi .tuple [.comp (.tup [.var 10]) (.nm 10) .ex [.var 7] .absent]]])),
  .asg 3 (.bin .Add (.var 3) (.lst [.tup [.str "b", .str "e", .str "h", .str "k"], .bl true])),
  .asg 11 (.lst [.call 26 [.var 0], .call 26 [.var 1]]),
  .asg 2 (.bin .Add (.var 2) (.lst [.callK 179 [2, 1, 0] [] [.var 1, .int 2, .get (.var 11) (.int 0)]])),
  .asg 2 (.bin .Add (.var 2) (.lst [.callK 180 [3, 2, 1, 0] [] [.tup [.str "a", .str "c", .str "f"], .get (.var 11) (.int 1), .int 2, .get (.var 11) (.int 0)]])),
  .asg 2 (.bin .Add (.var 2) (.lst [.callK 181 [2, 1, 0] [] [.get (.var 11) (.int 1), .int 2, .get (.var 11) (.int 0)]])),
  .asg 2 (.bin .Add (.var 2) (.lst [.call 181 [.tup [.tup [.str "a", .int 0], .lst [.str "b", .int 1]], .int 2, .lst [.tup [.str "a", .str "b"]]]])),
  .ret (.call 10 [.var 2, .bin .Add (.var 3) (.lst [.bl true, .bl true, .tup [.str "a", .str "c", .str "f"], .tup [.str "a"]])])]
structure C186 (B : Tb) : Prop where
  own : Is B 186 b186_great_right false 2 12
  c10 : C10 B
  c26 : C26 B
  c179 : C179 B
  c180 : C180 B
  c181 : C181 B
def b187_by_hand_right : List S := [
  .unp [0, 1, 2] (.call 183 []),
  .par [(3, false), (4, false)] [.tup [.tup [.str "a", .str "b"], .tup [.str "c", .str "d"], .tup [.str "f"]], .tup [.tup [.str "a", .str "b", .str "c", .str "d", .str "f"]]],
  .asg 5 (.lst [.var 3, .tup [.tup [.str "a"], .tup [.str "b", .str "c"], .tup [.str "d", .str "f"]], .tup [.tup [.str "a"], .tup [.str "b", .str "c", .str "d"], .tup [.str "f"]]]),
  .asg 5 (.bin .Add (.var 5) (.lst [.tup [.tup [.str "a", .str "b", .str "c"], .tup [.str "d", .str "f"]], .tup [.tup [.str "a", .str "b"], .tup [.str "c", .str "d", .str "f"]]])),
  .asg 6 (.lst [.var 4, .tup [.tup [.str "a", .str "c"], .tup [.str "b", .str "d", .str "f"]], .tup [.tup [.str "a"], .tup [.str "b"], .tup [.str "c", .str "d"], .tup [.str "f"]]]),
  .asg 6 (.bin .Add (.var 6) (.lst [.rev (.var 3), .slice (.var 3) .absent (.int 2), .tup [.tup [.str "b", .str "a"], .tup [.str "c", .str "d"], .tup [.str "f"]], .bin .Add (.var 3) (.tup [.tup []])])),
  .asg 6 (.bin .Add (.var 6) (.lst [.bin .Add (.tup [.tup []]) (.var 3), .bin .Add (.var 3) (.tup [.tup [.str "g"]]), .tup [.tup [.str "a", .str "b"], .tup [.str "b", .str "c", .str "d"], .tup [.str "f"]]])),
  .asg 6 (.bin .Add (.var 6) (.lst [.bi .list [.var 3], .tup [.lst [.str "a", .str "b"], .tup [.str "c", .str "d"], .tup [.str "f"]], .tup [], .non, .int 0, .str "abcdf"])),
  .asg 6 (.bin .Add (.var 6) (.lst [.tup [.str "ab", .str "cd", .str "f"], .tup [.tup [.str "a", .str "b"], .tup [.str "c", .str "d"], .tup [.str "f\n"]], .tup [.tup [.str "a", .str "b"], .tup [.str "c", .str "d"], .tup [.int 6]]])),
  .asg 6 (.bin .Add (.var 6) (.lst [.tup [.tup [.str "a", .str "b"], .tup [.str "c", .str "d"], .tup [.tup [.str "f"]]], .bl true])),
  .asg 7 (.lst [.comp (.call 179 [.var 0, .int 2, .var 8]) (.nm 8) .ex [.var 5] .absent]),
  .asg 7 (.bin .Add (.var 7) (.lst [.comp (.call 179 [.var 0, .int 2, .var 8]) (.nm 8) .ex [.var 6] .absent])),
  .asg 7 (.bin .Add (.var 7) (.lst [.call 179 [.var 0, .int 0, .tup [.tup [.str "a"], .tup [.str "b"], .tup [.str "c"], .tup [.str "d"], .tup [.str "f"]]], .call 179 [.tup [], .int 5, .tup []]])),
  .asg 7 (.bin .Add (.var 7) (.lst [.call 179 [.tup [], .int 5, .tup [.tup []]]])),
  .asg 9 (.lst [.bin .Mult (.lst [.bl true]) (.int 5), .bin .Mult (.lst [.bl false]) (.bi .len [.var 6]), .bl true, .bl true, .bl false]),
  .asg 10 (.lst [.tup [.str "a", .str "c", .str "f"], .tup [.str "a", .str "d", .str "f"], .tup [.str "b", .str "d", .str "f"], .tup [.str "b", .str "c", .str "f"], .tup [.str "a", .str "c"], .tup [.str "a", .str "b", .str "f"], .tup [.str "f", .str "c", .str "a"], .lst [.str "a", .str "c", .str "f"], .tup [], .non, .str "acf", .tup [.str "a", .str "c", .str "f", .str "f"], .tup [.str "a", .str "c", .lst [.str "f"]], .tup [.str "a", .str "c", .str "f\n"], .int 7]),
  .asg 7 (.bin .Add (.var 7) (.lst [.comp (.call 180 [.var 0, .int 2, .var 3, .var 8]) (.nm 8) .ex [.var 10] .absent])),
  .asg 7 (.bin .Add (.var 7) (.lst [.comp (.call 181 [.var 0, .int 2, .var 8]) (.nm 8) .ex [.bin .Add (.var 5) (.slice (.var 6) .absent (.int 3))] .absent])),
  .asg 9 (.bin .Add (.var 9) (.lst [.bin .Add (.lst [.bl true]) (.bin .Mult (.lst [.bl false]) (.int 14))])),
  .asg 9 (.bin .Add (.var 9) (.lst [.lst [.tup [.str "a", .str "c", .str "f"], .tup [.str "a", .str "c", .str "f"], .tup [.str "a", .str "c", .str "f"], .tup [.str "b", .str "d"], .tup [.str "a", .str "d"], .non, .non, .non]])),
  .ret (.and (.call 10 [.var 7, .var 9]) (.call 186 [.var 0, .var 3]))]
structure C187 (B : Tb) : Prop where
  own : Is B 187 b187_by_hand_right false 0 11
  c10 : C10 B
  c179 : C179 B
  c180 : C180 B
  c181 : C181 B
  c183 : C183 B
  c186 : C186 B
def b188_case_right : List S := [
  .par [(1, false), (2, false)] [.callT 11 0 [.int 5, .int 9], .callT 7 0 [.int 5]],
  .par [(3, false), (4, false)] [.call 27 [.var 1, .var 2], .comp (.var 5) (.tup [5, 6]) .ex [.var 1] .absent],
  .par [(7, false), (8, false)] [.call 184 [.var 4], .call 30 [.var 4]],
  .loop (.nm 9) .ex [.var 7] [.asg 10 (.comp (.var 11) (.nm 11) .ex [.var 8] (.call 185 [.var 3, .var 9, .var 11])), .asg 12 (.lst [.call 179 [.var 1, .var 2, .var 9], .call 181 [.var 1, .var 2, .var 9]]), .ite (.not (.call 10 [.var 12, .lst [.cmp .NotEq (.var 10) (.lst []), .ite (.cmp .NotEq (.var 10) (.lst [])) (.get (.var 10) (.int 0)) .non]])) [.ret (.bl false)] []],
  .asg 9 (.callT 9 0 [.var 7]),
  .asg 12 (.comp (.call 180 [.var 1, .var 2, .var 9, .var 11]) (.nm 11) .ex [.var 8] .absent),
  .ret (.call 10 [.var 12, .comp (.call 185 [.var 3, .var 9, .var 11]) (.nm 11) .ex [.var 8] .absent])]
structure C188 (B : Tb) : Prop where
  own : Is B 188 b188_case_right true 1 13
  c7 : C7 B
  c9 : C9 B
  c10 : C10 B
  c11 : C11 B
  c27 : C27 B
  c30 : C30 B
  c179 : C179 B
  c180 : C180 B
  c181 : C181 B
  c184 : C184 B
  c185 : C185 B
def b189_right : List S := [
  .ret (.bi .all [.comp (.callT 188 0 []) (.nm 1) .range [.int 3] .absent])]
structure C189 (B : Tb) : Prop where
  own : Is B 189 b189_right true 1 2
  c188 : C188 B
def b190_law : List S := [
  .ite (.not (.call 187 [])) [.ret (.bl false)] [],
  .asg 1 (.call 8 [.var 0, .int 3]),
  .ret (.bi .all [.comp (.callR 189 (.callN 182 [.var 1, .var 2]) []) (.nm 2) .range [.bi .len [.var 1]] .absent])]
structure C190 (B : Tb) : Prop where
  own : Is B 190 b190_law false 1 3
  c8 : C8 B
  c182 : C182 B
  c187 : C187 B
  c189 : C189 B
def b191_order_first : List S := [
  .ret (.tup [.star (.var 1), .star (.comp (.var 2) (.nm 2) .ex [.call 37 [.var 0]] (.cmp .NotIn (.var 2) (.var 1)))])]
structure C191 (B : Tb) : Prop where
  own : Is B 191 b191_order_first false 2 3
  c37 : C37 B
def b192_most_order : List S := [
  .ret (.call 191 [.var 0, .call 56 [.var 0, .var 1]])]
structure C192 (B : Tb) : Prop where
  own : Is B 192 b192_most_order false 2 2
  c56 : C56 B
  c191 : C191 B
def b193_fewest_order : List S := [
  .ret (.call 191 [.var 0, .call 89 [.var 0, .var 1]])]
structure C193 (B : Tb) : Prop where
  own : Is B 193 b193_fewest_order false 2 2
  c89 : C89 B
  c191 : C191 B
def b194_case_right : List S := [
  .par [(2, false), (3, false)] [.call 45 [.var 0, .var 1], .call 115 [.var 0, .var 1]],
  .asg 4 (.sset (.comp (.bi .len [.var 5]) (.nm 5) .ex [.var 2] .absent)),
  .asg 6 (.cmp .Eq (.bi .len [.var 4]) (.int 1)),
  .asg 7 (.lst [.call 117 [.var 0, .var 1], .cmp .Eq (.call 57 [.var 0, .var 1]) (.call 91 [.var 0, .var 1]), .cmp .Eq (.call 116 [.var 0, .var 1]) (.tup []), .call 118 [.var 0, .var 1]]),
  .ite (.or (.not (.call 10 [.var 7, .lst [.var 6, .var 6, .var 6, .ite (.var 6) (.get (.var 4) (.int 0)) .non]])) (.cmp .NotEq (.call 44 [.var 0, .var 1]) (.bi .len [.var 2]))) [.ret (.bl false)] [],
  .ite (.cmp .NotEq (.call 116 [.var 0, .var 1]) (.bi .tuple [.comp (.var 8) (.nm 8) .ex [.call 37 [.var 0]] (.cmp .NotEq (.call 140 [.var 0, .var 1, .var 8]) (.int 1))])) [.ret (.bl false)] [],
  .asg 9 (.tup [.call 192 [.var 0, .var 1], .call 193 [.var 0, .var 1]]),
  .ite (.cmp .Eq (.call 146 [.var 0, .var 1, .var 9]) (.var 6)) [.ret (.bl false)] [],
  .ite (.var 6) [.loop (.nm 5) .ex [.var 2] [.ite (.cmp .NotEq (.comp (.var 10) (.nm 10) .ex [.var 3] (.cmp .NotEq (.bi .len [.comp (.var 8) (.nm 8) .ex [.var 10] (.cmp .In (.var 8) (.var 5))]) (.int 1))) (.lst [])) [.ret (.bl false)] []]] [.asg 11 (.call 143 [.var 0, .var 1]), .ite (.or (.not (.call 148 [.var 0, .get (.var 11) (.int 0)])) (.not (.call 148 [.var 0, .get (.var 11) (.int 1)]))) [.ret (.bl false)] [], .ite (.cmp .Eq (.bi .len [.call 152 [.var 0, .var 1, .get (.var 11) (.int 0)]]) (.bi .len [.call 152 [.var 0, .var 1, .get (.var 11) (.int 1)]])) [.ret (.bl false)] []],
  .ret (.call 154 [.var 0, .var 1, .var 6])]
structure C194 (B : Tb) : Prop where
  own : Is B 194 b194_case_right false 2 12
  c10 : C10 B
  c37 : C37 B
  c44 : C44 B
  c45 : C45 B
  c57 : C57 B
  c91 : C91 B
  c115 : C115 B
  c116 : C116 B
  c117 : C117 B
  c118 : C118 B
  c140 : C140 B
  c143 : C143 B
  c146 : C146 B
  c148 : C148 B
  c152 : C152 B
  c154 : C154 B
  c192 : C192 B
  c193 : C193 B
def b195_by_hand_right : List S := [
  .par [(0, false), (1, false), (2, false)] [.call 123 [.tup [.int 0, .int 2, .int 4]], .call 123 [.tup [.int 0, .int 1, .int 3, .int 4]], .call 123 [.tup [.int 0, .int 1, .int 3, .int 4, .int 6]]],
  .asg 3 (.lst [.call 45 [.var 0, .int 2], .call 57 [.var 2, .int 2], .call 91 [.var 2, .int 2], .call 118 [.var 1, .int 2], .call 115 [.var 1, .int 2], .call 152 [.var 0, .int 2, .tup [.str "b", .str "a", .str "c"]]]),
  .ite (.not (.call 10 [.var 3, .lst [.lst [.tup [.str "a", .str "c"], .tup [.str "b"]], .int 3, .int 2, .int 2, .tup [.tup [.str "a", .str "b"], .tup [.str "c", .str "d"]], .tup [.str "b"]]])) [.ret (.bl false)] [],
  .asg 4 (.lst [.tup [.var 0, .int 2], .tup [.var 1, .int 2], .tup [.var 2, .int 2], .tup [.tup [], .int 3], .tup [.call 123 [.tup [.int 5, .int 5, .int 7]], .int 0], .tup [.call 123 [.tup [.int 5, .int 5, .int 7]], .int 2], .tup [.var 2, .int 6], .tup [.var 2, .int 0]]),
  .ret (.bi .all [.comp (.call 194 [.get (.var 5) (.int 0), .get (.var 5) (.int 1)]) (.nm 5) .ex [.var 4] .absent])]
structure C195 (B : Tb) : Prop where
  own : Is B 195 b195_by_hand_right false 0 6
  c10 : C10 B
  c45 : C45 B
  c57 : C57 B
  c91 : C91 B
  c115 : C115 B
  c118 : C118 B
  c123 : C123 B
  c152 : C152 B
  c194 : C194 B
def b196_right : List S := [
  .loop (.nm 1) .range [.int 6] [.ite (.not (.call 194 [.callT 11 0 [.int 9, .int 14], .callT 7 0 [.int 7]])) [.ret (.bl false)] []],
  .ret (.bl true)]
structure C196 (B : Tb) : Prop where
  own : Is B 196 b196_right true 1 2
  c7 : C7 B
  c11 : C11 B
  c194 : C194 B
def b197_law : List S := [
  .ite (.not (.call 195 [])) [.ret (.bl false)] [],
  .asg 1 (.call 8 [.var 0, .int 3]),
  .ret (.bi .all [.comp (.callR 196 (.callN 153 [.var 1, .var 2]) []) (.nm 2) .range [.bi .len [.var 1]] .absent])]
structure C197 (B : Tb) : Prop where
  own : Is B 197 b197_law false 1 3
  c8 : C8 B
  c153 : C153 B
  c195 : C195 B
  c196 : C196 B
end KN

set_option maxRecDepth 100000
set_option maxHeartbeats 4000000
namespace KN
open PySem L2 PyProof.Rows
theorem gives_eq {C : Nat → List D → M D} {f : Nat} {ds : List D} {r : D} (h : Ok (C f ds) [] fun d _ => d = r) : Gives C f ds r := by
  obtain ⟨d, g, rfl⟩ := gives_ok h
  exact g
/-! ### the law's own def -/
def lawB (hd cl s rt bx : Nat) : List S := [
  .ite (.not (.call hd [])) [.ret (.bl false)] [],
  .asg 1 (.call cl [.var 0, .int s]),
  .ret (.bi .all [.comp (.callR rt (.callN bx [.var 1, .var 2]) []) (.nm 2) .range [.bi .len [.var 1]] .absent])]
theorem law_ok {B : Tb} {n f hd cl s rt bx : Nat} {z : Int} (h : Is B f (lawB hd cl s rt bx) false 1 3) (hc : Is B cl cellsB false 2 6) (hb : Is B bx (boxB z) false 2 3) (s0 : 0 < s) (s1 : s < 63)
    (hh : Gives (callF B (n + 1)) hd [] (.bool true)) (hr : ∀ τ, Bx τ 0 → Ok (callF B (n + 1) rt []) τ fun d _ => d = .bool true) {xs : List Int} (hl : xs.length ≤ 63) : Gives (callF B (n + 2)) f [.list (xs.map .int)] (.bool true) := by
  refine gives_eq ?_
  rw [ok_is h rfl]
  simp [lawB]
  refine ⟨_, hh, rfl, ?_⟩
  obtain ⟨d, g, ys, rfl, y1, y2⟩ := gives_ok (cells_ok (n := n) (s := s) (xs := xs) hc s0 s1 hl (τ := []))
  refine ⟨_, g, ?_⟩
  simp
  refine ⟨_, wc (wd_range (by omega)) (by simp; omega), ok_compM (fun _ => .bool true) (List.range ys.length) (fun k hk τ => ?_) (all_true fun y hy => ?_)⟩
  · simp
    obtain ⟨d, g, σ, rfl, bx⟩ := gives_ok (box_ok (n := n) (xs := ys) (k := k) hb (List.mem_range.1 hk) (τ := []))
    exact ⟨_, g, σ, rfl, (hr σ bx).mono fun d _ q => q⟩
  · obtain ⟨_, _, rfl⟩ := List.mem_map.1 hy
    rfl
/-- what a closed run says, by running it -/
def runsTrue (C : Nat → List D → M D) (f : Nat) : Bool := match C f [] [] with
  | some (.bool true, _) => true
  | _ => false
theorem gives_run {C : Nat → List D → M D} {f : Nat} (h : runsTrue C f = true) : Gives C f [] (.bool true) := by
  unfold runsTrue at h
  split at h
  · rename_i e; exact ⟨_, e⟩
  · cases h
theorem same_g {B : Tb} {n : Nat} (h : C10 B) {d : D} (h1 : d.depth < n) (h2 : okD d = true) : Gives (callF B n) 10 [d, d] (.bool true) := same_gives (f := 10) h.own h1 h2
theorem take_g {B : Tb} {n : Nat} (h : C7 B) {top : Int} {τ : List D} {m : Nat} (hb : Bx τ m) (hm : m < 2 ^ 60) (h0 : 0 < top) (h1 : top < 1073741824) :
    Ok (callF B (n + 1) 7 [.int top]) τ fun d τ' => ∃ k : Nat, d = .int k ∧ (k : Int) < top ∧ Bx τ' (m + 1) :=
  (take_ok (f := 7) h.own hb hm h0 h1).mono fun d τ' ⟨k, e, k0, k1, b⟩ => by
    obtain ⟨j, rfl⟩ := Int.eq_ofNat_of_zero_le k0
    exact ⟨j, e, k1, b⟩
/-! ### names, numbers -/
def isIntD : D → Bool
  | .int _ => true
  | _ => false
theorem number_g {B : Tb} {n : Nat} (h : C1 B) (d : D) : Gives (callF B (n + 1)) 1 [d] (.bool (isIntD d)) := by
  cases d
  all_goals
    apply gives_er1 h.own rfl
    unfold b1_is_number
    repeat' (first | with_reducible (first | exact ev_int | exact ev_str | exact ev_bl | exact ev_non | exact ev_glob | exact ev_dic0 | exact evs_nil | apply evs_cons | apply evs_star | apply ev_is | apply ev_isnt | apply ev_bin | apply ev_cmp | apply ev_chain | apply ev_neg | apply ev_not | apply ev_andB | apply ev_orB | apply ev_ite | apply ev_bi | apply ev_isi | apply ev_get | apply ev_sliceTo | apply ev_sliceFrom | apply ev_rev | apply ev_sset | apply ev_lst | apply ev_tup | apply ev_call | apply ev_callN | apply ev_callK | apply ev_dget | apply ev_comp | apply ev_compIf | apply wc | apply er_ret | apply er_asg | apply er_asgL | apply er_ifRet | apply er_ifR | apply er_par | exact wd_lm | exact wd_tm | exact wd_s | exact wd_l | exact wd_t | exact wd_d | exact wd_vals | exact wd_items | exact wd_elm | exact wd_etm | exact wd_el | exact wd_et | exact wd_es | exact wd_zlm | exact wd_ztm | exact wd_zltm | exact wd_ztlm | exact wd_zl | exact wd_zt | apply wd_range | apply wd_rangeI | exact isi_none_tuple | exact isi_none_bool | exact isi_none_list_tuple | exact isi_none_list | exact isi_none_dict | exact isi_none_int | exact isi_none_str | exact isi_none_bool_str | exact isi_bool_tuple | exact isi_bool_bool | exact isi_bool_list_tuple | exact isi_bool_list | exact isi_bool_dict | exact isi_bool_int | exact isi_bool_str | exact isi_bool_bool_str | exact isi_int_tuple | exact isi_int_bool | exact isi_int_list_tuple | exact isi_int_list | exact isi_int_dict | exact isi_int_int | exact isi_int_str | exact isi_int_bool_str | exact isi_str_tuple | exact isi_str_bool | exact isi_str_list_tuple | exact isi_str_list | exact isi_str_dict | exact isi_str_int | exact isi_str_str | exact isi_str_bool_str | exact isi_list_tuple | exact isi_list_bool | exact isi_list_list_tuple | exact isi_list_list | exact isi_list_dict | exact isi_list_int | exact isi_list_str | exact isi_list_bool_str | exact isi_tuple_tuple | exact isi_tuple_bool | exact isi_tuple_list_tuple | exact isi_tuple_list | exact isi_tuple_dict | exact isi_tuple_int | exact isi_tuple_str | exact isi_tuple_bool_str | exact isi_dict_tuple | exact isi_dict_bool | exact isi_dict_list_tuple | exact isi_dict_list | exact isi_dict_dict | exact isi_dict_int | exact isi_dict_str | exact isi_dict_bool_str | exact binD_add | exact binD_sub | apply binD_mul | apply binD_mod | apply binD_div | apply binD_addL | apply binD_addT | apply binD_addS | exact cmpD_lt | exact cmpD_le | exact cmpD_gt | exact cmpD_ge | exact cmpD_eqI | exact cmpD_neI | exact cmpD_eqB | exact cmpD_neB | exact inS_one | exact ninS_one | exact biD_lenL | exact biD_lenT | exact biD_lenD | apply lenS_ok | exact biD_listL | exact biD_listT | exact biD_tupleL | exact biD_tupleT | exact biD_int | exact biD_intB | exact biD_abs | exact all_bools | exact any_bools | exact get_t0 | exact get_t1 | exact get_l0 | exact get_l1 | exact sl_fromL | exact sl_fromT | exact sl_toL | exact sl_toT | exact sl_1L | exact sl_1T | exact sl_fromL' | exact sl_fromT' | exact sl_toL' | exact sl_toT' | apply cmp_ltS | apply cmp_eqS | apply cmp_neS | exact truD_bool | exact truD_none | exact truD_int | exact truD_list | exact truD_tuple | exact abs_ft | exact abs_tf | exact abs_nf | exact abs_nt | exact abs_ft0 | exact abs_tf0 | exact abs_ftr | exact abs_tfr | intro _) | exact ev_var rfl | exact ev_peekL rfl | exact ev_peekD rfl | exact isStar_of rfl | exact gone_of rfl | apply ex_ev rfl | apply ex_ev2 rfl)
    rfl
def abc : List Nat := (Str.ofString "abcdefghijklmnopqrstuvwxyz").cps.toList
def isNameS (x : Str) : Bool := decide ((1 : Int) ≤ x.length) && decide ((x.length : Int) ≤ 8) && x.cps.toList.all fun c => decide (c ∈ abc)
def isNameD : D → Bool
  | .str x => isNameS x
  | _ => false
theorem okD_str {x : Str} (h : okD (.str x) = true) : PyData.strOk x = true ∧ x.length ≤ 4096 := by
  simpa [okD] using h
theorem strlen {x : Str} : x.cps.toList.length = x.length := by simp [Str.length]
theorem name_g {B : Tb} {n : Nat} (h : C2 B) (d : D) (hd : okD d = true) : Gives (callF B (n + 1)) 2 [d] (.bool (isNameD d)) := by
  cases d with
  | str x =>
    have hx := (okD_str hd).2
    have hy : x.cps.toList.length ≤ 4096 := by rw [strlen]; exact hx
    apply gives_er1 h.own rfl
    unfold b2_is_name
    repeat' (first | with_reducible (first | exact ev_int | exact ev_str | exact ev_bl | exact ev_non | exact ev_glob | exact ev_dic0 | exact evs_nil | apply evs_cons | apply evs_star | apply ev_is | apply ev_isnt | apply ev_bin | apply ev_cmp | apply ev_chain | apply ev_neg | apply ev_not | apply ev_andB | apply ev_orB | apply ev_ite | apply ev_bi | apply ev_isi | apply ev_get | apply ev_sliceTo | apply ev_sliceFrom | apply ev_rev | apply ev_sset | apply ev_lst | apply ev_tup | apply ev_call | apply ev_callN | apply ev_callK | apply ev_dget | apply ev_comp | apply ev_compIf | apply wc | apply er_ret | apply er_asg | apply er_asgL | apply er_ifRet | apply er_ifR | apply er_par | exact wd_lm | exact wd_tm | exact wd_s | exact wd_l | exact wd_t | exact wd_d | exact wd_vals | exact wd_items | exact wd_elm | exact wd_etm | exact wd_el | exact wd_et | exact wd_es | exact wd_zlm | exact wd_ztm | exact wd_zltm | exact wd_ztlm | exact wd_zl | exact wd_zt | apply wd_range | apply wd_rangeI | exact isi_none_tuple | exact isi_none_bool | exact isi_none_list_tuple | exact isi_none_list | exact isi_none_dict | exact isi_none_int | exact isi_none_str | exact isi_none_bool_str | exact isi_bool_tuple | exact isi_bool_bool | exact isi_bool_list_tuple | exact isi_bool_list | exact isi_bool_dict | exact isi_bool_int | exact isi_bool_str | exact isi_bool_bool_str | exact isi_int_tuple | exact isi_int_bool | exact isi_int_list_tuple | exact isi_int_list | exact isi_int_dict | exact isi_int_int | exact isi_int_str | exact isi_int_bool_str | exact isi_str_tuple | exact isi_str_bool | exact isi_str_list_tuple | exact isi_str_list | exact isi_str_dict | exact isi_str_int | exact isi_str_str | exact isi_str_bool_str | exact isi_list_tuple | exact isi_list_bool | exact isi_list_list_tuple | exact isi_list_list | exact isi_list_dict | exact isi_list_int | exact isi_list_str | exact isi_list_bool_str | exact isi_tuple_tuple | exact isi_tuple_bool | exact isi_tuple_list_tuple | exact isi_tuple_list | exact isi_tuple_dict | exact isi_tuple_int | exact isi_tuple_str | exact isi_tuple_bool_str | exact isi_dict_tuple | exact isi_dict_bool | exact isi_dict_list_tuple | exact isi_dict_list | exact isi_dict_dict | exact isi_dict_int | exact isi_dict_str | exact isi_dict_bool_str | exact binD_add | exact binD_sub | apply binD_mul | apply binD_mod | apply binD_div | apply binD_addL | apply binD_addT | apply binD_addS | exact cmpD_lt | exact cmpD_le | exact cmpD_gt | exact cmpD_ge | exact cmpD_eqI | exact cmpD_neI | exact cmpD_eqB | exact cmpD_neB | exact inS_one | exact ninS_one | exact biD_lenL | exact biD_lenT | exact biD_lenD | apply lenS_ok | exact biD_listL | exact biD_listT | exact biD_tupleL | exact biD_tupleT | exact biD_int | exact biD_intB | exact biD_abs | exact all_bools | exact any_bools | exact get_t0 | exact get_t1 | exact get_l0 | exact get_l1 | exact sl_fromL | exact sl_fromT | exact sl_toL | exact sl_toT | exact sl_1L | exact sl_1T | exact sl_fromL' | exact sl_fromT' | exact sl_toL' | exact sl_toT' | apply cmp_ltS | apply cmp_eqS | apply cmp_neS | exact truD_bool | exact truD_none | exact truD_int | exact truD_list | exact truD_tuple | exact abs_ft | exact abs_tf | exact abs_nf | exact abs_nt | exact abs_ft0 | exact abs_tf0 | exact abs_ftr | exact abs_tfr | intro _) | exact ev_var rfl | exact ev_peekL rfl | exact ev_peekD rfl | exact isStar_of rfl | exact gone_of rfl | apply ex_ev rfl | apply ex_ev2 rfl)
    · omega
    · omega
    · rfl
  | _ =>
    apply gives_er1 h.own rfl
    unfold b2_is_name
    repeat' (first | with_reducible (first | exact ev_int | exact ev_str | exact ev_bl | exact ev_non | exact ev_glob | exact ev_dic0 | exact evs_nil | apply evs_cons | apply evs_star | apply ev_is | apply ev_isnt | apply ev_bin | apply ev_cmp | apply ev_chain | apply ev_neg | apply ev_not | apply ev_andB | apply ev_orB | apply ev_ite | apply ev_bi | apply ev_isi | apply ev_get | apply ev_sliceTo | apply ev_sliceFrom | apply ev_rev | apply ev_sset | apply ev_lst | apply ev_tup | apply ev_call | apply ev_callN | apply ev_callK | apply ev_dget | apply ev_comp | apply ev_compIf | apply wc | apply er_ret | apply er_asg | apply er_asgL | apply er_ifRet | apply er_ifR | apply er_par | exact wd_lm | exact wd_tm | exact wd_s | exact wd_l | exact wd_t | exact wd_d | exact wd_vals | exact wd_items | exact wd_elm | exact wd_etm | exact wd_el | exact wd_et | exact wd_es | exact wd_zlm | exact wd_ztm | exact wd_zltm | exact wd_ztlm | exact wd_zl | exact wd_zt | apply wd_range | apply wd_rangeI | exact isi_none_tuple | exact isi_none_bool | exact isi_none_list_tuple | exact isi_none_list | exact isi_none_dict | exact isi_none_int | exact isi_none_str | exact isi_none_bool_str | exact isi_bool_tuple | exact isi_bool_bool | exact isi_bool_list_tuple | exact isi_bool_list | exact isi_bool_dict | exact isi_bool_int | exact isi_bool_str | exact isi_bool_bool_str | exact isi_int_tuple | exact isi_int_bool | exact isi_int_list_tuple | exact isi_int_list | exact isi_int_dict | exact isi_int_int | exact isi_int_str | exact isi_int_bool_str | exact isi_str_tuple | exact isi_str_bool | exact isi_str_list_tuple | exact isi_str_list | exact isi_str_dict | exact isi_str_int | exact isi_str_str | exact isi_str_bool_str | exact isi_list_tuple | exact isi_list_bool | exact isi_list_list_tuple | exact isi_list_list | exact isi_list_dict | exact isi_list_int | exact isi_list_str | exact isi_list_bool_str | exact isi_tuple_tuple | exact isi_tuple_bool | exact isi_tuple_list_tuple | exact isi_tuple_list | exact isi_tuple_dict | exact isi_tuple_int | exact isi_tuple_str | exact isi_tuple_bool_str | exact isi_dict_tuple | exact isi_dict_bool | exact isi_dict_list_tuple | exact isi_dict_list | exact isi_dict_dict | exact isi_dict_int | exact isi_dict_str | exact isi_dict_bool_str | exact binD_add | exact binD_sub | apply binD_mul | apply binD_mod | apply binD_div | apply binD_addL | apply binD_addT | apply binD_addS | exact cmpD_lt | exact cmpD_le | exact cmpD_gt | exact cmpD_ge | exact cmpD_eqI | exact cmpD_neI | exact cmpD_eqB | exact cmpD_neB | exact inS_one | exact ninS_one | exact biD_lenL | exact biD_lenT | exact biD_lenD | apply lenS_ok | exact biD_listL | exact biD_listT | exact biD_tupleL | exact biD_tupleT | exact biD_int | exact biD_intB | exact biD_abs | exact all_bools | exact any_bools | exact get_t0 | exact get_t1 | exact get_l0 | exact get_l1 | exact sl_fromL | exact sl_fromT | exact sl_toL | exact sl_toT | exact sl_1L | exact sl_1T | exact sl_fromL' | exact sl_fromT' | exact sl_toL' | exact sl_toT' | apply cmp_ltS | apply cmp_eqS | apply cmp_neS | exact truD_bool | exact truD_none | exact truD_int | exact truD_list | exact truD_tuple | exact abs_ft | exact abs_tf | exact abs_nf | exact abs_nt | exact abs_ft0 | exact abs_tf0 | exact abs_ftr | exact abs_tfr | intro _) | exact ev_var rfl | exact ev_peekL rfl | exact ev_peekD rfl | exact isStar_of rfl | exact gone_of rfl | apply ex_ev rfl | apply ex_ev2 rfl)
    rfl

/-! ### rows -/
def upS (l : List Str) : Bool := (l.zip (l.drop 1)).all fun p => ltS p.1 p.2
theorem rises_g {B : Tb} {n : Nat} {ι : Type} {g : ι → Str} (h : C3 B) (l : List ι) (hl : l.length ≤ 4096) (hs : ∀ x ∈ l, PyData.strOk (g x) = true) : Gives (callF B (n + 1)) 3 [.list (l.map fun x => .str (g x))] (.bool (upS (l.map g))) := by
  apply gives_er1 h.own rfl
  · unfold b3_rises
    repeat' (first | with_reducible (first | exact ev_int | exact ev_str | exact ev_bl | exact ev_non | exact ev_glob | exact ev_dic0 | exact evs_nil | apply evs_cons | apply evs_star | apply ev_is | apply ev_isnt | apply ev_bin | apply ev_cmp | apply ev_chain | apply ev_neg | apply ev_not | apply ev_andB | apply ev_orB | apply ev_ite | apply ev_bi | apply ev_isi | apply ev_get | apply ev_sliceTo | apply ev_sliceFrom | apply ev_rev | apply ev_sset | apply ev_lst | apply ev_tup | apply ev_call | apply ev_callN | apply ev_callK | apply ev_dget | apply ev_comp | apply ev_compIf | apply wc | apply er_ret | apply er_asg | apply er_asgL | apply er_ifRet | apply er_ifR | apply er_par | exact wd_lm | exact wd_tm | exact wd_s | exact wd_l | exact wd_t | exact wd_d | exact wd_vals | exact wd_items | exact wd_elm | exact wd_etm | exact wd_el | exact wd_et | exact wd_es | exact wd_zlm | exact wd_ztm | exact wd_zltm | exact wd_ztlm | exact wd_zl | exact wd_zt | apply wd_range | apply wd_rangeI | exact isi_none_tuple | exact isi_none_bool | exact isi_none_list_tuple | exact isi_none_list | exact isi_none_dict | exact isi_none_int | exact isi_none_str | exact isi_none_bool_str | exact isi_bool_tuple | exact isi_bool_bool | exact isi_bool_list_tuple | exact isi_bool_list | exact isi_bool_dict | exact isi_bool_int | exact isi_bool_str | exact isi_bool_bool_str | exact isi_int_tuple | exact isi_int_bool | exact isi_int_list_tuple | exact isi_int_list | exact isi_int_dict | exact isi_int_int | exact isi_int_str | exact isi_int_bool_str | exact isi_str_tuple | exact isi_str_bool | exact isi_str_list_tuple | exact isi_str_list | exact isi_str_dict | exact isi_str_int | exact isi_str_str | exact isi_str_bool_str | exact isi_list_tuple | exact isi_list_bool | exact isi_list_list_tuple | exact isi_list_list | exact isi_list_dict | exact isi_list_int | exact isi_list_str | exact isi_list_bool_str | exact isi_tuple_tuple | exact isi_tuple_bool | exact isi_tuple_list_tuple | exact isi_tuple_list | exact isi_tuple_dict | exact isi_tuple_int | exact isi_tuple_str | exact isi_tuple_bool_str | exact isi_dict_tuple | exact isi_dict_bool | exact isi_dict_list_tuple | exact isi_dict_list | exact isi_dict_dict | exact isi_dict_int | exact isi_dict_str | exact isi_dict_bool_str | exact binD_add | exact binD_sub | apply binD_mul | apply binD_mod | apply binD_div | apply binD_addL | apply binD_addT | apply binD_addS | exact cmpD_lt | exact cmpD_le | exact cmpD_gt | exact cmpD_ge | exact cmpD_eqI | exact cmpD_neI | exact cmpD_eqB | exact cmpD_neB | exact inS_one | exact ninS_one | exact biD_lenL | exact biD_lenT | exact biD_lenD | apply lenS_ok | exact biD_listL | exact biD_listT | exact biD_tupleL | exact biD_tupleT | exact biD_int | exact biD_intB | exact biD_abs | exact all_bools | exact any_bools | exact get_t0 | exact get_t1 | exact get_l0 | exact get_l1 | exact sl_fromL | exact sl_fromT | exact sl_toL | exact sl_toT | exact sl_1L | exact sl_1T | exact sl_fromL' | exact sl_fromT' | exact sl_toL' | exact sl_toT' | apply cmp_ltS | apply cmp_eqS | apply cmp_neS | exact truD_bool | exact truD_none | exact truD_int | exact truD_list | exact truD_tuple | exact abs_ft | exact abs_tf | exact abs_nf | exact abs_nt | exact abs_ft0 | exact abs_tf0 | exact abs_ftr | exact abs_tfr | intro _) | exact ev_var rfl | exact ev_peekL rfl | exact ev_peekD rfl | exact isStar_of rfl | exact gone_of rfl | apply ex_ev rfl | apply ex_ev2 rfl)
    · rw [List.length_zip]; omega
    · exact hs _ (List.of_mem_zip ‹_›).1
    · exact hs _ (List.mem_of_mem_drop (List.of_mem_zip ‹_›).2)
  · unfold upS
    rw [← List.map_drop, List.zip_map, List.all_map]
    rfl
def isRowD : D → Bool
  | .tuple [a, b] => isNameD a && isIntD b
  | _ => false
theorem row_g {B : Tb} {n : Nat} (h : C4 B) (d : D) (hd : okD d = true) : Gives (callF B (n + 2)) 4 [d] (.bool (isRowD d)) := by
  cases d with
  | tuple xs =>
    match xs, hd with
    | [a, b], hd =>
      have hd : okDs [a, b] = true := by simp [okD] at hd; exact hd
      apply gives_er1 h.own rfl
      · unfold b4_is_row
        repeat' (first | exact name_g h.c2 _ (okDs_mem hd _ (by simp)) | exact number_g h.c1 _ | with_reducible (first | exact ev_int | exact ev_str | exact ev_bl | exact ev_non | exact ev_glob | exact ev_dic0 | exact evs_nil | apply evs_cons | apply evs_star | apply ev_is | apply ev_isnt | apply ev_bin | apply ev_cmp | apply ev_chain | apply ev_neg | apply ev_not | apply ev_andB | apply ev_orB | apply ev_ite | apply ev_bi | apply ev_isi | apply ev_get | apply ev_sliceTo | apply ev_sliceFrom | apply ev_rev | apply ev_sset | apply ev_lst | apply ev_tup | apply ev_call | apply ev_callN | apply ev_callK | apply ev_dget | apply ev_comp | apply ev_compIf | apply wc | apply er_ret | apply er_asg | apply er_asgL | apply er_ifRet | apply er_ifR | apply er_par | exact wd_lm | exact wd_tm | exact wd_s | exact wd_l | exact wd_t | exact wd_d | exact wd_vals | exact wd_items | exact wd_elm | exact wd_etm | exact wd_el | exact wd_et | exact wd_es | exact wd_zlm | exact wd_ztm | exact wd_zltm | exact wd_ztlm | exact wd_zl | exact wd_zt | apply wd_range | apply wd_rangeI | exact isi_none_tuple | exact isi_none_bool | exact isi_none_list_tuple | exact isi_none_list | exact isi_none_dict | exact isi_none_int | exact isi_none_str | exact isi_none_bool_str | exact isi_bool_tuple | exact isi_bool_bool | exact isi_bool_list_tuple | exact isi_bool_list | exact isi_bool_dict | exact isi_bool_int | exact isi_bool_str | exact isi_bool_bool_str | exact isi_int_tuple | exact isi_int_bool | exact isi_int_list_tuple | exact isi_int_list | exact isi_int_dict | exact isi_int_int | exact isi_int_str | exact isi_int_bool_str | exact isi_str_tuple | exact isi_str_bool | exact isi_str_list_tuple | exact isi_str_list | exact isi_str_dict | exact isi_str_int | exact isi_str_str | exact isi_str_bool_str | exact isi_list_tuple | exact isi_list_bool | exact isi_list_list_tuple | exact isi_list_list | exact isi_list_dict | exact isi_list_int | exact isi_list_str | exact isi_list_bool_str | exact isi_tuple_tuple | exact isi_tuple_bool | exact isi_tuple_list_tuple | exact isi_tuple_list | exact isi_tuple_dict | exact isi_tuple_int | exact isi_tuple_str | exact isi_tuple_bool_str | exact isi_dict_tuple | exact isi_dict_bool | exact isi_dict_list_tuple | exact isi_dict_list | exact isi_dict_dict | exact isi_dict_int | exact isi_dict_str | exact isi_dict_bool_str | exact binD_add | exact binD_sub | apply binD_mul | apply binD_mod | apply binD_div | apply binD_addL | apply binD_addT | apply binD_addS | exact cmpD_lt | exact cmpD_le | exact cmpD_gt | exact cmpD_ge | exact cmpD_eqI | exact cmpD_neI | exact cmpD_eqB | exact cmpD_neB | exact inS_one | exact ninS_one | exact biD_lenL | exact biD_lenT | exact biD_lenD | apply lenS_ok | exact biD_listL | exact biD_listT | exact biD_tupleL | exact biD_tupleT | exact biD_int | exact biD_intB | exact biD_abs | exact all_bools | exact any_bools | exact get_t0 | exact get_t1 | exact get_l0 | exact get_l1 | exact sl_fromL | exact sl_fromT | exact sl_toL | exact sl_toT | exact sl_1L | exact sl_1T | exact sl_fromL' | exact sl_fromT' | exact sl_toL' | exact sl_toT' | apply cmp_ltS | apply cmp_eqS | apply cmp_neS | exact truD_bool | exact truD_none | exact truD_int | exact truD_list | exact truD_tuple | exact abs_ft | exact abs_tf | exact abs_nf | exact abs_nt | exact abs_ft0 | exact abs_tf0 | exact abs_ftr | exact abs_tfr | intro _) | exact ev_var rfl | exact ev_peekL rfl | exact ev_peekD rfl | exact isStar_of rfl | exact gone_of rfl | apply ex_ev rfl | apply ex_ev2 rfl)
      · simp [isRowD]
    | [], _ => exact gives_er1 h.own rfl (er_ret (ev_andB (ev_isi (ev_var rfl) isi_tuple_tuple) fun _ => ev_andL (ev_cmp (ev_lenT (ev_var rfl) rfl) ev_int cmpD_eqI) rfl)) rfl
    | [a], _ => exact gives_er1 h.own rfl (er_ret (ev_andB (ev_isi (ev_var rfl) isi_tuple_tuple) fun _ => ev_andL (ev_cmp (ev_lenT (ev_var rfl) rfl) ev_int cmpD_eqI) rfl)) rfl
    | a :: b :: c :: r, _ => exact gives_er1 h.own rfl (er_ret (ev_andB (ev_isi (ev_var rfl) isi_tuple_tuple) fun _ => ev_andL (ev_cmp (ev_lenT (ev_var rfl) rfl) ev_int cmpD_eqI) (decide_eq_false (by simp only [List.length_cons]; omega)))) rfl
  | _ =>
    apply gives_er1 h.own rfl
    unfold b4_is_row
    repeat' (first | with_reducible (first | exact ev_int | exact ev_str | exact ev_bl | exact ev_non | exact ev_glob | exact ev_dic0 | exact evs_nil | apply evs_cons | apply evs_star | apply ev_is | apply ev_isnt | apply ev_bin | apply ev_cmp | apply ev_chain | apply ev_neg | apply ev_not | apply ev_andB | apply ev_orB | apply ev_ite | apply ev_bi | apply ev_isi | apply ev_get | apply ev_sliceTo | apply ev_sliceFrom | apply ev_rev | apply ev_sset | apply ev_lst | apply ev_tup | apply ev_call | apply ev_callN | apply ev_callK | apply ev_dget | apply ev_comp | apply ev_compIf | apply wc | apply er_ret | apply er_asg | apply er_asgL | apply er_ifRet | apply er_ifR | apply er_par | exact wd_lm | exact wd_tm | exact wd_s | exact wd_l | exact wd_t | exact wd_d | exact wd_vals | exact wd_items | exact wd_elm | exact wd_etm | exact wd_el | exact wd_et | exact wd_es | exact wd_zlm | exact wd_ztm | exact wd_zltm | exact wd_ztlm | exact wd_zl | exact wd_zt | apply wd_range | apply wd_rangeI | exact isi_none_tuple | exact isi_none_bool | exact isi_none_list_tuple | exact isi_none_list | exact isi_none_dict | exact isi_none_int | exact isi_none_str | exact isi_none_bool_str | exact isi_bool_tuple | exact isi_bool_bool | exact isi_bool_list_tuple | exact isi_bool_list | exact isi_bool_dict | exact isi_bool_int | exact isi_bool_str | exact isi_bool_bool_str | exact isi_int_tuple | exact isi_int_bool | exact isi_int_list_tuple | exact isi_int_list | exact isi_int_dict | exact isi_int_int | exact isi_int_str | exact isi_int_bool_str | exact isi_str_tuple | exact isi_str_bool | exact isi_str_list_tuple | exact isi_str_list | exact isi_str_dict | exact isi_str_int | exact isi_str_str | exact isi_str_bool_str | exact isi_list_tuple | exact isi_list_bool | exact isi_list_list_tuple | exact isi_list_list | exact isi_list_dict | exact isi_list_int | exact isi_list_str | exact isi_list_bool_str | exact isi_tuple_tuple | exact isi_tuple_bool | exact isi_tuple_list_tuple | exact isi_tuple_list | exact isi_tuple_dict | exact isi_tuple_int | exact isi_tuple_str | exact isi_tuple_bool_str | exact isi_dict_tuple | exact isi_dict_bool | exact isi_dict_list_tuple | exact isi_dict_list | exact isi_dict_dict | exact isi_dict_int | exact isi_dict_str | exact isi_dict_bool_str | exact binD_add | exact binD_sub | apply binD_mul | apply binD_mod | apply binD_div | apply binD_addL | apply binD_addT | apply binD_addS | exact cmpD_lt | exact cmpD_le | exact cmpD_gt | exact cmpD_ge | exact cmpD_eqI | exact cmpD_neI | exact cmpD_eqB | exact cmpD_neB | exact inS_one | exact ninS_one | exact biD_lenL | exact biD_lenT | exact biD_lenD | apply lenS_ok | exact biD_listL | exact biD_listT | exact biD_tupleL | exact biD_tupleT | exact biD_int | exact biD_intB | exact biD_abs | exact all_bools | exact any_bools | exact get_t0 | exact get_t1 | exact get_l0 | exact get_l1 | exact sl_fromL | exact sl_fromT | exact sl_toL | exact sl_toT | exact sl_1L | exact sl_1T | exact sl_fromL' | exact sl_fromT' | exact sl_toL' | exact sl_toT' | apply cmp_ltS | apply cmp_eqS | apply cmp_neS | exact truD_bool | exact truD_none | exact truD_int | exact truD_list | exact truD_tuple | exact abs_ft | exact abs_tf | exact abs_nf | exact abs_nt | exact abs_ft0 | exact abs_tf0 | exact abs_ftr | exact abs_tfr | intro _) | exact ev_var rfl | exact ev_peekL rfl | exact ev_peekD rfl | exact isStar_of rfl | exact gone_of rfl | apply ex_ev rfl | apply ex_ev2 rfl)
    rfl

def rowD (r : Str × Int) : D := .tuple [.str r.1, .int r.2]
theorem isRow_some {d : D} (h : isRowD d = true) : ∃ r, d = rowD r ∧ isNameS r.1 = true := by
  unfold isRowD at h
  split at h
  · rename_i a b
    simp only [Bool.and_eq_true] at h
    cases a with
    | str x =>
      cases b with
      | int i => exact ⟨(x, i), rfl, h.1⟩
      | _ => cases h.2
    | _ => cases h.1
  · cases h
theorem rows_of : ∀ {xs : List D}, xs.all isRowD = true → ∃ rs : List (Str × Int), xs = rs.map rowD ∧ ∀ r ∈ rs, isNameS r.1 = true
  | [], _ => ⟨[], rfl, by simp⟩
  | d :: xs, h => by
    simp only [List.all_cons, Bool.and_eq_true] at h
    obtain ⟨r, rfl, h1⟩ := isRow_some h.1
    obtain ⟨rs, rfl, h2⟩ := rows_of h.2
    refine ⟨r :: rs, rfl, fun q hq => ?_⟩
    rcases List.mem_cons.1 hq with rfl | hq
    · exact h1
    · exact h2 q hq
theorem isRow_rowD {r : Str × Int} : isRowD (rowD r) = isNameS r.1 := by simp [isRowD, rowD, isNameD, isIntD]
def nameOfD : D → Str
  | .tuple [.str x, _] => x
  | _ => ⟨#[]⟩
theorem names_rows (rs : List (Str × Int)) : (rs.map rowD).map nameOfD = rs.map (·.1) := by rw [List.map_map]; rfl
/-- what is_records says -/
def isRecD : D → Bool
  | .tuple xs => xs.all isRowD && upS (xs.map nameOfD)
  | _ => false
theorem isRec_rows {rs : List (Str × Int)} : isRecD (.tuple (rs.map rowD)) = (rs.all (fun r => isNameS r.1) && upS (rs.map (·.1))) := by
  show ((rs.map rowD).all isRowD && upS ((rs.map rowD).map nameOfD)) = _
  rw [List.all_map, names_rows]
  have e : (isRowD ∘ rowD) = fun r : Str × Int => isNameS r.1 := funext fun r => isRow_rowD
  rw [e]
theorem name_ok {x : Str} (h : isNameS x = true) : PyData.strOk x = true := by
  simp only [isNameS, Bool.and_eq_true, List.all_eq_true, decide_eq_true_eq] at h
  unfold PyData.strOk
  rw [Array.all_eq_true_iff_forall_mem]
  intro c hc
  have := h.2 c (by simpa using hc)
  revert this
  generalize c = c
  intro this
  simp only [decide_eq_true_eq]
  have all : ∀ c ∈ abc, c < 0x110000 := by decide
  exact all c this
theorem records_g {B : Tb} {n : Nat} (h : C5 B) (d : D) (hd : okD d = true) (hl : ∀ xs, d = .tuple xs → xs.length ≤ 4096) : Gives (callF B (n + 3)) 5 [d] (.bool (isRecD d)) := by
  cases d with
  | tuple xs =>
    have hx := hl xs rfl
    have ho : okDs xs = true := by simp [okD] at hd; exact hd.2
    by_cases hr : xs.all isRowD = true
    · obtain ⟨rs, rfl, hn⟩ := rows_of hr
      rw [List.length_map] at hx
      apply gives_er1 h.own rfl
      · unfold b5_is_records
        repeat' (first | exact row_g h.c4 _ (okDs_mem ho _ (List.mem_map_of_mem ‹_›)) | exact rises_g h.c3 rs hx (fun r hr => name_ok (hn r hr)) | with_reducible (first | exact ev_int | exact ev_str | exact ev_bl | exact ev_non | exact ev_glob | exact ev_dic0 | exact evs_nil | apply evs_cons | apply evs_star | apply ev_is | apply ev_isnt | apply ev_bin | apply ev_cmp | apply ev_chain | apply ev_neg | apply ev_not | apply ev_andB | apply ev_orB | apply ev_ite | apply ev_bi | apply ev_isi | apply ev_get | apply ev_sliceTo | apply ev_sliceFrom | apply ev_rev | apply ev_sset | apply ev_lst | apply ev_tup | apply ev_call | apply ev_callN | apply ev_callK | apply ev_dget | apply ev_comp | apply ev_compIf | apply wc | apply er_ret | apply er_asg | apply er_asgL | apply er_ifRet | apply er_ifR | apply er_par | exact wd_lm | exact wd_tm | exact wd_s | exact wd_l | exact wd_t | exact wd_d | exact wd_vals | exact wd_items | exact wd_elm | exact wd_etm | exact wd_el | exact wd_et | exact wd_es | exact wd_zlm | exact wd_ztm | exact wd_zltm | exact wd_ztlm | exact wd_zl | exact wd_zt | apply wd_range | apply wd_rangeI | exact isi_none_tuple | exact isi_none_bool | exact isi_none_list_tuple | exact isi_none_list | exact isi_none_dict | exact isi_none_int | exact isi_none_str | exact isi_none_bool_str | exact isi_bool_tuple | exact isi_bool_bool | exact isi_bool_list_tuple | exact isi_bool_list | exact isi_bool_dict | exact isi_bool_int | exact isi_bool_str | exact isi_bool_bool_str | exact isi_int_tuple | exact isi_int_bool | exact isi_int_list_tuple | exact isi_int_list | exact isi_int_dict | exact isi_int_int | exact isi_int_str | exact isi_int_bool_str | exact isi_str_tuple | exact isi_str_bool | exact isi_str_list_tuple | exact isi_str_list | exact isi_str_dict | exact isi_str_int | exact isi_str_str | exact isi_str_bool_str | exact isi_list_tuple | exact isi_list_bool | exact isi_list_list_tuple | exact isi_list_list | exact isi_list_dict | exact isi_list_int | exact isi_list_str | exact isi_list_bool_str | exact isi_tuple_tuple | exact isi_tuple_bool | exact isi_tuple_list_tuple | exact isi_tuple_list | exact isi_tuple_dict | exact isi_tuple_int | exact isi_tuple_str | exact isi_tuple_bool_str | exact isi_dict_tuple | exact isi_dict_bool | exact isi_dict_list_tuple | exact isi_dict_list | exact isi_dict_dict | exact isi_dict_int | exact isi_dict_str | exact isi_dict_bool_str | exact binD_add | exact binD_sub | apply binD_mul | apply binD_mod | apply binD_div | apply binD_addL | apply binD_addT | apply binD_addS | exact cmpD_lt | exact cmpD_le | exact cmpD_gt | exact cmpD_ge | exact cmpD_eqI | exact cmpD_neI | exact cmpD_eqB | exact cmpD_neB | exact inS_one | exact ninS_one | exact biD_lenL | exact biD_lenT | exact biD_lenD | apply lenS_ok | exact biD_listL | exact biD_listT | exact biD_tupleL | exact biD_tupleT | exact biD_int | exact biD_intB | exact biD_abs | exact all_bools | exact any_bools | exact get_t0 | exact get_t1 | exact get_l0 | exact get_l1 | exact sl_fromL | exact sl_fromT | exact sl_toL | exact sl_toT | exact sl_1L | exact sl_1T | exact sl_fromL' | exact sl_fromT' | exact sl_toL' | exact sl_toT' | apply cmp_ltS | apply cmp_eqS | apply cmp_neS | exact truD_bool | exact truD_none | exact truD_int | exact truD_list | exact truD_tuple | exact abs_ft | exact abs_tf | exact abs_nf | exact abs_nt | exact abs_ft0 | exact abs_tf0 | exact abs_ftr | exact abs_tfr | intro _) | exact ev_var rfl | exact ev_peekL rfl | exact ev_peekD rfl | exact isStar_of rfl | exact gone_of rfl | apply ex_ev rfl | apply ex_ev2 rfl)
        · omega
        · omega
      · rw [isRec_rows]
        have e : (rs.all fun x => isRowD (rowD x)) = rs.all fun r => isNameS r.1 := by congr 1; exact funext fun r => isRow_rowD
        rw [e]
        cases rs.all fun r => isNameS r.1 <;> rfl
    · have hr : xs.all isRowD = false := by simpa using hr
      refine gives_er1 h.own rfl (er_ifT (ev_orB (ev_notB (ev_isi (ev_var rfl) isi_tuple_tuple)) fun _ => ev_notB (ev_bi1 (ev_comp (l := xs) (inj := fun d => d) (g := fun d => .bool (isRowD d)) (evs_cons (ev_var rfl) evs_nil rfl) (wc wd_t (by omega)) fun x hx => ⟨_, rfl, ev_call (evs_cons (ev_var rfl) evs_nil rfl) (row_g h.c4 _ (okDs_mem ho _ hx))⟩) all_bools rfl)) ?_ ev_bl) ?_
      · rw [hr]; rfl
      · simp [isRecD, hr]
  | _ => exact gives_er1 h.own rfl (er_ifT (ev_orL (ev_notB (ev_isi (d := .bool false) (ev_var rfl) (by simp))) rfl) truD_bool ev_bl) rfl
/-! ### the law's own likeness of rows -/
theorem layAll_of : ∀ {xs : List D}, (∀ x ∈ xs, x.canLay0 = true) → PyData.canLayAll0 xs = true
  | [], _ => rfl
  | y :: r, h => by
    simp only [PyData.canLayAll0, Bool.and_eq_true]
    exact ⟨h y List.mem_cons_self, layAll_of fun x hx => h x (List.mem_cons_of_mem _ hx)⟩
theorem depth_all {k : Nat} : ∀ {xs : List D}, (∀ x ∈ xs, x.depth ≤ k) → PyData.depthAll xs ≤ k
  | [], _ => Nat.zero_le _
  | y :: r, h => by
    simp only [PyData.depthAll]
    exact Nat.max_le.2 ⟨h y List.mem_cons_self, depth_all fun x hx => h x (List.mem_cons_of_mem _ hx)⟩
theorem shaped_list {xs : List D} (h1 : PyData.canLayAll0 xs = true) (h2 : PyData.depthAll xs ≤ 39) : SeqAt.shaped (.list xs) = true := by
  simp [SeqAt.shaped, PyData.canLay0, PyData.depth, h1]
  omega
theorem shaped_tuple {xs : List D} (h1 : PyData.canLayAll0 xs = true) (h2 : PyData.depthAll xs ≤ 39) : SeqAt.shaped (.tuple xs) = true := by
  simp [SeqAt.shaped, PyData.canLay0, PyData.depth, h1]
  omega
theorem shaped_strs {ι : Type} {l : List ι} {f : ι → Str} (h : ∀ x ∈ l, PyData.strOk (f x) = true) : SeqAt.shaped (.list (l.map fun x => .str (f x))) = true := by
  refine shaped_list (layAll_of fun x hx => ?_) (depth_all fun x hx => ?_)
  · obtain ⟨y, hy, rfl⟩ := List.mem_map.1 hx
    exact h y hy
  · obtain ⟨y, hy, rfl⟩ := List.mem_map.1 hx
    simp [PyData.depth]
theorem shaped_strsT {ι : Type} {l : List ι} {f : ι → Str} (h : ∀ x ∈ l, PyData.strOk (f x) = true) : SeqAt.shaped (.tuple (l.map fun x => .str (f x))) = true := by
  refine shaped_tuple (layAll_of fun x hx => ?_) (depth_all fun x hx => ?_)
  · obtain ⟨y, hy, rfl⟩ := List.mem_map.1 hx
    exact h y hy
  · obtain ⟨y, hy, rfl⟩ := List.mem_map.1 hx
    simp [PyData.depth]
theorem cmp_nilL {xs : List D} (h : SeqAt.shaped (.list xs) = true) : cmpD .Eq (.list xs) (.list []) = some (.bool xs.isEmpty) := by
  rw [cmpD_eq h (by decide)]
  cases xs <;> rfl
theorem tag_g {B : Tb} {n : Nat} (h : C12 B) (d : D) (hd : okD d = true) : Gives (callF B (n + 1)) 12 [d] (.bool (isNameD d)) := by
  cases d with
  | str x =>
    have hx := (okD_str hd).2
    have hy : x.cps.toList.length ≤ 4096 := by rw [strlen]; exact hx
    apply gives_er1 h.own rfl
    unfold b12_is_tag
    repeat' (first | apply cmp_nilL | with_reducible (first | exact ev_int | exact ev_str | exact ev_bl | exact ev_non | exact ev_glob | exact ev_dic0 | exact evs_nil | apply evs_cons | apply evs_star | apply ev_is | apply ev_isnt | apply ev_bin | apply ev_cmp | apply ev_chain | apply ev_neg | apply ev_not | apply ev_andB | apply ev_orB | apply ev_ite | apply ev_bi | apply ev_isi | apply ev_get | apply ev_sliceTo | apply ev_sliceFrom | apply ev_rev | apply ev_sset | apply ev_lst | apply ev_tup | apply ev_call | apply ev_callN | apply ev_callK | apply ev_dget | apply ev_comp | apply ev_compIf | apply wc | apply er_ret | apply er_asg | apply er_asgL | apply er_ifRet | apply er_ifR | apply er_par | exact wd_lm | exact wd_tm | exact wd_s | exact wd_l | exact wd_t | exact wd_d | exact wd_vals | exact wd_items | exact wd_elm | exact wd_etm | exact wd_el | exact wd_et | exact wd_es | exact wd_zlm | exact wd_ztm | exact wd_zltm | exact wd_ztlm | exact wd_zl | exact wd_zt | apply wd_range | apply wd_rangeI | exact isi_none_tuple | exact isi_none_bool | exact isi_none_list_tuple | exact isi_none_list | exact isi_none_dict | exact isi_none_int | exact isi_none_str | exact isi_none_bool_str | exact isi_bool_tuple | exact isi_bool_bool | exact isi_bool_list_tuple | exact isi_bool_list | exact isi_bool_dict | exact isi_bool_int | exact isi_bool_str | exact isi_bool_bool_str | exact isi_int_tuple | exact isi_int_bool | exact isi_int_list_tuple | exact isi_int_list | exact isi_int_dict | exact isi_int_int | exact isi_int_str | exact isi_int_bool_str | exact isi_str_tuple | exact isi_str_bool | exact isi_str_list_tuple | exact isi_str_list | exact isi_str_dict | exact isi_str_int | exact isi_str_str | exact isi_str_bool_str | exact isi_list_tuple | exact isi_list_bool | exact isi_list_list_tuple | exact isi_list_list | exact isi_list_dict | exact isi_list_int | exact isi_list_str | exact isi_list_bool_str | exact isi_tuple_tuple | exact isi_tuple_bool | exact isi_tuple_list_tuple | exact isi_tuple_list | exact isi_tuple_dict | exact isi_tuple_int | exact isi_tuple_str | exact isi_tuple_bool_str | exact isi_dict_tuple | exact isi_dict_bool | exact isi_dict_list_tuple | exact isi_dict_list | exact isi_dict_dict | exact isi_dict_int | exact isi_dict_str | exact isi_dict_bool_str | exact binD_add | exact binD_sub | apply binD_mul | apply binD_mod | apply binD_div | apply binD_addL | apply binD_addT | apply binD_addS | exact cmpD_lt | exact cmpD_le | exact cmpD_gt | exact cmpD_ge | exact cmpD_eqI | exact cmpD_neI | exact cmpD_eqB | exact cmpD_neB | exact inS_one | exact ninS_one | exact biD_lenL | exact biD_lenT | exact biD_lenD | apply lenS_ok | exact biD_listL | exact biD_listT | exact biD_tupleL | exact biD_tupleT | exact biD_int | exact biD_intB | exact biD_abs | exact all_bools | exact any_bools | exact get_t0 | exact get_t1 | exact get_l0 | exact get_l1 | exact sl_fromL | exact sl_fromT | exact sl_toL | exact sl_toT | exact sl_1L | exact sl_1T | exact sl_fromL' | exact sl_fromT' | exact sl_toL' | exact sl_toT' | apply cmp_ltS | apply cmp_eqS | apply cmp_neS | exact truD_bool | exact truD_none | exact truD_int | exact truD_list | exact truD_tuple | exact abs_ft | exact abs_tf | exact abs_nf | exact abs_nt | exact abs_ft0 | exact abs_tf0 | exact abs_ftr | exact abs_tfr | intro _) | exact ev_var rfl | exact ev_peekL rfl | exact ev_peekD rfl | exact isStar_of rfl | exact gone_of rfl | apply ex_ev rfl | apply ex_ev2 rfl)
    · omega
    · omega
    · omega
    · decide
    · refine shaped_strs fun c hc => ?_
      have := hd
      simp only [List.mem_filter] at hc
      have o := (okD_str hd).1
      unfold PyData.strOk at o ⊢
      rw [Array.all_eq_true_iff_forall_mem] at o
      have := o c (by simpa using hc.1)
      simpa using this
    · show _ = PyData.bool (isNameS x)
      by_cases h1 : (x.length : Int) < 1
      · have : ¬ (1 : Int) ≤ x.length := by omega
        simp [isNameS, h1, this]
      · by_cases h2 : 8 < (x.length : Int)
        · have : ¬ (x.length : Int) ≤ 8 := by omega
          simp [isNameS, h1, h2, this]
        · have e1 : (1 : Int) ≤ x.length := by omega
          have e2 : (x.length : Int) ≤ 8 := by omega
          simp only [isNameS, h1, h2, e1, e2, decide_true, decide_false, Bool.not_true, Bool.or_self, Bool.true_and, Bool.false_eq_true, if_false]
          congr 1
          rw [List.isEmpty_map]
          show (x.cps.toList.filter fun c => !decide (c ∈ abc)).isEmpty = x.cps.toList.all fun c => decide (c ∈ abc)
          generalize x.cps.toList = l
          induction l with
          | nil => rfl
          | cons c r ih =>
            rw [List.filter_cons, List.all_cons]
            by_cases hc : c ∈ abc
            · simpa [hc] using ih
            · simp [hc]
  | _ => exact gives_er1 h.own rfl (er_ifT (ev_orL (ev_notB (ev_isi (d := .bool false) (ev_var rfl) (by simp))) rfl) truD_bool ev_bl) rfl

/-! ### the draws of rows -/
def tagsR : List Str := ["ra", "rb", "rc", "rd", "re", "rf", "rg", "rh", "ri", "rj", "rk", "rl"]
/-- rows as the law draws them -/
def Drawn (many : Nat) (top : Int) (rs : List (Str × Int)) : Prop := rs.map (·.1) = tagsR.take rs.length ∧ rs.length ≤ many ∧ ∀ r ∈ rs, 0 ≤ r.2 ∧ r.2 < top
theorem goods_g {B : Tb} {n : Nat} (h : C11 B) {many : Nat} {top : Int} {τ : List D} {m : Nat} (hb : Bx τ m) (hm : m < 2 ^ 59) (h12 : many ≤ 12) (h0 : 0 < top) (h1 : top < 1073741824) :
    Ok (callF B (n + 2) 11 [.int many, .int top]) τ fun d τ' => ∃ rs : List (Str × Int), d = .tuple (rs.map rowD) ∧ Drawn many top rs ∧ ∃ m', Bx τ' m' ∧ m' ≤ m + 13 := by
  rw [ok_is h.own rfl]
  unfold b11_goods
  rw [okS_cons, okS_asg, okE_slice]
  have ev1 : Ev (callF B (n + 1)) (.comp (.bin .Add (.str "r") (.var 4)) (.nm 4) .ex [.str "abcdefghijkl"] .absent) (envI true (6 - 3) [.int many, .int top]) (.list (tagsR.map .str)) := .mk fun τ => rfl
  refine ev1.ok ?_
  simp
  refine (take_g h.c7 hb (by omega) (by omega) (by omega)).mono fun d τ1 q => ?_
  obtain ⟨k, rfl, hk, b1⟩ := q
  simp [cut_to]
  refine ⟨_, walkC_of (by simp; rfl) (by simp [tagsR]; omega), ?_⟩
  refine ok_comp0 (fun items ys τ => ∃ (rs : List (Str × Int)) (m' : Nat), ys = rs.map rowD ∧ items = ((tagsR.take k).drop rs.length).map .str ∧ rs.map (·.1) = tagsR.take rs.length ∧ rs.length ≤ k ∧ (∀ r ∈ rs, 0 ≤ r.2 ∧ r.2 < top) ∧ Bx τ m' ∧ m' ≤ m + 1 + rs.length) ?_ ?_ _ _ ⟨[], m + 1, rfl, by simp, rfl, by simp, by simp, b1, by simp⟩
  · rintro d r ys τ ⟨rs, m', rfl, hi, h2, h3, h4, b2, h5⟩
    cases hL : (tagsR.take k).drop rs.length with
    | nil => rw [hL] at hi; cases hi
    | cons t L =>
      rw [hL] at hi
      cases hi
      have ht : (tagsR.take k)[rs.length]? = some t := by
        have := congrArg (fun l => l[0]?) hL
        simpa [List.getElem?_drop] using this
      have hlt : rs.length < k := by
        by_cases q : rs.length < k
        · exact q
        · rw [List.getElem?_take, if_neg q] at ht; cases ht
      rw [List.getElem?_take, if_pos hlt] at ht
      have hL2 : (tagsR.take k).drop (rs.length + 1) = L := by
        have := congrArg (List.drop 1) hL
        rw [List.drop_drop] at this
        exact this
      refine Ok.mono (Q := fun o τ' => ∃ j : Nat, o = some (rowD (t, (j : Int))) ∧ (j : Int) < top ∧ Bx τ' (m' + 1)) ?_ fun o τ2 q => ?_
      · simp
        exact (take_g h.c7 b2 (by omega) h0 h1).mono fun d τ2 ⟨j, e, hj, b3⟩ => ⟨j, by rw [e]; rfl, hj, b3⟩
      obtain ⟨j, rfl, hj, b3⟩ := q
      refine ⟨rs ++ [(t, (j : Int))], m' + 1, by simp, ?_, ?_, by simp; omega, fun r hr => ?_, b3, by simp; omega⟩
      · rw [List.length_append, List.length_singleton, hL2]
      · rw [List.map_append, h2, List.length_append, List.length_singleton, List.take_succ, ht]
        rfl
      · rcases List.mem_append.1 hr with hr | hr
        · exact h4 r hr
        · rw [List.mem_singleton] at hr
          subst hr
          exact ⟨by simp, hj⟩
  · rintro ys τ ⟨rs, m', rfl, hi, h2, h3, h4, b2, h5⟩
    exact ⟨rs, rfl, ⟨h2, by omega, h4⟩, m', b2, by omega⟩
end KN

set_option maxRecDepth 100000
set_option maxHeartbeats 4000000
namespace KN
open PySem L2 PyProof.Rows
/-! ### texts in order, each once -/
theorem eqv_str {a : Str} {d : D} (h : PyData.eqv (.str a) d = true) : d = .str a := by
  cases d with
  | str b =>
    have : (a == b) = true := by simpa [PyData.eqv] using h
    rw [beqS] at this
    rw [of_decide_eq_true this]
  | _ => simp [PyData.eqv] at h
theorem eqvAll_strs : ∀ {l : List Str} {m : List D}, PyData.eqvAll (l.map .str) m = true → m = l.map .str
  | [], [], _ => rfl
  | [], _ :: _, h => by simp [PyData.eqvAll] at h
  | _ :: _, [], h => by simp [PyData.eqvAll] at h
  | a :: l, d :: m, h => by
    simp only [List.map_cons, PyData.eqvAll, Bool.and_eq_true] at h
    rw [eqv_str h.1, eqvAll_strs h.2]
    rfl
theorem eqvAll_refl_strs : ∀ l : List Str, PyData.eqvAll (l.map .str) (l.map .str) = true
  | [] => rfl
  | a :: l => by simp [PyData.eqvAll, PyData.eqv, eqvAll_refl_strs l]
theorem strsOf_map : ∀ l : List Str, strsOf (l.map .str) = some l
  | [] => rfl
  | a :: l => by simp [strsOf, strsOf_map l]
theorem upS_pw : ∀ (l : List Str), upS l = true ↔ l.Pairwise fun a b => a.cps.toList < b.cps.toList
  | [] => by simp [upS]
  | [a] => by simp [upS]
  | a :: b :: r => by
    have ih := upS_pw (b :: r)
    have e : upS (a :: b :: r) = (ltS a b && upS (b :: r)) := rfl
    rw [e, Bool.and_eq_true, ih]
    constructor
    · rintro ⟨h1, h2⟩
      have h1 : a.cps.toList < b.cps.toList := of_decide_eq_true h1
      refine List.pairwise_cons.2 ⟨fun c hc => ?_, h2⟩
      rcases List.mem_cons.1 hc with rfl | hc
      · exact h1
      · exact List.lt_trans h1 (List.rel_of_pairwise_cons h2 hc)
    · intro h
      exact ⟨decide_eq_true (List.rel_of_pairwise_cons h List.mem_cons_self), (List.pairwise_cons.1 h).2⟩
theorem str_ext {a b : Str} (h : a.cps.toList = b.cps.toList) : a = b := by
  cases a; cases b
  simp only [Str.mk.injEq]
  exact Array.toList_inj.1 h
/-- a list of texts is its own ordered set just if it rises -/
theorem sset_up {l : List Str} : PyData.eqvAll (l.map .str) (sortD (dedD (l.map .str))) = upS l := by
  have hk : ∀ x ∈ l.map PyData.str, isKey x = true := fun x hx => by obtain ⟨a, _, rfl⟩ := List.mem_map.1 hx; rfl
  cases hu : upS l with
  | true =>
    have pw := (upS_pw l).1 hu
    have e : l.map PyData.str = sortD (dedD (l.map .str)) := by
      refine sset_of (f := PyData.str) (fun a b e => by cases e; rfl) (fun _ => rfl) (fun _ _ => by simp [PySem.W.alike]) ?_ ?_ fun x => Iff.rfl
      · refine List.pairwise_map.2 (pw.imp fun {a b} h => ?_)
        unfold nlt
        rw [lt_ss]
        exact decide_eq_false (fun z => List.lt_irrefl _ (List.lt_trans h z))
      · exact pw.imp fun {a b} h z => by subst z; exact List.lt_irrefl _ h
    rw [← e]
    exact eqvAll_refl_strs l
  | false =>
    cases hq : PyData.eqvAll (l.map .str) (sortD (dedD (l.map .str))) with
    | false => rfl
    | true =>
      have e := eqvAll_strs hq
      exfalso
      have nd : (l.map PyData.str).Nodup := by
        rw [← e]
        exact ((sortD_perm _).nodup_iff).2 (dedD_nodup _ hk)
      have so : (l.map PyData.str).Pairwise nlt := by
        rw [← e]
        exact sortD_sorted _
      have pw : l.Pairwise fun a b => a.cps.toList < b.cps.toList := by
        have nd2 := List.pairwise_map.1 nd
        have so2 := List.pairwise_map.1 so
        refine (nd2.and so2).imp fun {a b} ⟨h1, h2⟩ => ?_
        unfold nlt at h2
        rw [lt_ss] at h2
        have h2 := of_decide_eq_false h2
        by_cases h : a.cps.toList < b.cps.toList
        · exact h
        · exact absurd (congrArg PyData.str (str_ext (List.le_antisymm (List.not_lt.1 h2) (List.not_lt.1 h)))) h1
      rw [(upS_pw l).2 pw] at hu
      cases hu

theorem ssetD_list {l : List Str} (h : l.length < 64) : ssetD (.list (l.map .str)) = some (.list (sortD (dedD (l.map .str)))) := by
  show ssetL (l.map .str) = _
  unfold ssetL
  rw [if_pos]
  unfold keysOk
  rw [List.length_map, strsOf_map]
  simp [h]
/-! ### k00 -/
theorem mem_ded {l : List D} {x : D} : x ∈ dedD l → x ∈ l := by
  induction l with
  | nil => intro h; cases h
  | cons y r ih =>
    intro h
    unfold dedD at h
    split at h
    · exact List.mem_cons_of_mem _ (ih h)
    · rcases List.mem_cons.1 h with rfl | h
      · exact List.mem_cons_self
      · exact List.mem_cons_of_mem _ (ih h)
theorem body13 {B : Tb} {n : Nat} (h : C13 B) (x : D) (ok : okD x = true) {R : D → En} (hR : ∀ x, (R x)[1]? = some (some (.dat x))) :
    Er (callF B (n + 1)) [.ite (.or (.not (.isi (.var 1) ["tuple"] false)) (.or (.cmp .NotEq (.bi .len [.var 1]) (.int 2)) (.not (.call 12 [.get (.var 1) (.int 0)])))) [.ret (.bl false)] [], .ite (.or (.not (.isi (.get (.var 1) (.int 1)) ["int"] false)) (.isi (.get (.var 1) (.int 1)) ["bool"] false)) [.ret (.bl false)] []] (R x) (if (!isRowD x) = true then .rt (.bool false) else .nx (R x)) := by
  have v := ev_var (C := callF B (n + 1)) (hR x)
  cases x with
  | tuple zs =>
    match zs, ok, v with
    | [a, b], ok, v =>
      have ok : okDs [a, b] = true := by simp [okD] at ok; exact ok
      have c1 := ev_orB (ev_notB (ev_isi (k := false) v isi_tuple_tuple)) fun _ => ev_orB (ev_cmp (ev_lenT v rfl) (ev_int (i := 2)) cmpD_neI) fun _ => ev_notB (ev_call (evs_cons (ev_get v (ev_int (i := 0)) get_t0) evs_nil rfl) (tag_g h.c12 a (okDs_mem ok a (by simp))))
      cases ha : isNameD a with
      | false =>
        rw [ha] at c1
        have : isRowD (.tuple [a, b]) = false := by simp [isRowD, ha]
        rw [this]
        exact er_ifT c1 rfl ev_bl
      | true =>
        rw [ha] at c1
        refine er_ifF c1 rfl ?_
        cases b with
        | int i =>
          have : isRowD (.tuple [a, .int i]) = true := by simp [isRowD, ha, isIntD]
          rw [this]
          exact er_ifF (ev_orB (ev_notB (ev_isi (ev_get v (ev_int (i := 1)) get_t1) isi_int_int)) fun _ => ev_isi (ev_get v (ev_int (i := 1)) get_t1) isi_int_bool) rfl er_nil
        | bool k =>
          have : isRowD (.tuple [a, .bool k]) = false := by simp [isRowD, ha, isIntD]
          rw [this]
          exact er_ifT (ev_orB (ev_notB (ev_isi (ev_get v (ev_int (i := 1)) get_t1) isi_bool_int)) fun _ => ev_isi (ev_get v (ev_int (i := 1)) get_t1) isi_bool_bool) rfl ev_bl
        | _ =>
          simp only [isRowD, isIntD, Bool.and_false, Bool.not_false, if_true]
          exact er_ifT (ev_orL (ev_notB (ev_isi (d := .bool false) (ev_get v (ev_int (i := 1)) get_t1) (by simp))) rfl) truD_bool ev_bl
    | [], _, v => exact er_ifT (ev_orB (ev_notB (ev_isi v isi_tuple_tuple)) fun _ => ev_orL (ev_cmp (ev_lenT v rfl) (ev_int (i := 2)) cmpD_neI) rfl) rfl ev_bl
    | [a], _, v => exact er_ifT (ev_orB (ev_notB (ev_isi v isi_tuple_tuple)) fun _ => ev_orL (ev_cmp (ev_lenT v rfl) (ev_int (i := 2)) cmpD_neI) rfl) rfl ev_bl
    | a :: b :: c :: r, _, v =>
      have : isRowD (.tuple (a :: b :: c :: r)) = false := rfl
      rw [this]
      exact er_ifT (ev_orB (ev_notB (ev_isi v isi_tuple_tuple)) fun _ => ev_orL (ev_cmp (ev_lenT v rfl) (ev_int (i := 2)) cmpD_neI) (by rw [decide_eq_false (by simp only [List.length_cons]; omega)]; rfl)) rfl ev_bl
  | _ => exact er_ifT (ev_orL (ev_notB (ev_isi (d := .bool false) v (by simp))) rfl) truD_bool ev_bl
theorem goods13 {B : Tb} {n : Nat} (h : C13 B) (d : D) (hd : okD d = true) (hl : ∀ xs, d = .tuple xs → xs.length < 64) : Gives (callF B (n + 2)) 13 [d] (.bool (isRecD d)) := by
  cases d with
  | tuple xs =>
    have hx := hl xs rfl
    have ho : okDs xs = true := by simp [okD] at hd; exact hd.2
    refine gives_er1 h.own rfl (er_ifF (ev_notB (ev_isi (ev_var rfl) isi_tuple_tuple)) rfl
      (er_check (l := xs) (inj := fun d => d) (fun s => [some (.dat (.tuple xs)), s.map .dat, none]) (fun d => !isRowD d) (d := .bool false) (y := .bool (upS (xs.map nameOfD))) (evs_cons (ev_var rfl) evs_nil rfl) wd_t rfl (fun x hm s => ⟨_, rfl, ?_⟩) fun hb => ?_)) ?_
    · exact body13 h x (okDs_mem ho x hm) (R := fun x => [some (.dat (.tuple xs)), some (.dat x), none]) (fun _ => rfl)
    · have hr : xs.all isRowD = true := by simpa [List.any_eq_false] using hb
      obtain ⟨rs, rfl, hn⟩ := rows_of hr
      rw [List.length_map] at hx
      have sn : ∀ r ∈ rs, PyData.strOk r.1 = true := fun r hr => name_ok (hn r hr)
      have e : (rs.map fun r => PyData.str r.1) = (rs.map (·.1)).map .str := by rw [List.map_map]; rfl
      rw [names_rows, ← sset_up]
      refine er_asg (ev_comp (l := rs) (inj := rowD) (g := fun r => .str r.1) (evs_cons (ev_var rfl) evs_nil rfl) (wc wd_tm (by omega)) fun r hr => ⟨_, rfl, ev_get (ev_var rfl) ev_int get_t0⟩) (er_ret (ev_cmp (ev_var rfl) (ev_sset (ev_var rfl) (?_ : _ = some (.list (sortD (dedD ((rs.map (·.1)).map .str)))))) ?_))
      · rw [e, ssetD_list (by simpa using hx)]
      · rw [cmpD_eq (shaped_strs sn) ?_, e]
        · simp only [PyData.eqv]
        · refine shaped_list (layAll_of fun x hx => ?_) (depth_all fun x hx => ?_)
          · have := mem_ded ((sortD_perm _).mem_iff.1 hx)
            obtain ⟨y, hy, rfl⟩ := List.mem_map.1 this
            obtain ⟨r, hr, rfl⟩ := List.mem_map.1 hy
            exact sn r hr
          · have := mem_ded ((sortD_perm _).mem_iff.1 hx)
            obtain ⟨y, hy, rfl⟩ := List.mem_map.1 this
            simp [PyData.depth]
    · unfold isRecD
      have : (xs.any fun d => !isRowD d) = !xs.all isRowD := by simp [List.any_eq_not_all_not]
      rw [this]
      show _ = PyData.bool (xs.all isRowD && upS (xs.map nameOfD))
      cases xs.all isRowD <;> rfl
  | _ => exact gives_er1 h.own rfl (er_ifT (ev_notB (ev_isi (d := .bool false) (ev_var rfl) (by simp))) truD_bool ev_bl) rfl
end KN

set_option maxRecDepth 100000
set_option maxHeartbeats 4000000
namespace KN
open PySem L2 PyProof.Rows
/-- data whose rows are no longer than s -/
inductive Nc (s : Nat) : D → Prop
  | fl {d : D} : flatD d = true → okD d = true → Nc s d
  | lst {xs : List D} : xs.length ≤ s → (∀ x ∈ xs, Nc s x) → Nc s (.list xs)
  | tup {xs : List D} : xs.length ≤ s → (∀ x ∈ xs, Nc s x) → Nc s (.tuple xs)
theorem Nc.ok {s : Nat} (hs : s ≤ 4096) {d : D} (h : Nc s d) : okD d = true := by
  induction h with
  | fl _ h => exact h
  | lst h1 _ ih => simp only [okD, Bool.and_eq_true, decide_eq_true_eq]; exact ⟨by omega, okDs_of ih⟩
  | tup h1 _ ih => simp only [okD, Bool.and_eq_true, decide_eq_true_eq]; exact ⟨by omega, okDs_of ih⟩
theorem Nc.mono {s t : Nat} (hs : s ≤ t) {d : D} (h : Nc s d) : Nc t d := by
  induction h with
  | fl h1 h2 => exact .fl h1 h2
  | lst h1 _ ih => exact .lst (by omega) ih
  | tup h1 _ ih => exact .tup (by omega) ih
def oddL : List D := [.str "ra", .str "rb", .str "", .str "A", .none, .int 0, .int 3, .int (-1), .bool true, .tuple [], .tuple [.str "ra", .int 1], .tuple [.str "rb", .int 0], .tuple [.str "ra"], .list [], .list [.str "rc", .int 5]]
def ncB : D → Bool
  | .list xs => decide (xs.length ≤ 2) && xs.all fun x => flatD x && okD x
  | .tuple xs => decide (xs.length ≤ 2) && xs.all fun x => flatD x && okD x
  | d => flatD d && okD d
theorem ncB_nc {d : D} {s : Nat} (hs : 2 ≤ s) (h : ncB d = true) : Nc s d := by
  cases d with
  | list xs =>
    simp only [ncB, Bool.and_eq_true, decide_eq_true_eq, List.all_eq_true] at h
    exact .lst (by omega) fun x hx => .fl (h.2 x hx).1 (h.2 x hx).2
  | tuple xs =>
    simp only [ncB, Bool.and_eq_true, decide_eq_true_eq, List.all_eq_true] at h
    exact .tup (by omega) fun x hx => .fl (h.2 x hx).1 (h.2 x hx).2
  | dict kvs => simp [ncB, flatD] at h
  | _ =>
    simp only [ncB, Bool.and_eq_true] at h
    exact .fl h.1 h.2
theorem odd_nc {s : Nat} (hs : 2 ≤ s) : ∀ d ∈ oddL, Nc s d := by
  intro d hd
  refine ncB_nc hs ?_
  have : oddL.all ncB = true := by decide +kernel
  exact List.all_eq_true.1 this d hd
theorem spoilt_seq {B : Tb} (h : C14 B) {k n s : Nat} {d : D} {xs : List D} {τ : List D} {m : Nat}
    (ih : ∀ (d : D) (τ : List D) (m : Nat), Nc s d → Bx τ m → m + 4 * (k + 1) < 2 ^ 58 → Ok (callF B (n + k + 3) 14 [d, .int k]) τ fun r τ' => Nc (s + 1) r ∧ ∃ m', Bx τ' m' ∧ m' ≤ m + 4 * (k + 1))
    (hd : d = .list xs ∨ d = .tuple xs) (hl : xs.length ≤ s) (hx : ∀ x ∈ xs, Nc s x) (h2 : 2 ≤ s) (hs : s ≤ 1000) (hb : Bx τ m) (hm : m + 4 * (k + 1 + 1) < 2 ^ 58) :
    Ok (evSs (callF B (n + k + 3)) (b14_spoilt.drop 1) [some .tin, some (.dat d), some (.dat (.int ((k + 1 : Nat) : Int))), some (.dat (.list oddL)), none, none, none]) τ fun o τ' => ∃ r, outD o = some r ∧ Nc (s + 1) r ∧ ∃ m', Bx τ' m' ∧ m' ≤ m + 4 * (k + 1 + 1) := by
  have one : ∀ τ m Q, Bx τ m → m < 2 ^ 58 + 10 → (∀ d ∈ oddL, ∀ τ', Bx τ' (m + 1) → Q d τ') → Ok (callF B (n + k + 3) 9 [.list oddL]) τ Q := fun τ m Q hb hm hq =>
    (of_ok (f := 9) (t := 7) (n := n + k + 1) h.c9.own h.c7.own hb (by omega) (by decide) (by decide)).mono fun d τ' q => hq d q.1 τ' q.2
  have k0 : ¬ ((k : Int) + 1 = 0) := by omega
  have e1 : isiD d ["list", "tuple"] = some (.bool true) := by rcases hd with rfl | rfl <;> simp
  have e2 : biD .len [d] = some (.int xs.length) := by rcases hd with rfl | rfl <;> rfl
  have e3 : biD .list [d] = some (.list xs) := by rcases hd with rfl | rfl <;> rfl
  have up : ∀ x ∈ xs, Nc (s + 1) x := fun x hm => (hx x hm).mono (by omega)
  have tupNc : ∀ ys : List D, ys.length ≤ s + 1 → (∀ y ∈ ys, y ∈ xs ∨ y ∈ oddL) → Nc (s + 1) (.tuple ys) := fun ys h1 h2' => .tup h1 fun y hy => (h2' y hy).elim (up y) (odd_nc (by omega) y)
  unfold b14_spoilt
  rw [List.drop_succ_cons, List.drop_zero]
  by_cases hn : xs = []
  · have hn' : (xs.length : Int) = 0 := by rw [hn]; rfl
    simp [k0, e1, e2, hn']
    exact one _ m _ hb (by omega) fun d hd τ' b => ⟨odd_nc (by omega) d hd, m + 1, b, by omega⟩
  · have hp : 0 < xs.length := List.length_pos_iff.mpr hn
    have hn' : ¬ (xs.length : Int) = 0 := by omega
    simp [k0, e1, e2, e3, hn, hn']
    refine (take_g h.c7 hb (by omega) (by decide) (by decide)).mono fun d1 τ1 q => ?_
    obtain ⟨w, rfl, hw, b1⟩ := q
    refine (take_g h.c7 b1 (by omega) (by omega) (by omega)).mono fun d2 τ2 q => ?_
    obtain ⟨i, rfl, hi, b2⟩ := q
    have hi : i < xs.length := by omega
    have i1 : (i : Int) + 1 = ((i + 1 : Nat) : Int) := by omega
    have f2 : ∃ m', Bx τ2 m' ∧ m' ≤ m + 4 * (k + 1 + 1) := ⟨_, b2, by omega⟩
    simp [e3]
    by_cases w0 : w = 0
    · exact .inr ⟨w0, .lst (by omega) up, f2⟩
    · refine .inl ⟨w0, ?_⟩
      by_cases w1 : (w : Int) = 1
      · refine .inr ⟨w1, _, binD_addL ?_, _, rfl, tupNc _ ?_ fun y hy => ?_, f2⟩
        · rw [i1, cut_to, cut_from, List.length_take, List.length_drop]; omega
        · rw [i1, cut_to, cut_from, List.length_append, List.length_take, List.length_drop]; omega
        · rw [i1, cut_to, cut_from] at hy
          exact .inl ((List.mem_append.1 hy).elim List.mem_of_mem_take List.mem_of_mem_drop)
      · refine .inl ⟨w1, ?_⟩
        by_cases w2 : (w : Int) = 2
        · refine .inr ⟨w2, _, binD_addL ?_, _, rfl, tupNc _ ?_ fun y hy => ?_, f2⟩
          · rw [i1, cut_to, cut_from, List.length_take, List.length_drop]; omega
          · rw [i1, cut_to, cut_from, List.length_append, List.length_take, List.length_drop]; omega
          · rw [i1, cut_to, cut_from] at hy
            exact .inl ((List.mem_append.1 hy).elim List.mem_of_mem_take List.mem_of_mem_drop)
        · refine .inl ⟨w2, ?_⟩
          by_cases w3 : (w : Int) = 3
          · refine .inr ⟨w3, one _ _ _ b2 (by omega) fun y hy τ3 b3 => ⟨_, binD_addL ?_, _, binD_addL ?_, _, rfl, tupNc _ ?_ fun z hz => ?_, _, b3, by omega⟩⟩
            · rw [cut_to, List.length_take, List.length_singleton]; omega
            · rw [cut_to, cut_from, List.length_append, List.length_take, List.length_singleton, List.length_drop]; omega
            · rw [cut_to, cut_from, List.length_append, List.length_append, List.length_take, List.length_singleton, List.length_drop]; omega
            · rw [cut_to, cut_from] at hz
              rcases List.mem_append.1 hz with hz | hz
              · rcases List.mem_append.1 hz with hz | hz
                · exact .inl (List.mem_of_mem_take hz)
                · rw [List.mem_singleton] at hz
                  exact .inr (hz ▸ hy)
              · exact .inl (List.mem_of_mem_drop hz)
          · refine .inl ⟨w3, ?_⟩
            by_cases w4 : (w : Int) = 4
            · exact .inr ⟨w4, tupNc _ (by rw [List.length_reverse]; omega) fun y hy => .inl (List.mem_reverse.1 hy), f2⟩
            · refine .inl ⟨w4, xs[i], List.getElem?_eq_getElem hi, (ih _ _ _ (hx _ (List.getElem_mem hi)) b2 (by omega)).mono fun r τ3 q => ?_⟩
              obtain ⟨q1, m', b3, q2⟩ := q
              refine ⟨_, ⟨_, stoD_nat hi, rfl⟩, _, rfl, .tup (by rw [List.length_set]; omega) fun y hy => ?_, m', b3, by omega⟩
              rcases List.mem_or_eq_of_mem_set hy with hy | hy
              · exact up y hy
              · exact hy ▸ q1
theorem spoilt_g {B : Tb} (h : C14 B) : ∀ (k n s : Nat) (d : D) (τ : List D) (m : Nat), Nc s d → 2 ≤ s → s ≤ 1000 → Bx τ m → m + 4 * (k + 1) < 2 ^ 58 → Ok (callF B (n + k + 3) 14 [d, .int k]) τ fun r τ' => Nc (s + 1) r ∧ ∃ m', Bx τ' m' ∧ m' ≤ m + 4 * (k + 1) := by
  intro k
  induction k with
  | zero =>
    intro n s d τ m hd h2 hs hb hm
    rw [ok_is h.own rfl]
    unfold b14_spoilt
    rw [okS_cons, okS_asg]
    refine Ev.ok (d := .list oddL) (.mk fun τ => rfl) ?_
    simp
    refine (of_ok (f := 9) (t := 7) h.c9.own h.c7.own hb (by omega) (by decide) (by decide)).mono fun d τ' q => ⟨(odd_nc (by omega) d q.1), m + 1, q.2, by omega⟩
  | succ k ih =>
    intro n s d τ m hd h2 hs hb hm
    show Ok (callF B (n + k + 3 + 1) 14 [d, .int ((k + 1 : Nat) : Int)]) τ _
    rw [ok_is h.own rfl]
    unfold b14_spoilt
    rw [okS_cons, okS_asg]
    refine Ev.ok (d := .list oddL) (.mk fun τ => rfl) ?_
    have sq := fun (xs : List D) hd hl hx => spoilt_seq h (k := k) (n := n) (s := s) (d := d) (xs := xs) (τ := τ) (m := m) (fun d τ m h1 h2' h3 => ih n s d τ m h1 h2 hs h2' h3) hd hl hx h2 hs hb (by omega)
    cases hd with
    | lst h1 h3 => exact sq _ (.inl rfl) h1 h3
    | tup h1 h3 => exact sq _ (.inr rfl) h1 h3
    | fl h1 h3 =>
      have k0 : ¬ ((k : Int) + 1 = 0) := by omega
      have e1 : isiD d ["list", "tuple"] = some (.bool false) := by cases d <;> first | (exfalso; cases h1; done) | simp
      simp [k0, e1]
      exact (of_ok (f := 9) (t := 7) (n := n + k + 1) h.c9.own h.c7.own hb (by omega) (by decide) (by decide)).mono fun d τ' q => ⟨(odd_nc (by omega) d q.1), m + 1, q.2, by omega⟩
end KN

set_option maxRecDepth 100000
set_option maxHeartbeats 4000000
namespace KN
open PySem L2 PyProof.Rows
/-- a loop that goes through, the state up to what is told of it -/
theorem er_loopI {C : Nat → List D → M D} {ρ : En} {ι κ : Type} {tg : Tg} {ik : IK} {src : List E} {body r : List S} {xs : List D} {l : List ι} {inj : ι → D} {o : Out} (I : κ → Nat → En → Prop) (step : κ → ι → κ) (s0 : κ) (hs : Evs C src ρ xs) (hw : walkD ik xs = some (l.map inj)) (h0 : I s0 0 ρ)
    (hb : ∀ x ∈ l, ∀ s k ρ, k < l.length → I s k ρ → ∃ ρ', setTg tg (inj x) ρ = some ρ' ∧ ∃ ρ'', I (step s x) (k + 1) ρ'' ∧ (Er C body ρ' (.nx ρ'') ∨ Er C body ρ' (.ct ρ''))) (hr : ∀ ρ', I (l.foldl step s0) l.length ρ' → Er C r ρ' o) : Er C (.loop tg ik src body :: r) ρ o := by
  have go : ∀ (l' : List ι) (s : κ) (k : Nat) (ρ : En), (∀ x ∈ l', x ∈ l) → I s k ρ → k + l'.length = l.length → ∃ ρ', I (l'.foldl step s) l.length ρ' ∧ ∀ τ, loopL (fun d ρ => (M.of (setTg tg d ρ)).bnd fun ρ' => evSs C body ρ') (l'.map inj) ρ τ = some (.nx ρ', τ) := by
    intro l'
    induction l' with
    | nil => intro s k ρ _ hp hk; simp at hk; subst hk; exact ⟨ρ, hp, fun τ => rfl⟩
    | cons x l' ih =>
      intro s k ρ hm hp hk
      simp only [List.length_cons] at hk
      obtain ⟨ρ', h2, ρ'', h1, h3⟩ := hb x (hm x List.mem_cons_self) s k ρ (by omega) hp
      obtain ⟨ρ3, g1, g2⟩ := ih (step s x) (k + 1) ρ'' (fun y hy => hm y (List.mem_cons_of_mem _ hy)) h1 (by omega)
      refine ⟨ρ3, g1, fun τ => ?_⟩
      show (((M.of (setTg tg (inj x) ρ)).bnd fun ρ' => evSs C body ρ').bnd _) τ = _
      rcases h3 with h3 | h3
      · rw [M.bnd_eq ((M.bnd_eq (M.of_eq h2)).trans (h3.run τ))]
        exact g2 τ
      · rw [M.bnd_eq ((M.bnd_eq (M.of_eq h2)).trans (h3.run τ))]
        exact g2 τ
  obtain ⟨ρ', g1, g2⟩ := go l s0 0 ρ (fun _ h => h) h0 (by simp)
  refine er_seq (fun τ => ?_) (hr ρ' g1)
  show ((evEs C src ρ).bnd fun xs => (M.of (walkD ik xs)).bnd fun items => loopL (fun d ρ => (M.of (setTg tg d ρ)).bnd fun ρ' => evSs C body ρ') items ρ) τ = _
  rw [M.bnd_eq (hs.run τ), M.bnd_eq (M.of_eq hw)]
  exact g2 τ
/-! ### rows as tuples, as lists -/
mutual
def tupD : D → D
  | .list xs => .tuple (tupDs xs)
  | .tuple xs => .tuple (tupDs xs)
  | .none => .none
  | .bool b => .bool b
  | .int i => .int i
  | .str x => .str x
  | .dict kvs => .dict kvs
def tupDs : List D → List D
  | [] => []
  | x :: r => tupD x :: tupDs r
end
theorem tupDs_map : ∀ xs : List D, tupDs xs = xs.map tupD
  | [] => rfl
  | x :: r => by simp [tupDs, tupDs_map r]
mutual
def lisD : D → D
  | .list xs => .list (lisDs xs)
  | .tuple xs => .list (lisDs xs)
  | .none => .none
  | .bool b => .bool b
  | .int i => .int i
  | .str x => .str x
  | .dict kvs => .dict kvs
def lisDs : List D → List D
  | [] => []
  | x :: r => lisD x :: lisDs r
end
theorem lisDs_map : ∀ xs : List D, lisDs xs = xs.map lisD
  | [] => rfl
  | x :: r => by simp [lisDs, lisDs_map r]
theorem tupled_g {B : Tb} (h : C18 B) : ∀ (n : Nat) (d : D), d.depth < n → okD d = true → Gives (callF B n) 18 [d] (tupD d) := by
  intro n
  induction n with
  | zero => intro d h0; omega
  | succ n ih =>
    intro d hd ho
    cases d with
    | list xs =>
      simp only [PyData.depth] at hd
      simp only [okD, Bool.and_eq_true, decide_eq_true_eq] at ho
      refine gives_er1 h.own rfl (er_ret (ev_iteB (y := .none) (ev_isi (ev_var rfl) isi_list_list_tuple) (fun _ => ev_tupleL (ev_comp (l := xs) (inj := fun d => d) (g := tupD) (evs_cons (ev_var rfl) evs_nil rfl) (wc wd_l ho.1) fun x hx => ⟨_, rfl, ev_call (evs_cons (ev_var rfl) evs_nil rfl) (ih x (by have := depthAll_mem hx; omega) (okDs_mem ho.2 x hx))⟩) rfl) fun z => nomatch z)) ?_
      simp [tupD, tupDs_map]
    | tuple xs =>
      simp only [PyData.depth] at hd
      simp only [okD, Bool.and_eq_true, decide_eq_true_eq] at ho
      refine gives_er1 h.own rfl (er_ret (ev_iteB (y := .none) (ev_isi (ev_var rfl) isi_tuple_list_tuple) (fun _ => ev_tupleL (ev_comp (l := xs) (inj := fun d => d) (g := tupD) (evs_cons (ev_var rfl) evs_nil rfl) (wc wd_t ho.1) fun x hx => ⟨_, rfl, ev_call (evs_cons (ev_var rfl) evs_nil rfl) (ih x (by have := depthAll_mem hx; omega) (okDs_mem ho.2 x hx))⟩) rfl) fun z => nomatch z)) ?_
      simp [tupD, tupDs_map]
    | dict kvs => simp [okD] at ho
    | _ => exact gives_er1 h.own rfl (er_ret (ev_iteB (p := false) (x := .none) (ev_isi (ev_var rfl) (by simp)) (fun z => nomatch z) fun _ => ev_var rfl)) rfl
theorem lists_g {B : Tb} (h : C26 B) : ∀ (n : Nat) (d : D), d.depth < n → okD d = true → Gives (callF B n) 26 [d] (lisD d) := by
  intro n
  induction n with
  | zero => intro d h0; omega
  | succ n ih =>
    intro d hd ho
    cases d with
    | list xs =>
      simp only [PyData.depth] at hd
      simp only [okD, Bool.and_eq_true, decide_eq_true_eq] at ho
      refine gives_er1 h.own rfl (er_ret (ev_iteB (y := .none) (ev_isi (ev_var rfl) isi_list_list_tuple) (fun _ => ev_comp (l := xs) (inj := fun d => d) (g := lisD) (evs_cons (ev_var rfl) evs_nil rfl) (wc wd_l ho.1) fun x hx => ⟨_, rfl, ev_call (evs_cons (ev_var rfl) evs_nil rfl) (ih x (by have := depthAll_mem hx; omega) (okDs_mem ho.2 x hx))⟩) fun z => nomatch z)) ?_
      simp [lisD, lisDs_map]
    | tuple xs =>
      simp only [PyData.depth] at hd
      simp only [okD, Bool.and_eq_true, decide_eq_true_eq] at ho
      refine gives_er1 h.own rfl (er_ret (ev_iteB (y := .none) (ev_isi (ev_var rfl) isi_tuple_list_tuple) (fun _ => ev_comp (l := xs) (inj := fun d => d) (g := lisD) (evs_cons (ev_var rfl) evs_nil rfl) (wc wd_t ho.1) fun x hx => ⟨_, rfl, ev_call (evs_cons (ev_var rfl) evs_nil rfl) (ih x (by have := depthAll_mem hx; omega) (okDs_mem ho.2 x hx))⟩) fun z => nomatch z)) ?_
      simp [lisD, lisDs_map]
    | dict kvs => simp [okD] at ho
    | _ => exact gives_er1 h.own rfl (er_ret (ev_iteB (p := false) (x := .none) (ev_isi (ev_var rfl) (by simp)) (fun z => nomatch z) fun _ => ev_var rfl)) rfl
def rowL (r : Str × Int) : D := .list [.str r.1, .int r.2]
theorem tupD_rows (rs : List (Str × Int)) : tupD (.tuple (rs.map rowD)) = .tuple (rs.map rowD) := by
  simp only [tupD, tupDs_map, List.map_map]
  congr 1
theorem lisD_rows (rs : List (Str × Int)) : lisD (.tuple (rs.map rowD)) = .list (rs.map rowL) := by
  simp only [lisD, lisDs_map, List.map_map]
  congr 1
theorem tupD_rowsL (rs : List (Str × Int)) : tupD (.list (rs.map rowL)) = .tuple (rs.map rowD) := by
  simp only [tupD, tupDs_map, List.map_map]
  congr 1
/-! ### who is near -/
def farB (i : Int) (reach : Int) : Bool := decide ((if i < 0 then -i else i) ≤ reach)
def nearR (rs : List (Str × Int)) (reach : Int) (r : Str × Int) : List (Str × Int) := rs.filter fun q => (!decide (q.1 = r.1)) && farB (q.2 - r.2) reach
theorem key_eqK {a b : Str} : eqK (.str a) (.str b) = decide (a = b) := rfl
theorem put_new {kvs : List (D × D)} {k v : D} (h : ∀ p ∈ kvs, eqK p.1 k = false) : putKD kvs k v = kvs ++ [(k, v)] := by
  unfold putKD
  rw [if_neg]
  simp only [Bool.not_eq_true, List.any_eq_false]
  intro p hp
  rw [h p hp]
theorem put_fold {f : Str × Int → D} : ∀ (rs : List (Str × Int)) (acc : List (D × D)), (rs.map (·.1)).Nodup → (∀ r ∈ rs, ∀ p ∈ acc, eqK p.1 (.str r.1) = false) → rs.foldl (fun kv r => putKD kv (.str r.1) (f r)) acc = acc ++ rs.map fun r => (.str r.1, f r)
  | [], acc, _, _ => by simp
  | r :: rs, acc, hn, hk => by
    simp only [List.map_cons, List.nodup_cons] at hn
    rw [List.foldl_cons, put_new (hk r List.mem_cons_self), put_fold rs _ hn.2]
    · simp
    · intro q hq p hp
      rcases List.mem_append.1 hp with hp | hp
      · exact hk q (List.mem_cons_of_mem _ hq) p hp
      · rw [List.mem_singleton] at hp
        subst hp
        rw [key_eqK, decide_eq_false]
        intro e
        exact hn.1 (List.mem_map.2 ⟨q, hq, e.symm⟩)
theorem put_len {kvs : List (D × D)} {k v : D} : (putKD kvs k v).length ≤ kvs.length + 1 := putKD_len kvs k v
def closeD (rs : List (Str × Int)) (reach : Int) : List (D × D) := rs.map fun r => (.str r.1, .list ((nearR rs reach r).map fun q => .str q.1))
theorem close_g {B : Tb} {n : Nat} (h : C27 B) (rs : List (Str × Int)) (reach : Int) (hl : rs.length ≤ 4096) (hn : (rs.map (·.1)).Nodup) (hs : ∀ r ∈ rs, PyData.strOk r.1 = true) : Gives (callF B (n + 1)) 27 [.tuple (rs.map rowD), .int reach] (.dict (closeD rs reach)) := by
  refine gives_er h.own (er_asgD ev_dic0 (er_loopI (l := rs) (inj := rowD) (fun (kv : List (D × D)) k ρ => kv.length ≤ k ∧ ∃ v3 v4 v5, ρ = [some (.dat (.tuple (rs.map rowD))), some (.dat (.int reach)), some (.own (.dic kv)), v3, v4, v5]) (fun kv r => putKD kv (.str r.1) (.list ((nearR rs reach r).map fun q => .str q.1))) [] (evs_cons (ev_var rfl) evs_nil rfl) wd_tm ⟨by simp, _, _, _, rfl⟩ ?_ ?_))
  · rintro r hr kv k ρ hk ⟨h1, v3, v4, v5, rfl⟩
    refine ⟨_, rfl, _, ⟨?_, _, _, _, rfl⟩, .inl (er_stoD (ds := kv) ?_ (ev_var rfl) rfl rfl (by omega) er_nil)⟩
    · have := putKD_len kv (.str r.1) (.list ((nearR rs reach r).map fun q => .str q.1)); omega
    · apply Ev.cast
      · apply ev_compIf (l := rs) (inj := rowD) (k := fun q => (!decide (q.1 = r.1)) && farB (q.2 - r.2) reach) (g := fun q => .str q.1) (evs_cons (ev_var rfl) evs_nil rfl) (wc wd_tm (by omega)) rfl
        intro q hq
        refine ⟨_, rfl, ev_andB (ev_cmp (ev_get (ev_var rfl) ev_int get_t0) (ev_var rfl) (cmp_neS (hs q hq) (hs r hr))) fun _ => ev_le (ev_abs (ev_sub (ev_get (ev_var rfl) ev_int get_t1) (ev_var rfl)) rfl) (ev_var rfl), fun _ => ev_get (ev_var rfl) ev_int get_t0⟩
      · rfl
  · rintro ρ ⟨h1, v3, v4, v5, rfl⟩
    refine er_frz rfl (er_ret (Ev.cast (ev_var rfl) ?_))
    show PyData.dict _ = _
    rw [put_fold (f := fun r => .list ((nearR rs reach r).map fun q => .str q.1)) rs [] hn (by simp)]
    rfl

def nearD (rs : List (Str × Int)) (reach : Int) : List (D × D) := rs.map fun r => (.str r.1, .tuple ((nearR rs reach r).map fun q => .str q.1))
/-- rows, as tuples or as lists -/
def Rws (d : D) (rs : List (Str × Int)) : Prop := d = .tuple (rs.map rowD) ∨ d = .list (rs.map rowL)
theorem okD_rows {rs : List (Str × Int)} (hl : rs.length ≤ 4096) (hs : ∀ r ∈ rs, okD (.str r.1) = true) {d : D} (h : Rws d rs) : okD d = true := by
  rcases h with rfl | rfl
  · simp only [okD, Bool.and_eq_true, decide_eq_true_eq, List.length_map]
    refine ⟨by omega, okDs_of fun x hx => ?_⟩
    obtain ⟨r, hr, rfl⟩ := List.mem_map.1 hx
    have := hs r hr
    simp only [okD] at this
    simp [rowD, okD, okDs, this]
  · simp only [okD, Bool.and_eq_true, decide_eq_true_eq, List.length_map]
    refine ⟨by omega, okDs_of fun x hx => ?_⟩
    obtain ⟨r, hr, rfl⟩ := List.mem_map.1 hx
    have := hs r hr
    simp only [okD] at this
    simp [rowL, okD, okDs, this]
theorem depth_rows {rs : List (Str × Int)} {d : D} (h : Rws d rs) : d.depth ≤ 2 := by
  rcases h with rfl | rfl
  · simp only [PyData.depth]
    have : PyData.depthAll (rs.map rowD) ≤ 1 := depth_all fun x hx => by
      obtain ⟨r, hr, rfl⟩ := List.mem_map.1 hx
      simp [rowD, PyData.depth, PyData.depthAll]
    omega
  · simp only [PyData.depth]
    have : PyData.depthAll (rs.map rowL) ≤ 1 := depth_all fun x hx => by
      obtain ⟨r, hr, rfl⟩ := List.mem_map.1 hx
      simp [rowL, PyData.depth, PyData.depthAll]
    omega
theorem tupled_rows {B : Tb} {n : Nat} (h : C18 B) {rs : List (Str × Int)} (hl : rs.length ≤ 4096) (hs : ∀ r ∈ rs, okD (.str r.1) = true) {d : D} (hd : Rws d rs) : Gives (callF B (n + 3)) 18 [d] (.tuple (rs.map rowD)) := by
  have := tupled_g h (n + 3) d (by have := depth_rows hd; omega) (okD_rows hl hs hd)
  rcases hd with rfl | rfl
  · rwa [tupD_rows] at this
  · rwa [tupD_rowsL] at this
theorem near_g {B : Tb} {n : Nat} (h : C20 B) {rs : List (Str × Int)} {reach : Int} (hl : rs.length ≤ 4096) (hn : (rs.map (·.1)).Nodup) (hs : ∀ r ∈ rs, okD (.str r.1) = true) {d : D} (hd : Rws d rs) : Gives (callF B (n + 4)) 20 [d, .int reach] (.dict (nearD rs reach)) := by
  have hs' : ∀ r ∈ rs, PyData.strOk r.1 = true := fun r hr => (okD_str (hs r hr)).1
  refine gives_er h.own (er_asg (ev_call (evs_cons (ev_var rfl) evs_nil rfl) (tupled_rows h.c18 hl hs hd)) (er_asgD ev_dic0 (er_loopI (l := rs) (inj := rowD) (fun (kv : List (D × D)) k ρ => kv.length ≤ k ∧ ∃ v4 v5 v6 v7, ρ = [some (.dat d), some (.dat (.int reach)), some (.dat (.tuple (rs.map rowD))), some (.own (.dic kv)), v4, v5, v6, v7]) (fun kv r => putKD kv (.str r.1) (.tuple ((nearR rs reach r).map fun q => .str q.1))) [] (evs_cons (ev_var rfl) evs_nil rfl) wd_tm ⟨by simp, _, _, _, _, rfl⟩ ?_ ?_)))
  · rintro r hr kv k ρ hk ⟨h1, v4, v5, v6, v7, rfl⟩
    refine ⟨_, rfl, _, ⟨?_, _, _, _, _, rfl⟩, .inl (er_stoD (ds := kv) ?_ (ev_var rfl) rfl rfl (by omega) er_nil)⟩
    · have := putKD_len kv (.str r.1) (.tuple ((nearR rs reach r).map fun q => .str q.1)); omega
    · apply Ev.cast
      · apply ev_tupleL (ev_compIf (l := rs) (inj := rowD) (k := fun q => (!decide (q.1 = r.1)) && farB (q.2 - r.2) reach) (g := fun q => .str q.1) (evs_cons (ev_var rfl) evs_nil rfl) (wc wd_tm (by omega)) rfl ?_) rfl
        intro q hq
        exact ⟨_, rfl, ev_andB (ev_cmp (ev_var rfl) (ev_var rfl) (cmp_neS (hs' q hq) (hs' r hr))) fun _ => ev_le (ev_abs (ev_sub (ev_var rfl) (ev_var rfl)) rfl) (ev_var rfl), fun _ => ev_var rfl⟩
      · rfl
  · rintro ρ ⟨h1, v4, v5, v6, v7, rfl⟩
    refine er_frz rfl (er_ret (Ev.cast (ev_var rfl) ?_))
    show PyData.dict _ = _
    rw [put_fold (f := fun r => .tuple ((nearR rs reach r).map fun q => .str q.1)) rs [] hn (by simp)]
    rfl
end KN

set_option maxRecDepth 100000
set_option maxHeartbeats 4000000
namespace KN
open PySem L2 PyProof.Rows
theorem er_ifTs {C : Nat → List D → M D} {ρ : En} {c : E} {x : D} {u v r : List S} {o : Out} (hc : Ev C c ρ x) (hx : truD x = some true) (ha : Er C (u ++ r) ρ o) : Er C (.ite c u v :: r) ρ o := by
  have := er_ifB (u := u) (v := v) (r := r) (o2 := o) hc hx (fun _ => ha) fun h => nomatch h
  exact this
/-! ### order of texts -/
def insS (x : Str) : List Str → List Str
  | [] => [x]
  | y :: r => if ltS y x then y :: insS x r else x :: y :: r
def sortS : List Str → List Str
  | [] => []
  | x :: r => insS x (sortS r)
theorem insS_eq (x : Str) : ∀ l : List Str, insD (.str x) (l.map .str) = (insS x l).map .str
  | [] => rfl
  | y :: r => by
    simp only [List.map_cons, insD, insS, lt_ss]
    have : decide (y.cps.toList < x.cps.toList) = ltS y x := rfl
    rw [this]
    cases ltS y x with
    | true => simp [insS_eq x r]
    | false => rfl
theorem sortS_eq : ∀ l : List Str, sortD (l.map .str) = (sortS l).map .str
  | [] => rfl
  | x :: r => by
    simp only [List.map_cons, sortD, sortS]
    rw [sortS_eq r, insS_eq]
theorem str_inj {l m : List Str} (h : l.map PyData.str = m.map PyData.str) : l = m := by
  induction l generalizing m with
  | nil => cases m with
    | nil => rfl
    | cons _ _ => cases h
  | cons a l ih => cases m with
    | nil => cases h
    | cons b m =>
      simp only [List.map_cons, List.cons.injEq, PyData.str.injEq] at h
      rw [h.1, ih h.2]
theorem insS_perm (x : Str) : ∀ l, (insS x l).Perm (x :: l)
  | [] => .refl _
  | y :: r => by
    unfold insS
    split
    · exact ((insS_perm x r).cons y).trans (.swap x y r)
    · exact .refl _
theorem sortS_perm : ∀ l, (sortS l).Perm l
  | [] => .refl _
  | x :: r => (insS_perm x (sortS r)).trans ((sortS_perm r).cons x)
theorem sortS_id {l : List Str} (h : upS l = true) : ∀ {m : List Str}, m.Perm l → sortS m = l := by
  intro m hp
  refine str_inj ?_
  rw [← sortS_eq]
  refine (sortD_uniq (l := m.map PyData.str) (m := l.map PyData.str) (fun a ha b hb => ?_) (hp.symm.map _) ?_).symm
  · obtain ⟨a', _, rfl⟩ := List.mem_map.1 ha
    obtain ⟨b', _, rfl⟩ := List.mem_map.1 hb
    simp [PySem.W.alike]
  · refine List.pairwise_map.2 (((upS_pw l).1 h).imp fun {a b} h => ?_)
    unfold nlt
    rw [lt_ss]
    exact decide_eq_false (fun z => List.lt_irrefl _ (List.lt_trans h z))
theorem sorted_strs {l : List Str} (hl : l.length ≤ 4096) (hs : ∀ x ∈ l, PyData.strOk x = true) : sortL (l.map .str) = some (.list ((sortS l).map .str)) := by
  unfold sortL
  rw [if_pos, sortS_eq]
  simp only [Bool.and_eq_true]
  refine ⟨?_, ?_⟩
  · unfold allAlike
    rw [List.all_eq_true]
    intro x hx
    obtain ⟨a, ha, rfl⟩ := List.mem_map.1 hx
    simp only [Bool.and_eq_true, List.all_eq_true]
    refine ⟨⟨rfl, ?_⟩, fun y hy => ?_⟩
    · simp [PyData.canLay0, PyData.depth, hs a ha]
    · obtain ⟨b, _, rfl⟩ := List.mem_map.1 hy
      simp [PySem.W.alike]
  · unfold lineOk
    rw [List.length_map]
    exact decide_eq_true (by omega)
theorem inD_strs {a : Str} {l : List Str} : inD (.str a) (l.map .str) = decide (a ∈ l) := by
  unfold inD
  rw [List.any_map]
  by_cases h : a ∈ l
  · rw [decide_eq_true h, List.any_eq_true]
    exact ⟨a, h, by simp [PyData.eqv]⟩
  · rw [decide_eq_false h, List.any_eq_false]
    intro b hb
    simp only [Function.comp, PyData.eqv]
    intro e
    exact h (by rw [← (by simpa using e : b = a)]; exact hb)
theorem lay_strs {l : List Str} (hs : ∀ x ∈ l, PyData.strOk x = true) : PyData.canLayAll0 (l.map .str) = true := layAll_of fun x hx => by
  obtain ⟨a, ha, rfl⟩ := List.mem_map.1 hx
  exact hs a ha
theorem in_cond {a : Str} {l : List Str} (ha : PyData.strOk a = true) (hs : ∀ x ∈ l, PyData.strOk x = true) : ((PyData.str a).canLay0 && decide ((PyData.str a).depth ≤ 40) && PyData.canLayAll0 (l.map .str)) = true := by
  simp [PyData.canLay0, PyData.depth, ha, lay_strs hs]
theorem cmp_inL {a : Str} {l : List Str} (ha : PyData.strOk a = true) (hs : ∀ x ∈ l, PyData.strOk x = true) : cmpD .In (.str a) (.list (l.map .str)) = some (.bool (decide (a ∈ l))) := by
  show inSeq false _ _ = _
  unfold inSeq
  rw [if_pos (in_cond ha hs), inD_strs]; rfl
theorem cmp_inT {a : Str} {l : List Str} (ha : PyData.strOk a = true) (hs : ∀ x ∈ l, PyData.strOk x = true) : cmpD .In (.str a) (.tuple (l.map .str)) = some (.bool (decide (a ∈ l))) := by
  show inSeq false _ _ = _
  unfold inSeq
  rw [if_pos (in_cond ha hs), inD_strs]; rfl
theorem cmp_ninT {a : Str} {l : List Str} (ha : PyData.strOk a = true) (hs : ∀ x ∈ l, PyData.strOk x = true) : cmpD .NotIn (.str a) (.tuple (l.map .str)) = some (.bool (!decide (a ∈ l))) := by
  show inSeq true _ _ = _
  unfold inSeq
  rw [if_pos (in_cond ha hs), inD_strs]; rfl
/-! ### whom a name is near -/
def rowAt (rs : List (Str × Int)) (a : Str) : Option (Str × Int) := rs.find? fun r => decide (r.1 = a)
def nb (rs : List (Str × Int)) (reach : Int) (a : Str) : List Str := match rowAt rs a with
  | some r => (nearR rs reach r).map (·.1)
  | none => []
theorem look_rows {f : Str × Int → D} {a : Str} : ∀ rs : List (Str × Int), lookK (rs.map fun r => (.str r.1, f r)) (.str a) = (rowAt rs a).map f
  | [] => rfl
  | r :: rs => by
    have ih := look_rows (f := f) (a := a) rs
    unfold rowAt at ih ⊢
    simp only [List.map_cons, lookK, key_eqK, List.find?_cons]
    by_cases h : r.1 = a
    · simp [h]
    · simp [h, ih]
theorem row_at {rs : List (Str × Int)} {a : Str} (h : a ∈ rs.map (·.1)) : ∃ r ∈ rs, r.1 = a ∧ rowAt rs a = some r := by
  cases e : rowAt rs a with
  | none =>
    obtain ⟨r, hr, rfl⟩ := List.mem_map.1 h
    have := List.find?_eq_none.1 e r hr
    simp at this
  | some r => exact ⟨r, List.mem_of_find?_eq_some e, by simpa using List.find?_some e, rfl⟩
theorem get_close {rs : List (Str × Int)} {reach : Int} {a : Str} (h : a ∈ rs.map (·.1)) : getD (.dict (closeD rs reach)) (.str a) = some (.list ((nb rs reach a).map .str)) := by
  show lookK (closeD rs reach) (.str a) = _
  unfold closeD
  rw [look_rows]
  obtain ⟨r, _, _, e⟩ := row_at h
  unfold nb
  rw [e]
  simp
theorem get_near {rs : List (Str × Int)} {reach : Int} {a : Str} (h : a ∈ rs.map (·.1)) : getD (.dict (nearD rs reach)) (.str a) = some (.tuple ((nb rs reach a).map .str)) := by
  show lookK (nearD rs reach) (.str a) = _
  unfold nearD
  rw [look_rows]
  obtain ⟨r, _, _, e⟩ := row_at h
  unfold nb
  rw [e]
  simp
theorem nb_mem {rs : List (Str × Int)} {reach : Int} {a b : Str} (h : b ∈ nb rs reach a) : b ∈ rs.map (·.1) := by
  unfold nb at h
  split at h
  · obtain ⟨q, hq, rfl⟩ := List.mem_map.1 h
    exact List.mem_map.2 ⟨q, (List.mem_filter.1 hq).1, rfl⟩
  · cases h
theorem nb_len {rs : List (Str × Int)} {reach : Int} {a : Str} : (nb rs reach a).length ≤ rs.length := by
  unfold nb
  split
  · rw [List.length_map]
    exact List.length_filter_le _ _
  · exact Nat.zero_le _
/-- a scan by a row of names -/
def grow (f : Str → List Str) (acc : List Str) (t : Str) : List Str := if (acc.filter fun o => decide (o ∈ f t)).isEmpty then acc ++ [t] else acc
def greedy (f : Str → List Str) (p : List Str) : List Str := p.foldl (grow f) []
theorem scan_g {B : Tb} {n : Nat} (h : C28 B) {rs : List (Str × Int)} {reach : Int} {p : List Str} (hl : rs.length ≤ 4096) (hn : (rs.map (·.1)).Nodup) (hs : ∀ r ∈ rs, PyData.strOk r.1 = true) (hp : ∀ a ∈ p, a ∈ rs.map (·.1)) (hpl : p.length ≤ 4096) :
    Gives (callF B (n + 2)) 28 [.tuple (rs.map rowD), .int reach, .tuple (p.map .str)] (.tuple ((sortS (greedy (nb rs reach) p)).map .str)) := by
  have ok : ∀ a ∈ rs.map (·.1), PyData.strOk a = true := fun a ha => by obtain ⟨r, hr, rfl⟩ := List.mem_map.1 ha; exact hs r hr
  refine gives_er h.own (er_par (evs_cons (ev_call (evs_cons (ev_var rfl) (evs_cons (ev_var rfl) evs_nil rfl) rfl) (close_g h.c27 rs reach hl hn hs)) (evs_cons (ev_lst evs_nil (by decide)) evs_nil rfl) rfl) rfl
    (er_loopI (l := p) (inj := .str) (fun (acc : List Str) k ρ => acc.length ≤ k ∧ (∀ a ∈ acc, a ∈ rs.map (·.1)) ∧ ∃ v5 v6, ρ = [some (.dat (.tuple (rs.map rowD))), some (.dat (.int reach)), some (.dat (.tuple (p.map .str))), some (.dat (.dict (closeD rs reach))), some (.own (.lst (acc.map .str))), v5, v6]) (grow (nb rs reach)) [] (evs_cons (ev_var rfl) evs_nil rfl) wd_tm ⟨by simp, by simp, _, _, rfl⟩ ?_ ?_))
  · rintro t ht acc k ρ hk ⟨h1, h2, v5, v6, rfl⟩
    have tin := hp t ht
    have ec : Ev (callF B (n + 1)) (.cmp .Eq (.comp (.var 6) (.nm 6) .ex [.peek 4] (.cmp .In (.var 6) (.get (.var 3) (.var 5)))) (.lst [])) [some (.dat (.tuple (rs.map rowD))), some (.dat (.int reach)), some (.dat (.tuple (p.map .str))), some (.dat (.dict (closeD rs reach))), some (.own (.lst (acc.map .str))), some (.dat (.str t)), v6] (.bool (acc.filter fun o => decide (o ∈ nb rs reach t)).isEmpty) := by
      refine Ev.cast (ev_cmp (ev_compIf (l := acc) (inj := .str) (k := fun o => decide (o ∈ nb rs reach t)) (g := .str) (evs_cons (ev_peekL rfl) evs_nil rfl) (wc wd_lm (by omega)) rfl fun o ho => ⟨_, rfl, ev_cmp (ev_var rfl) (ev_get (ev_var rfl) (ev_var rfl) (get_close tin)) (cmp_inL (ok _ (h2 o ho)) fun x hx => ok _ (nb_mem hx)), fun _ => ev_var rfl⟩) (ev_lst evs_nil (by decide)) (cmp_nilL (shaped_strs (f := fun x => x) fun x hx => ok _ (h2 x (List.mem_filter.1 hx).1)))) ?_
      rw [List.isEmpty_map]
    refine ⟨_, rfl, ?_⟩
    cases hc : (acc.filter fun o => decide (o ∈ nb rs reach t)).isEmpty with
    | true =>
      have e : grow (nb rs reach) acc t = acc ++ [t] := if_pos hc
      rw [hc] at ec
      refine ⟨_, ⟨?_, ?_, _, _, rfl⟩, .inl (er_ifTs ec rfl (er_app (ev_var rfl) rfl (by rw [List.length_map]; omega) (by rw [e, List.map_append]; exact er_nil)))⟩
      · rw [e, List.length_append, List.length_singleton]; omega
      · rw [e]
        intro a ha
        rcases List.mem_append.1 ha with ha | ha
        · exact h2 a ha
        · rw [List.mem_singleton] at ha; exact ha ▸ tin
    | false =>
      have e : grow (nb rs reach) acc t = acc := if_neg (by rw [hc]; simp)
      rw [hc] at ec
      refine ⟨_, ⟨?_, ?_, _, _, rfl⟩, .inl (er_ifF ec rfl (by rw [e]; exact er_nil))⟩
      · rw [e]; omega
      · rw [e]; exact h2
  · rintro ρ ⟨h1, h2, v5, v6, rfl⟩
    exact er_ret (ev_tupleL (ev_bi1 (ev_peekL rfl) (sorted_strs (by omega) fun x hx => ok _ (h2 x hx)) rfl) rfl)
end KN

set_option maxRecDepth 100000
set_option maxHeartbeats 4000000
namespace KN
open PySem L2 PyProof.Rows
/-! ### all orders -/
def permN : Nat → List Str → List (List Str)
  | 0, _ => [[]]
  | n + 1, l => l.zipIdx.foldl (fun acc p => acc ++ (permN n (l.take p.2 ++ l.drop (p.2 + 1))).map fun o => p.1 :: o) []
def facN : Nat → Nat
  | 0 => 1
  | n + 1 => (n + 1) * facN n
theorem foldl_app {ι α : Type} (f : ι → List α) : ∀ (l : List ι) (acc : List α), l.foldl (fun acc x => acc ++ f x) acc = acc ++ l.flatMap f
  | [], acc => by simp
  | x :: l, acc => by rw [List.foldl_cons, foldl_app f l]; simp
theorem permN_succ (n : Nat) (l : List Str) : permN (n + 1) l = l.zipIdx.flatMap fun p => (permN n (l.take p.2 ++ l.drop (p.2 + 1))).map fun o => p.1 :: o := by
  show l.zipIdx.foldl _ [] = _
  rw [foldl_app fun p : Str × Nat => (permN n (l.take p.2 ++ l.drop (p.2 + 1))).map fun o => p.1 :: o]
  simp
theorem cut_len {l : List Str} {k n : Nat} (h : l.length = n + 1) (hk : k < n + 1) : (l.take k ++ l.drop (k + 1)).length = n := by
  rw [List.length_append, List.length_take, List.length_drop]; omega
theorem zipIdx_at {l : List Str} {p : Str × Nat} (h : p ∈ l.zipIdx) : l[p.2]? = some p.1 := by
  obtain ⟨x, i⟩ := p
  have := List.mem_zipIdx_iff_getElem?.1 h
  simpa using this
theorem zipIdx_lt {l : List Str} {p : Str × Nat} (h : p ∈ l.zipIdx) : p.2 < l.length := (List.getElem?_eq_some_iff.1 (zipIdx_at h)).1
theorem sum_le {ι : Type} {f : ι → Nat} {c : Nat} : ∀ l : List ι, (∀ x ∈ l, f x ≤ c) → (l.map f).sum ≤ l.length * c
  | [], _ => by simp
  | x :: l, h => by
    have := sum_le l fun y hy => h y (List.mem_cons_of_mem _ hy)
    have h2 := h x List.mem_cons_self
    simp only [List.map_cons, List.sum_cons, List.length_cons, Nat.add_mul]
    omega
theorem permN_len : ∀ (n : Nat) (l : List Str), l.length = n → (permN n l).length ≤ facN n
  | 0, l, _ => Nat.le_refl _
  | n + 1, l, h => by
    rw [permN_succ, List.length_flatMap]
    refine Nat.le_trans (sum_le _ fun p hp => ?_) (by rw [List.length_zipIdx, h]; exact Nat.le_refl _)
    rw [List.length_map]
    exact permN_len n _ (cut_len h (by have := zipIdx_lt hp; omega))
theorem permN_mem : ∀ (n : Nat) (l p : List Str), l.length = n → (p ∈ permN n l ↔ p.Perm l)
  | 0, l, p, h => by
    have : l = [] := List.eq_nil_of_length_eq_zero h
    subst this
    simp [permN, List.perm_nil]
  | n + 1, l, p, h => by
    rw [permN_succ, List.mem_flatMap]
    constructor
    · rintro ⟨q, hq, hp⟩
      obtain ⟨o, ho, rfl⟩ := List.mem_map.1 hp
      have hk := zipIdx_lt hq
      have := (permN_mem n _ o (cut_len h (by omega))).1 ho
      have at_ := zipIdx_at hq
      refine (this.cons q.1).trans ?_
      have e : l = l.take q.2 ++ q.1 :: l.drop (q.2 + 1) := by
        conv => lhs; rw [← List.take_append_drop q.2 l]
        rw [List.drop_eq_getElem_cons hk]
        have := (List.getElem?_eq_some_iff.1 at_).2
        rw [this]
      conv => rhs; rw [e]
      exact List.perm_middle.symm
    · intro hp
      cases p with
      | nil => have := hp.length_eq; simp at this; omega
      | cons t o =>
        have ht : t ∈ l := hp.mem_iff.1 List.mem_cons_self
        obtain ⟨k, hk, e⟩ := List.getElem_of_mem ht
        refine ⟨(t, k), ?_, List.mem_map.2 ⟨o, (permN_mem n _ o (cut_len h (by omega))).2 ?_, rfl⟩⟩
        · rw [List.mem_zipIdx_iff_getElem?]
          simp [List.getElem?_eq_getElem hk, e]
        · have e2 : l = l.take k ++ t :: l.drop (k + 1) := by
            conv => lhs; rw [← List.take_append_drop k l]
            rw [List.drop_eq_getElem_cons hk, e]
          have mid : l.Perm (t :: (l.take k ++ l.drop (k + 1))) := by
            conv => lhs; rw [e2]
            exact List.perm_middle
          have := hp.trans mid
          exact this.cons_inv
theorem sl_fromL1 {ι : Type} {l : List ι} {f : ι → D} {k : Nat} : sliceD (.list (l.map f)) (some ((k : Int) + 1)) none = some (.list ((l.drop (k + 1)).map f)) := by
  rw [show (k : Int) + 1 = ((k + 1 : Nat) : Int) by omega]
  exact sl_fromL
def tupS (p : List Str) : D := .tuple (p.map .str)
theorem facN_le {n : Nat} (h : n ≤ 7) : facN n ≤ 5040 := by
  have : ∀ n, n < 8 → facN n ≤ 5040 := by decide
  exact this n (by omega)
theorem rows_g {B : Tb} (h : C29 B) : ∀ (n : Nat) (l : List Str), l.length ≤ 7 → l.length < n → (∀ x ∈ l, PyData.strOk x = true) → Gives (callF B n) 29 [.list (l.map .str)] (.list ((permN l.length l).map tupS)) := by
  intro n
  induction n with
  | zero => intro l _ h0; omega
  | succ n ih =>
    intro l h7 hn hs
    have sh : Ev (callF B n) (.cmp .Eq (.var 0) (.lst [])) (envI false (5 - 1) [.list (l.map .str)]) (.bool (l.map PyData.str).isEmpty) := ev_cmp (ev_var rfl) (ev_lst evs_nil (by decide)) (cmp_nilL (shaped_strs (f := fun x => x) hs))
    cases l with
    | nil => exact gives_er1 h.own rfl (er_ifT sh rfl (ev_lst (evs_cons (ev_tup evs_nil (by decide)) evs_nil rfl) (by decide))) rfl
    | cons a l' =>
      generalize hl : a :: l' = l at *
      have hlen : l.length = l'.length + 1 := by rw [← hl]; rfl
      have hf : (l.map PyData.str).isEmpty = false := by rw [← hl]; rfl
      rw [hf] at sh
      refine gives_er1 h.own rfl (er_ifF sh rfl (er_asg (ev_lst evs_nil (by decide)) (er_loopI (l := l.zipIdx) (inj := fun p => .tuple [.int (p.2 : Int), .str p.1]) (fun (acc : List (List Str)) k ρ => acc.length ≤ k * facN l'.length ∧ ∃ v2 v3 v4, ρ = [some (.dat (.list (l.map .str))), some (.dat (.list (acc.map tupS))), v2, v3, v4]) (fun acc p => acc ++ (permN l'.length (l.take p.2 ++ l.drop (p.2 + 1))).map fun o => p.1 :: o) [] (evs_cons (ev_var rfl) evs_nil rfl) wd_elm ⟨by simp, _, _, _, rfl⟩ ?_ (o := .rt (.list ((permN l.length l).map tupS))) ?_))) rfl
      · rintro p hp acc k ρ hk ⟨h1, v2, v3, v4, rfl⟩
        rw [List.length_zipIdx] at hk
        have hp2 := zipIdx_lt hp
        have cl := cut_len hlen (by omega : p.2 < l'.length + 1)
        have pl := permN_len l'.length _ cl
        have ff := facN_le (n := l'.length) (by omega)
        have call := ih (l.take p.2 ++ l.drop (p.2 + 1)) (by omega) (by omega) fun x hx => hs x ((List.mem_append.1 hx).elim List.mem_of_mem_take List.mem_of_mem_drop)
        rw [cl] at call
        have kb : k * facN l'.length ≤ 7 * 5040 := Nat.mul_le_mul (by omega) ff
        refine ⟨_, rfl, _, ⟨?_, _, _, _, rfl⟩, .inl (er_asg (Ev.cast (ev_addL (ev_var rfl) (ev_comp (l := permN l'.length (l.take p.2 ++ l.drop (p.2 + 1))) (inj := tupS) (g := fun o => tupS (p.1 :: o)) (evs_cons (ev_call (evs_cons (Ev.cast (ev_addL (ev_sliceTo (ev_var rfl) (ev_var rfl) sl_toL rfl) (ev_sliceFrom (ev_var rfl) (ev_add (ev_var rfl) ev_int) sl_fromL1 rfl) ?_) ?_) evs_nil rfl) call) evs_nil rfl) (wc wd_lm (by omega)) fun o ho => ⟨_, rfl, Ev.cast (ev_addT (ev_tup (evs_cons (ev_var rfl) evs_nil rfl) (by simp)) (ev_var rfl) ?_) ?_⟩) ?_) ?_) er_nil)⟩
        · rw [List.length_append, List.length_map, Nat.add_mul]; omega
        · rw [List.length_map, List.length_map, List.length_take, List.length_drop]; omega
        · rw [List.map_append]
        · have := ((permN_mem _ _ o cl).1 ho).length_eq
          simp only [List.length_map, List.length_singleton]; omega
        · rfl
        · rw [List.length_map, List.length_map]; omega
        · rw [List.map_append, List.map_map]; rfl
      · rintro ρ ⟨h1, v2, v3, v4, rfl⟩
        refine er_ret (Ev.cast (ev_var rfl) ?_)
        rw [hlen]
        rfl
end KN

set_option maxRecDepth 100000
set_option maxHeartbeats 4000000
namespace KN
open PySem L2 PyProof.Rows
/-! ### all sub-rows -/
def subsN (l : List Str) : List (List Str) := l.foldl (fun acc t => acc ++ acc.map fun o => o ++ [t]) [[]]
theorem subs_snoc (l : List Str) (t : Str) : subsN (l ++ [t]) = subsN l ++ (subsN l).map fun o => o ++ [t] := by
  unfold subsN
  rw [List.foldl_append]
  rfl
theorem snoc_ind {P : List Str → Prop} (h0 : P []) (h1 : ∀ l t, P l → P (l ++ [t])) (l : List Str) : P l := by
  have : ∀ n (l : List Str), l.length = n → P l := by
    intro n
    induction n with
    | zero => intro l h; rw [List.eq_nil_of_length_eq_zero h]; exact h0
    | succ n ih =>
      intro l h
      have hne : l ≠ [] := fun z => by rw [z] at h; cases h
      rw [← List.dropLast_concat_getLast hne]
      exact h1 _ _ (ih _ (by rw [List.length_dropLast, h]; rfl))
  exact this _ l rfl
theorem subs_mem (l : List Str) : ∀ s, s ∈ subsN l ↔ s.Sublist l := by
  induction l using snoc_ind with
  | h0 => intro s; simp [subsN]
  | h1 l t ih =>
    intro s
    rw [subs_snoc, List.mem_append, ih, List.mem_map]
    constructor
    · rintro (h | ⟨o, ho, rfl⟩)
      · exact h.trans (List.sublist_append_left _ _)
      · exact ((ih o).1 ho).append (List.Sublist.refl _)
    · intro h
      rw [List.sublist_append_iff] at h
      obtain ⟨a, b, rfl, ha, hb⟩ := h
      cases hb with
      | cons _ hb => cases hb; exact .inl (by simpa using ha)
      | cons_cons _ hb => cases hb; exact .inr ⟨a, (ih a).2 ha, rfl⟩
theorem subs_len (l : List Str) : (subsN l).length = 2 ^ l.length := by
  induction l using snoc_ind with
  | h0 => rfl
  | h1 l t ih => rw [subs_snoc, List.length_append, List.length_map, ih, List.length_append, List.length_singleton, Nat.pow_succ]; omega
theorem perm_map_inv {α β : Type} {f : α → β} : ∀ {m : List β} {l : List α}, m.Perm (l.map f) → ∃ l' : List α, l'.Perm l ∧ m = l'.map f := by
  intro m l h
  generalize hk : l.map f = k at h
  induction h generalizing l with
  | nil =>
    have : l = [] := by simpa using hk
    subst this
    exact ⟨[], .nil, rfl⟩
  | cons x _ ih =>
    cases l with
    | nil => cases hk
    | cons a l =>
      simp only [List.map_cons, List.cons.injEq] at hk
      obtain ⟨l', h1, h2⟩ := ih hk.2
      exact ⟨a :: l', h1.cons a, by rw [List.map_cons, hk.1, h2]⟩
  | swap x y k =>
    cases l with
    | nil => cases hk
    | cons a l =>
      cases l with
      | nil => cases hk
      | cons b l =>
        simp only [List.map_cons, List.cons.injEq] at hk
        exact ⟨b :: a :: l, .swap a b l, by simp [hk]⟩
  | trans _ _ ih1 ih2 =>
    obtain ⟨l1, h1, h2⟩ := ih2 hk
    obtain ⟨l2, h3, h4⟩ := ih1 h2.symm
    exact ⟨l2, h3.trans h1, h4⟩
theorem alike_tupS (p q : List Str) : PySem.W.alike (tupS p) (tupS q) = true := by
  unfold tupS
  simp only [PySem.W.alike]
  induction p generalizing q with
  | nil => simp [PySem.W.alikeAll]
  | cons a p ih =>
    cases q with
    | nil => simp [PySem.W.alikeAll]
    | cons b q => simp only [List.map_cons, PySem.W.alikeAll, PySem.W.alike, Bool.true_and]; exact ih q
theorem lay_tupS {p : List Str} (h : ∀ x ∈ p, PyData.strOk x = true) : (tupS p).canLay0 = true := by
  unfold tupS
  simp only [PyData.canLay0]
  exact lay_strs h
theorem depth_tupS {p : List Str} : (tupS p).depth ≤ 1 := by
  unfold tupS
  simp only [PyData.depth]
  have : PyData.depthAll (p.map PyData.str) ≤ 0 := depth_all fun x hx => by
    obtain ⟨a, _, rfl⟩ := List.mem_map.1 hx
    simp [PyData.depth]
  omega
/-- sorted rows of names -/
theorem sorted_rows {l : List (List Str)} (hl : l.length ≤ 16777216) (hs : ∀ p ∈ l, ∀ x ∈ p, PyData.strOk x = true) : ∃ ys : List (List Str), ys.Perm l ∧ sortL (l.map tupS) = some (.list (ys.map tupS)) := by
  obtain ⟨ys, h1, h2⟩ := perm_map_inv (sortD_perm (l.map tupS))
  refine ⟨ys, h1, ?_⟩
  unfold sortL
  rw [if_pos, h2]
  simp only [Bool.and_eq_true]
  refine ⟨?_, ?_⟩
  · unfold allAlike
    rw [List.all_eq_true]
    intro x hx
    obtain ⟨a, ha, rfl⟩ := List.mem_map.1 hx
    simp only [Bool.and_eq_true, List.all_eq_true, decide_eq_true_eq]
    refine ⟨⟨rfl, lay_tupS (hs a ha), Nat.le_trans depth_tupS (by decide)⟩, fun y hy => ?_⟩
    obtain ⟨b, _, rfl⟩ := List.mem_map.1 hy
    exact alike_tupS a b
  · unfold lineOk
    rw [List.length_map]
    exact decide_eq_true hl
theorem sets_g {B : Tb} {n : Nat} (h : C30 B) {l : List Str} (hl : l.length ≤ 12) (hs : ∀ x ∈ l, PyData.strOk x = true) : ∃ ys : List (List Str), ys.Perm (subsN l) ∧ Gives (callF B (n + 1)) 30 [.list (l.map .str)] (.list (ys.map tupS)) := by
  have h12 : 2 ^ l.length ≤ 2 ^ 12 := Nat.pow_le_pow_right (by decide) hl
  have sok : ∀ p ∈ subsN l, ∀ x ∈ p, PyData.strOk x = true := fun p hp x hx => hs x (((subs_mem l p).1 hp).subset hx)
  obtain ⟨ys, h1, h2⟩ := sorted_rows (l := subsN l) (by rw [subs_len]; omega) sok
  refine ⟨ys, h1, ?_⟩
  refine gives_er h.own (er_asg (ev_lst (evs_cons (ev_tup evs_nil (by decide)) evs_nil rfl) (by decide)) (er_loopI (l := l) (inj := .str) (fun (acc : List (List Str)) k ρ => acc.length ≤ 2 ^ k ∧ (∀ p ∈ acc, p.length ≤ k) ∧ ∃ v2 v3, ρ = [some (.dat (.list (l.map .str))), some (.dat (.list (acc.map tupS))), v2, v3]) (fun acc t => acc ++ acc.map fun o => o ++ [t]) [[]] (evs_cons (ev_var rfl) evs_nil rfl) wd_lm ⟨by simp, by simp, _, _, rfl⟩ ?_ ?_))
  · rintro t ht acc k ρ hk ⟨h3, h4, v2, v3, rfl⟩
    have kb : 2 ^ k ≤ 2 ^ 12 := Nat.pow_le_pow_right (by decide) (by omega)
    refine ⟨_, rfl, _, ⟨?_, ?_, _, _, rfl⟩, .inl (er_asg (Ev.cast (ev_addL (ev_var rfl) (ev_comp (l := acc) (inj := tupS) (g := fun o => tupS (o ++ [t])) (evs_cons (ev_var rfl) evs_nil rfl) (wc wd_lm (by omega)) fun o ho => ⟨_, rfl, Ev.cast (ev_addT (ev_var rfl) (ev_tup (evs_cons (ev_var rfl) evs_nil rfl) (by simp)) ?_) ?_⟩) ?_) ?_) er_nil)⟩
    · rw [List.length_append, List.length_map, Nat.pow_succ]; omega
    · intro p hp
      rcases List.mem_append.1 hp with hp | hp
      · have := h4 p hp; omega
      · obtain ⟨o, ho, rfl⟩ := List.mem_map.1 hp
        have := h4 o ho
        rw [List.length_append, List.length_singleton]; omega
    · have := h4 o ho
      simp only [List.length_map, List.length_singleton]; omega
    · simp [tupS]
    · rw [List.length_map, List.length_map]; omega
    · rw [List.map_append, List.map_map]; rfl
  · rintro ρ ⟨h3, h4, v2, v3, rfl⟩
    exact er_ret (ev_bi1 (ev_var rfl) h2 rfl)
end KN

set_option maxRecDepth 100000
set_option maxHeartbeats 4000000
namespace KN
open PySem L2 PyProof.Rows
/-- two fors, a condition at the second -/
theorem ev_comp2If {C : Nat → List D → M D} {ρ : En} {ι κ : Type} {elt cond1 : E} {tg tg1 : Tg} {ik ik1 : IK} {src src1 : List E} {xs : List D} {l : List ι} {inj : ι → D} {m : ι → List κ} {inj1 : ι → κ → D} {k : ι → κ → Bool} {g : ι → κ → D}
    (hs : Evs C src ρ xs) (hw : walkC ik xs = some (l.map inj)) (hg : cond1.gone = false)
    (he : ∀ x ∈ l, ∃ ρ', setTg tg (inj x) (wipeE ρ (tg.slots ++ tg1.slots)) = some ρ' ∧ ∃ ys, Evs C src1 ρ' ys ∧ walkC ik1 ys = some ((m x).map (inj1 x)) ∧ ∀ y ∈ m x, ∃ ρ'', setTg tg1 (inj1 x y) (wipeE ρ' tg1.slots) = some ρ'' ∧ Ev C cond1 ρ'' (.bool (k x y)) ∧ (k x y = true → Ev C elt ρ'' (g x y)))
    (hl : (l.flatMap fun x => ((m x).filter (k x)).map (g x)).length ≤ 16777216) :
    Ev C (.comp2 elt tg ik src .absent tg1 ik1 src1 cond1) ρ (.list (l.flatMap fun x => ((m x).filter (k x)).map (g x))) := .mk fun τ => by
  show ((evEs C src ρ).bnd fun xs => (M.of (walkC ik xs)).bnd fun items =>
    (comp2L (fun d => (M.of (setTg tg d (wipeE ρ (tg.slots ++ tg1.slots)))).bnd fun ρ' => (if E.absent.gone then M.ret true else (evE C .absent ρ').bnd fun x => M.of (truD x)).bnd fun k => if k then
        (evEs C src1 ρ').bnd fun xs => (M.of (walkC ik1 xs)).bnd fun items =>
          compL (fun d => (M.of (setTg tg1 d (wipeE ρ' tg1.slots))).bnd fun ρ'' => (if cond1.gone then M.ret true else (evE C cond1 ρ'').bnd fun x => M.of (truD x)).bnd fun k => if k then (evE C elt ρ'').bnd fun y => M.ret (some y) else M.ret none) items
      else M.ret []) items).bnd fun ys => if lineOk ys.length then M.ret (PyData.list ys) else M.fail) τ = _
  rw [M.bnd_eq (hs.run τ), M.bnd_eq (M.of_eq hw)]
  generalize hF : (fun d => (M.of (setTg tg d (wipeE ρ (tg.slots ++ tg1.slots)))).bnd fun ρ' => (if E.absent.gone then M.ret true else (evE C .absent ρ').bnd fun x => M.of (truD x)).bnd fun k => if k then
        (evEs C src1 ρ').bnd fun xs => (M.of (walkC ik1 xs)).bnd fun items =>
          compL (fun d => (M.of (setTg tg1 d (wipeE ρ' tg1.slots))).bnd fun ρ'' => (if cond1.gone then M.ret true else (evE C cond1 ρ'').bnd fun x => M.of (truD x)).bnd fun k => if k then (evE C elt ρ'').bnd fun y => M.ret (some y) else M.ret none) items
      else M.ret []) = F
  have one : ∀ x ∈ l, F (inj x) τ = some (((m x).filter (k x)).map (g x), τ) := by
    intro x hx
    obtain ⟨ρ', h1, ys, h2, h3, h4⟩ := he x hx
    rw [← hF]
    refine (M.bnd_eq (M.of_eq h1)).trans ?_
    show ((evEs C src1 ρ').bnd fun xs => (M.of (walkC ik1 xs)).bnd fun items =>
          compL (fun d => (M.of (setTg tg1 d (wipeE ρ' tg1.slots))).bnd fun ρ'' => (if cond1.gone then M.ret true else (evE C cond1 ρ'').bnd fun x => M.of (truD x)).bnd fun k => if k then (evE C elt ρ'').bnd fun y => M.ret (some y) else M.ret none) items) τ = _
    rw [M.bnd_eq (h2.run τ), M.bnd_eq (M.of_eq h3)]
    refine compL_filter (g := g x) (k := k x) (m x) fun y hy => ?_
    obtain ⟨ρ'', q1, q2, q3⟩ := h4 y hy
    rw [M.bnd_eq (M.of_eq q1), hg]
    show ((evE C cond1 ρ'').bnd fun x => M.of (truD x)).bnd (fun k => if k then (evE C elt ρ'').bnd fun y => M.ret (some y) else M.ret none) τ = _
    rw [M.bnd_eq ((M.bnd_eq (q2.run τ)).trans (M.of_eq rfl))]
    cases hk : k x y with
    | true =>
      show ((evE C elt ρ'').bnd fun y => M.ret (some y)) τ = _
      rw [M.bnd_eq ((q3 hk).run τ)]
      rfl
    | false => rfl
  have all : ∀ l' : List ι, (∀ x ∈ l', x ∈ l) → comp2L F (l'.map inj) τ = some (l'.flatMap fun x => ((m x).filter (k x)).map (g x), τ) := by
    intro l'
    induction l' with
    | nil => intro _; rfl
    | cons x l' ih =>
      intro hm
      show ((F (inj x)).bnd fun x => (comp2L F (l'.map inj)).bnd fun r => M.ret (x ++ r)) τ = _
      rw [M.bnd_eq (one x (hm x List.mem_cons_self)), M.bnd_eq (ih fun y hy => hm y (List.mem_cons_of_mem _ hy))]
      rfl
  rw [M.bnd_eq (all l fun _ h => h)]
  show (if lineOk _ then M.ret (PyData.list _) else M.fail) τ = _
  rw [if_pos (by unfold lineOk; exact decide_eq_true hl)]
  rfl

/-! ### kept sets -/
def pairsS (f : Str → List Str) (s : List Str) : List D := s.flatMap fun a => ((f a).filter fun b => ltS a b && decide (b ∈ s)).map fun b => .tuple [.str a, .str b]
theorem flat_len {ι : Type} {f : ι → List D} {c : Nat} (l : List ι) (h : ∀ x ∈ l, (f x).length ≤ c) : (l.flatMap f).length ≤ l.length * c := by
  rw [List.length_flatMap]
  exact sum_le l h
theorem pairs_mem {f : Str → List Str} {s : List Str} {d : D} (h : d ∈ pairsS f s) : ∃ a b, d = .tuple [.str a, .str b] ∧ a ∈ s ∧ b ∈ s := by
  obtain ⟨a, ha, hd⟩ := List.mem_flatMap.1 h
  obtain ⟨b, hb, rfl⟩ := List.mem_map.1 hd
  have := (List.mem_filter.1 hb).2
  simp only [Bool.and_eq_true, decide_eq_true_eq] at this
  exact ⟨a, b, rfl, ha, this.2⟩
theorem minD_or : ∀ (xs : List D) (x : D), minD x xs = x ∨ minD x xs ∈ xs
  | [], x => .inl rfl
  | y :: r, x => by
    unfold minD
    rcases minD_or r (if PySem.W.dataLt y x then y else x) with h | h
    · rw [h]
      split
      · exact .inr List.mem_cons_self
      · exact .inl rfl
    · exact .inr (List.mem_cons_of_mem _ h)
theorem clash_g {B : Tb} {n : Nat} (h : C21 B) {rs : List (Str × Int)} {reach : Int} {s : List Str} (hl : rs.length ≤ 100) (hs : ∀ r ∈ rs, PyData.strOk r.1 = true) (hp : ∀ a ∈ s, a ∈ rs.map (·.1)) (hsl : s.length ≤ 100) :
    ∃ d, Gives (callF B (n + 1)) 21 [.dict (nearD rs reach), tupS s] d ∧ isNone d = (pairsS (nb rs reach) s).isEmpty := by
  have ok : ∀ a ∈ rs.map (·.1), PyData.strOk a = true := fun a ha => by obtain ⟨r, hr, rfl⟩ := List.mem_map.1 ha; exact hs r hr
  have oks : ∀ a ∈ s, PyData.strOk a = true := fun a ha => ok a (hp a ha)
  have len : (pairsS (nb rs reach) s).length ≤ 100 * 100 := by
    refine Nat.le_trans (flat_len (c := 100) s fun a ha => ?_) (Nat.mul_le_mul_right _ hsl)
    rw [List.length_map]
    exact Nat.le_trans (List.length_filter_le _ _) (Nat.le_trans nb_len hl)
  have ev1 : Ev (callF B n) (.comp2 (.tup [.var 3, .var 4]) (.nm 3) .ex [.var 1] .absent (.nm 4) .ex [.get (.var 0) (.var 3)] (.and (.cmp .Lt (.var 3) (.var 4)) (.cmp .In (.var 4) (.var 1)))) (envI false (5 - 2) [.dict (nearD rs reach), tupS s]) (.list (pairsS (nb rs reach) s)) :=
    ev_comp2If (l := s) (inj := .str) (m := fun a => nb rs reach a) (inj1 := fun _ => .str) (k := fun a b => ltS a b && decide (b ∈ s)) (g := fun a b => .tuple [.str a, .str b]) (evs_cons (ev_var rfl) evs_nil rfl) (wc wd_tm (by omega)) rfl
      (fun a ha => ⟨_, rfl, _, evs_cons (ev_get (ev_var rfl) (ev_var rfl) (get_near (hp a ha))) evs_nil rfl, wc wd_tm (Nat.le_trans nb_len (by omega)), fun b hb => ⟨_, rfl, ev_andB (ev_cmp (ev_var rfl) (ev_var rfl) (cmp_ltS (oks a ha) (ok _ (nb_mem hb)))) fun _ => ev_cmp (ev_var rfl) (ev_var rfl) (cmp_inT (ok _ (nb_mem hb)) oks), fun _ => ev_tup (evs_cons (ev_var rfl) (evs_cons (ev_var rfl) evs_nil rfl) rfl) (by simp)⟩⟩) (Nat.le_trans len (by decide))
  cases hP : pairsS (nb rs reach) s with
  | nil =>
    rw [hP] at ev1
    exact ⟨.none, gives_er1 h.own rfl (er_asg ev1 (er_ret (ev_iteB (p := false) (x := .none) (ev_cmp (ev_lenL (ev_var rfl) rfl) ev_int cmpD_gt) (fun z => nomatch z) fun _ => ev_non))) rfl, rfl⟩
  | cons x xs =>
    rw [hP] at ev1
    have mem : ∀ y ∈ x :: xs, ∃ a b, y = .tuple [.str a, .str b] ∧ a ∈ s ∧ b ∈ s := fun y hy => pairs_mem (f := nb rs reach) (by rw [hP]; exact hy)
    have al : (allAlike (x :: xs) && (x :: xs).all still) = true := by
      simp only [Bool.and_eq_true]
      refine ⟨?_, ?_⟩
      · unfold allAlike
        rw [List.all_eq_true]
        intro y hy
        obtain ⟨a, b, rfl, ha, hb⟩ := mem y hy
        simp only [Bool.and_eq_true, List.all_eq_true, decide_eq_true_eq]
        refine ⟨⟨rfl, by simp [PyData.canLay0, PyData.canLayAll0, oks a ha, oks b hb], by simp [PyData.depth, PyData.depthAll]⟩, fun z hz => ?_⟩
        obtain ⟨c, d, rfl, _, _⟩ := mem z hz
        simp [PySem.W.alike, PySem.W.alikeAll]
      · rw [List.all_eq_true]
        intro y hy
        obtain ⟨a, b, rfl, _, _⟩ := mem y hy
        rfl
    have mn : biD .min [.list (x :: xs)] = some (minD x xs) := if_pos al
    refine ⟨minD x xs, gives_er1 h.own rfl (er_asg ev1 (er_ret (ev_iteB (p := decide ((0 : Int) < ((x :: xs).length : Int))) (y := .none) (ev_cmp (ev_lenL (ev_var rfl) rfl) ev_int cmpD_gt) (fun _ => ev_bi1 (ev_var rfl) mn rfl) fun z => ?_))) ?_, ?_⟩
    · exact absurd (of_decide_eq_false z) (by simp only [List.length_cons]; omega)
    · rw [if_pos (decide_eq_true (by simp only [List.length_cons]; omega))]
    · rcases minD_or xs x with e | e
      · rw [e]
        obtain ⟨a, b, rfl, _, _⟩ := mem x List.mem_cons_self
        rfl
      · obtain ⟨a, b, e2, _, _⟩ := mem _ (List.mem_cons_of_mem _ e)
        rw [e2]
        rfl
end KN

set_option maxRecDepth 100000
set_option maxHeartbeats 4000000
namespace KN
open PySem L2 PyProof.Rows
theorem wd_near {rs : List (Str × Int)} {reach : Int} : walkD .ex [.dict (nearD rs reach)] = some (rs.map fun r => .str r.1) := by
  show some ((nearD rs reach).map (·.1)) = _
  unfold nearD
  rw [List.map_map]
  rfl
/-- the names that are neither in s nor near one of s -/
def uncS (rs : List (Str × Int)) (reach : Int) (s : List Str) : List (Str × Int) := rs.filter fun r => (!decide (r.1 ∈ s)) && !((nb rs reach r.1).any fun o => decide (o ∈ s))
theorem unc_g {B : Tb} {n : Nat} (h : C22 B) {rs : List (Str × Int)} {reach : Int} {s : List Str} (hl : rs.length ≤ 100) (hs : ∀ r ∈ rs, PyData.strOk r.1 = true) (hp : ∀ a ∈ s, a ∈ rs.map (·.1)) :
    Gives (callF B (n + 1)) 22 [.dict (nearD rs reach), tupS s] (.tuple ((uncS rs reach s).map fun r => .str r.1)) := by
  have ok : ∀ a ∈ rs.map (·.1), PyData.strOk a = true := fun a ha => by obtain ⟨r, hr, rfl⟩ := List.mem_map.1 ha; exact hs r hr
  have oks : ∀ a ∈ s, PyData.strOk a = true := fun a ha => ok a (hp a ha)
  refine gives_er h.own (er_ret (ev_tupleL (ev_compIf (l := rs) (inj := fun r => .str r.1) (k := fun r => (!decide (r.1 ∈ s)) && !((nb rs reach r.1).any fun o => decide (o ∈ s))) (g := fun r => .str r.1) (evs_cons (ev_var rfl) evs_nil rfl) (wc wd_near (by omega)) rfl fun r hr => ⟨_, rfl, ev_andB (ev_cmp (ev_var rfl) (ev_var rfl) (cmp_ninT (hs r hr) oks)) fun _ => ev_notB (ev_bi1 (ev_comp (l := nb rs reach r.1) (inj := .str) (g := fun o => .bool (decide (o ∈ s))) (evs_cons (ev_get (ev_var rfl) (ev_var rfl) (get_near (List.mem_map_of_mem hr))) evs_nil rfl) (wc wd_tm (Nat.le_trans nb_len (by omega))) fun o ho => ⟨_, rfl, ev_cmp (ev_var rfl) (ev_var rfl) (cmp_inT (ok _ (nb_mem ho)) oks)⟩) any_bools rfl), fun _ => ev_var rfl⟩) rfl))
/-- s can be kept -/
def canB (rs : List (Str × Int)) (reach : Int) (s : List Str) : Bool := (pairsS (nb rs reach) s).isEmpty && (uncS rs reach s).isEmpty
theorem can_g {B : Tb} {n : Nat} (h : C23 B) {rs : List (Str × Int)} {reach : Int} {s : List Str} (hl : rs.length ≤ 100) (hs : ∀ r ∈ rs, PyData.strOk r.1 = true) (hp : ∀ a ∈ s, a ∈ rs.map (·.1)) (hsl : s.length ≤ 100) :
    Gives (callF B (n + 2)) 23 [.dict (nearD rs reach), tupS s] (.bool (canB rs reach s)) := by
  obtain ⟨d, g, e⟩ := clash_g (n := n) h.c21 (reach := reach) hl hs hp hsl
  refine gives_er1 h.own rfl (er_ret (ev_andB (ev_is (ev_call (evs_cons (ev_var rfl) (evs_cons (ev_var rfl) evs_nil rfl) rfl) g)) fun _ => ev_cmp (ev_lenT (ev_call (evs_cons (ev_var rfl) (evs_cons (ev_var rfl) evs_nil rfl) rfl) (unc_g (n := n) h.c22 (reach := reach) hl hs hp)) rfl) ev_int cmpD_eqI)) ?_
  rw [e, List.length_map]
  unfold canB
  congr 2
  cases uncS rs reach s with
  | nil => rfl
  | cons x r =>
    rw [decide_eq_false (by simp only [List.length_cons]; omega)]
    rfl
theorem nameset_g {B : Tb} {n : Nat} (h : C19 B) {s : List Str} (hs : ∀ a ∈ s, isNameS a = true) (hl : s.length ≤ 100) : Gives (callF B (n + 2)) 19 [tupS s] (.bool (upS s)) := by
  have ok : ∀ a ∈ s, okD (.str a) = true := fun a ha => by
    have h1 := hs a ha
    have h2 := name_ok h1
    simp only [isNameS, Bool.and_eq_true, decide_eq_true_eq] at h1
    simp only [okD, h2, Bool.true_and, decide_eq_true_eq]
    omega
  have rt : Gives (callF B (n + 1)) 3 [tupS s] (.bool (upS s)) := by
    refine gives_er1 h.c3.own rfl (er_ret (ev_bi1 (ev_comp (l := s.zip (s.drop 1)) (inj := fun p => .tuple [.str p.1, .str p.2]) (g := fun p => .bool (ltS p.1 p.2)) (evs_cons (ev_var rfl) (evs_cons (ev_sliceFrom (ev_var rfl) ev_int sl_1T rfl) evs_nil rfl) rfl) (wc wd_ztm (by rw [List.length_zip]; omega)) fun p hp => ⟨_, rfl, ev_cmp (ev_var rfl) (ev_var rfl) (cmp_ltS (name_ok (hs _ (List.of_mem_zip hp).1)) (name_ok (hs _ (List.mem_of_mem_drop (List.of_mem_zip hp).2))))⟩) all_bools rfl)) rfl
  refine gives_er1 h.own rfl (er_ret (ev_andB (ev_isi (ev_var rfl) isi_tuple_tuple) fun _ => ev_andB (ev_bi1 (ev_comp (l := s) (inj := .str) (g := fun a => .bool (isNameS a)) (evs_cons (ev_var rfl) evs_nil rfl) (wc wd_tm (by omega)) fun a ha => ⟨_, rfl, ev_call (evs_cons (ev_var rfl) evs_nil rfl) (name_g h.c2 (.str a) (ok a ha))⟩) all_bools rfl) fun _ => ev_call (evs_cons (ev_var rfl) evs_nil rfl) rt)) ?_
  rw [List.all_eq_true.2 hs]
  rfl
theorem cmp_inD {rs : List (Str × Int)} {reach : Int} {a : Str} (h : a ∈ rs.map (·.1)) : cmpD .In (.str a) (.dict (nearD rs reach)) = some (.bool true) := by
  show some (PyData.bool (hasK (nearD rs reach) (.str a))) = _
  unfold hasK nearD
  rw [look_rows]
  obtain ⟨r, _, _, e⟩ := row_at h
  rw [e]
  rfl
theorem kept_g {B : Tb} {n : Nat} (h : C24 B) {rs : List (Str × Int)} {reach : Int} {s : List Str} {d : D} (hd : Rws d rs) (hl : rs.length ≤ 100) (hn : (rs.map (·.1)).Nodup) (hs : ∀ r ∈ rs, isNameS r.1 = true) (hp : ∀ a ∈ s, a ∈ rs.map (·.1)) (hu : upS s = true) (hsl : s.length ≤ 100) :
    Gives (callF B (n + 5)) 24 [d, .int reach, tupS s] (.bool (canB rs reach s)) := by
  have hs' : ∀ r ∈ rs, PyData.strOk r.1 = true := fun r hr => name_ok (hs r hr)
  have oks : ∀ r ∈ rs, okD (.str r.1) = true := fun r hr => by
    have h1 := hs r hr
    have h2 := name_ok h1
    simp only [isNameS, Bool.and_eq_true, decide_eq_true_eq] at h1
    simp only [okD, h2, Bool.true_and, decide_eq_true_eq]
    omega
  have ns : ∀ a ∈ s, isNameS a = true := fun a ha => by obtain ⟨r, hr, rfl⟩ := List.mem_map.1 (hp a ha); exact hs r hr
  refine gives_er h.own (er_asg (ev_call (evs_cons (ev_var rfl) (evs_cons (ev_var rfl) evs_nil rfl) rfl) (near_g (n := n) h.c20 (reach := reach) (by omega) hn oks hd)) (er_ifF (ev_orB (ev_notB (ev_call (evs_cons (ev_var rfl) evs_nil rfl) (nameset_g (n := n + 2) h.c19 ns hsl))) fun _ => ev_notB (ev_bi1 (ev_comp (l := s) (inj := .str) (g := fun _ => .bool true) (evs_cons (ev_var rfl) evs_nil rfl) (wc wd_tm (by omega)) fun a ha => ⟨_, rfl, ev_cmp (ev_var rfl) (ev_var rfl) (cmp_inD (hp a ha))⟩) (all_bools (p := fun _ => true)) rfl)) ?_ (er_ret (ev_call (evs_cons (ev_var rfl) (evs_cons (ev_var rfl) evs_nil rfl) rfl) (can_g (n := n + 2) h.c23 (reach := reach) hl hs' hp hsl)))))
  rw [hu]
  simp
end KN

set_option maxRecDepth 100000
set_option maxHeartbeats 4000000
namespace KN
open PySem L2 PyProof.Rows
theorem far_neg (i reach : Int) : farB (-i) reach = farB i reach := by
  unfold farB
  have : (if -i < 0 then - -i else -i) = (if i < 0 then -i else i) := by split <;> split <;> omega
  rw [this]
theorem nodup_inj {rs : List (Str × Int)} (hn : (rs.map (·.1)).Nodup) {r q : Str × Int} (hr : r ∈ rs) (hq : q ∈ rs) (e : r.1 = q.1) : r = q := by
  induction rs with
  | nil => cases hr
  | cons x rs ih =>
    simp only [List.map_cons, List.nodup_cons] at hn
    rcases List.mem_cons.1 hr with h1 | h1
    · rcases List.mem_cons.1 hq with h2 | h2
      · rw [h1, h2]
      · exact absurd (List.mem_map.2 ⟨q, h2, by rw [← e, h1]⟩) hn.1
    · rcases List.mem_cons.1 hq with h2 | h2
      · exact absurd (List.mem_map.2 ⟨r, h1, by rw [e, h2]⟩) hn.1
      · exact ih hn.2 h1 h2
theorem nb_iff {rs : List (Str × Int)} {reach : Int} (hn : (rs.map (·.1)).Nodup) {r : Str × Int} (hr : r ∈ rs) {b : Str} : b ∈ nb rs reach r.1 ↔ ∃ q ∈ rs, q.1 = b ∧ b ≠ r.1 ∧ farB (q.2 - r.2) reach = true := by
  obtain ⟨r', h1, h2, e⟩ := row_at (List.mem_map_of_mem (f := fun r : Str × Int => r.1) hr)
  have := nodup_inj hn h1 hr h2
  subst this
  unfold nb
  rw [e]
  constructor
  · intro h
    obtain ⟨q, hq, rfl⟩ := List.mem_map.1 h
    obtain ⟨q1, q2⟩ := List.mem_filter.1 hq
    simp only [Bool.and_eq_true, Bool.not_eq_true', decide_eq_false_iff_not] at q2
    exact ⟨q, q1, rfl, q2.1, q2.2⟩
  · rintro ⟨q, hq, rfl, h3, h4⟩
    refine List.mem_map.2 ⟨q, List.mem_filter.2 ⟨hq, ?_⟩, rfl⟩
    simp only [Bool.and_eq_true, Bool.not_eq_true', decide_eq_false_iff_not]
    exact ⟨h3, h4⟩
theorem nb_sym {rs : List (Str × Int)} {reach : Int} (hn : (rs.map (·.1)).Nodup) {a b : Str} (ha : a ∈ rs.map (·.1)) (h : b ∈ nb rs reach a) : a ∈ nb rs reach b := by
  obtain ⟨r, hr, rfl⟩ := List.mem_map.1 ha
  obtain ⟨q, hq, rfl, h1, h2⟩ := (nb_iff hn hr).1 h
  refine (nb_iff hn hq).2 ⟨r, hr, rfl, fun z => h1 z.symm, ?_⟩
  rw [show r.2 - q.2 = -(q.2 - r.2) by omega, far_neg]
  exact h2
theorem nb_irr {rs : List (Str × Int)} {reach : Int} (hn : (rs.map (·.1)).Nodup) {a : Str} (ha : a ∈ rs.map (·.1)) : a ∉ nb rs reach a := by
  obtain ⟨r, hr, rfl⟩ := List.mem_map.1 ha
  intro h
  obtain ⟨q, hq, e, h1, _⟩ := (nb_iff hn hr).1 h
  exact h1 rfl
/-! ### greedy rows -/
theorem greedy_snoc (f : Str → List Str) (p : List Str) (t : Str) : greedy f (p ++ [t]) = grow f (greedy f p) t := by
  unfold greedy
  rw [List.foldl_append]
  rfl
theorem grow_if (f : Str → List Str) (acc : List Str) (t : Str) : grow f acc t = if (∀ o ∈ acc, o ∉ f t) then acc ++ [t] else acc := by
  unfold grow
  have : ((acc.filter fun o => decide (o ∈ f t)).isEmpty = true) = (∀ o ∈ acc, o ∉ f t) := by
    rw [List.isEmpty_iff, List.filter_eq_nil_iff]
    simp
  simp only [this]
theorem greedy_sub (f : Str → List Str) (p : List Str) : ∀ x ∈ greedy f p, x ∈ p := by
  induction p using snoc_ind with
  | h0 => intro x hx; cases hx
  | h1 p t ih =>
    intro x hx
    rw [greedy_snoc, grow_if] at hx
    split at hx
    · rcases List.mem_append.1 hx with hx | hx
      · exact List.mem_append_left _ (ih x hx)
      · exact List.mem_append_right _ hx
    · exact List.mem_append_left _ (ih x hx)
theorem greedy_ind {f : Str → List Str} {V : List Str} (sym : ∀ a ∈ V, ∀ b, b ∈ f a → a ∈ f b) (irr : ∀ a ∈ V, a ∉ f a) (p : List Str) (hp : ∀ x ∈ p, x ∈ V) : ∀ x ∈ greedy f p, ∀ y ∈ greedy f p, x ∉ f y := by
  induction p using snoc_ind with
  | h0 => intro x hx; cases hx
  | h1 p t ih =>
    have ih := ih fun x hx => hp x (List.mem_append_left _ hx)
    rw [greedy_snoc, grow_if]
    split
    · rename_i h
      have tV := hp t (List.mem_append_right _ List.mem_cons_self)
      intro x hx y hy
      rcases List.mem_append.1 hx with hx | hx
      · rcases List.mem_append.1 hy with hy | hy
        · exact ih x hx y hy
        · rw [List.mem_singleton] at hy; rw [hy]; exact h x hx
      · rw [List.mem_singleton] at hx
        rw [hx]
        rcases List.mem_append.1 hy with hy | hy
        · intro z
          exact h y hy (sym y (hp y (List.mem_append_left _ (greedy_sub f p y hy))) t z)
        · rw [List.mem_singleton] at hy; rw [hy]; exact irr t tV
    · exact ih
theorem greedy_max (f : Str → List Str) (p : List Str) : ∀ t ∈ p, t ∈ greedy f p ∨ ∃ o ∈ greedy f p, o ∈ f t := by
  induction p using snoc_ind with
  | h0 => intro t ht; cases ht
  | h1 p t ih =>
    intro u hu
    rw [greedy_snoc, grow_if]
    rcases List.mem_append.1 hu with hu | hu
    · rcases ih u hu with h | ⟨o, ho, h⟩
      · left
        split
        · exact List.mem_append_left _ h
        · exact h
      · right
        split
        · exact ⟨o, List.mem_append_left _ ho, h⟩
        · exact ⟨o, ho, h⟩
    · rw [List.mem_singleton] at hu
      subst hu
      split
      · exact .inl (List.mem_append_right _ List.mem_cons_self)
      · rename_i h
        right
        obtain ⟨o, h⟩ := Classical.not_forall.1 h
        obtain ⟨ho, h⟩ := Classical.not_imp.1 h
        exact ⟨o, ho, Classical.not_not.1 h⟩
theorem greedy_self {f : Str → List Str} (s : List Str) (hi : ∀ x ∈ s, ∀ y ∈ s, x ∉ f y) : greedy f s = s := by
  induction s using snoc_ind with
  | h0 => rfl
  | h1 s t ih =>
    rw [greedy_snoc, ih fun x hx y hy => hi x (List.mem_append_left _ hx) y (List.mem_append_left _ hy), grow_if, if_pos]
    exact fun o ho => hi o (List.mem_append_left _ ho) t (List.mem_append_right _ List.mem_cons_self)
theorem greedy_rest {f : Str → List Str} (s r : List Str) (hi : ∀ x ∈ s, ∀ y ∈ s, x ∉ f y) (hr : ∀ t ∈ r, ∃ o ∈ s, o ∈ f t) : greedy f (s ++ r) = s := by
  induction r using snoc_ind with
  | h0 => rw [List.append_nil]; exact greedy_self s hi
  | h1 r t ih =>
    rw [← List.append_assoc, greedy_snoc, ih fun t ht => hr t (List.mem_append_left _ ht), grow_if, if_neg]
    intro z
    obtain ⟨o, ho, h⟩ := hr t (List.mem_append_right _ List.mem_cons_self)
    exact z o ho h

theorem ltS_or {a b : Str} (h : a ≠ b) : ltS a b = true ∨ ltS b a = true := by
  unfold ltS
  by_cases h1 : a.cps.toList < b.cps.toList
  · exact .inl (decide_eq_true h1)
  · by_cases h2 : b.cps.toList < a.cps.toList
    · exact .inr (decide_eq_true h2)
    · exact absurd (str_ext (List.le_antisymm (List.not_lt.1 h2) (List.not_lt.1 h1))) h
theorem can_iff {rs : List (Str × Int)} {reach : Int} {s : List Str} (hn : (rs.map (·.1)).Nodup) (hp : ∀ a ∈ s, a ∈ rs.map (·.1)) :
    canB rs reach s = true ↔ (∀ x ∈ s, ∀ y ∈ s, x ∉ nb rs reach y) ∧ ∀ t ∈ rs.map (·.1), t ∈ s ∨ ∃ o ∈ s, o ∈ nb rs reach t := by
  unfold canB
  rw [Bool.and_eq_true, List.isEmpty_iff, List.isEmpty_iff]
  refine and_congr ?_ ?_
  · unfold pairsS
    rw [List.flatMap_eq_nil_iff]
    constructor
    · intro h x hx y hy z
      have key : ∀ a ∈ s, ∀ b ∈ s, b ∈ nb rs reach a → ltS a b = true → False := fun a ha b hb h1 h2 => by
        have := h a ha
        rw [List.map_eq_nil_iff, List.filter_eq_nil_iff] at this
        exact this b h1 (by simp [h2, hb])
      have ne : x ≠ y := fun e => nb_irr hn (hp y hy) (e ▸ z)
      rcases ltS_or ne with h1 | h1
      · exact key x hx y hy (nb_sym hn (hp y hy) z) h1
      · exact key y hy x hx z h1
    · intro h a ha
      rw [List.map_eq_nil_iff, List.filter_eq_nil_iff]
      intro b hb z
      simp only [Bool.and_eq_true, decide_eq_true_eq] at z
      exact h b z.2 a ha hb
  · unfold uncS
    rw [List.filter_eq_nil_iff]
    constructor
    · intro h t ht
      obtain ⟨r, hr, rfl⟩ := List.mem_map.1 ht
      have := h r hr
      simp only [Bool.and_eq_true, Bool.not_eq_true', decide_eq_false_iff_not, List.any_eq_false, decide_eq_true_eq] at this
      by_cases h1 : r.1 ∈ s
      · exact .inl h1
      · right
        have h2 : ¬ ∀ x ∈ nb rs reach r.1, x ∉ s := fun z => this ⟨h1, z⟩
        obtain ⟨o, h3⟩ := Classical.not_forall.1 h2
        obtain ⟨ho, h4⟩ := Classical.not_imp.1 h3
        exact ⟨o, Classical.not_not.1 h4, ho⟩
    · intro h r hr z
      simp only [Bool.and_eq_true, Bool.not_eq_true', decide_eq_false_iff_not, List.any_eq_false, decide_eq_true_eq] at z
      rcases h r.1 (List.mem_map_of_mem hr) with h1 | ⟨o, ho, h1⟩
      · exact z.1 h1
      · exact z.2 o h1 ho
theorem upS_nodup {l : List Str} (h : upS l = true) : l.Nodup := ((upS_pw l).1 h).imp fun {a b} h z => by subst z; exact List.lt_irrefl _ h
theorem upS_sub {l s : List Str} (h : upS l = true) (hs : s.Sublist l) : upS s = true := (upS_pw s).2 (((upS_pw l).1 h).sublist hs)
/-- what some order keeps -/
theorem kept_iff {rs : List (Str × Int)} {reach : Int} {s : List Str} (hu : upS (rs.map (·.1)) = true) (hs : s.Sublist (rs.map (·.1))) :
    canB rs reach s = true ↔ ∃ p, p.Perm (rs.map (·.1)) ∧ sortS (greedy (nb rs reach) p) = s := by
  have hn := upS_nodup hu
  have hp : ∀ a ∈ s, a ∈ rs.map (·.1) := fun a ha => hs.subset ha
  rw [can_iff hn hp]
  constructor
  · rintro ⟨h1, h2⟩
    have su := upS_sub hu hs
    refine ⟨s ++ (rs.map (·.1)).filter fun t => !decide (t ∈ s), ?_, ?_⟩
    · refine nodup_perm ?_ hn fun x => ?_
      · refine List.nodup_append.2 ⟨upS_nodup su, hn.sublist List.filter_sublist, fun a ha b hb e => ?_⟩
        subst e
        have := (List.mem_filter.1 hb).2
        simp [ha] at this
      · rw [List.mem_append, List.mem_filter]
        constructor
        · rintro (h | h)
          · exact hp x h
          · exact h.1
        · intro h
          by_cases hx : x ∈ s
          · exact .inl hx
          · exact .inr ⟨h, by simp [hx]⟩
    · rw [greedy_rest s _ h1 fun t ht => ?_]
      · exact sortS_id su (.refl _)
      · obtain ⟨t1, t2⟩ := List.mem_filter.1 ht
        rcases h2 t t1 with h | h
        · simp [h] at t2
        · exact h
  · rintro ⟨p, pp, rfl⟩
    have mem : ∀ x, x ∈ sortS (greedy (nb rs reach) p) ↔ x ∈ greedy (nb rs reach) p := fun x => (sortS_perm _).mem_iff
    have gi := greedy_ind (f := nb rs reach) (V := rs.map (·.1)) (fun a ha b hb => nb_sym hn ha hb) (fun a ha => nb_irr hn ha) p fun x hx => pp.mem_iff.1 hx
    refine ⟨fun x hx y hy => gi x ((mem x).1 hx) y ((mem y).1 hy), fun t ht => ?_⟩
    rcases greedy_max (nb rs reach) p t (pp.mem_iff.2 ht) with h | ⟨o, ho, h⟩
    · exact .inl ((mem t).2 h)
    · exact .inr ⟨o, (mem o).2 ho, h⟩
end KN

set_option maxRecDepth 100000
set_option maxHeartbeats 4000000
namespace KN
open PySem L2 PyProof.Rows
/-! ### rows by their numbers -/
def pD (r : Str × Int) : D := .tuple [.int r.2, .str r.1]
/-- w: the rows by their numbers, as sorted puts them -/
structure Way (rs w : List (Str × Int)) : Prop where
  perm : w.Perm rs
  srt : sortL (rs.map pD) = some (.list (w.map pD))
  up : w.Pairwise fun a b => a.2 ≤ b.2
theorem lay_pD {r : Str × Int} (h : PyData.strOk r.1 = true) : (pD r).canLay0 = true := by simp [pD, PyData.canLay0, PyData.canLayAll0, h]
theorem depth_pD {r : Str × Int} : (pD r).depth ≤ 1 := by simp [pD, PyData.depth, PyData.depthAll]
theorem alike_pD (a b : Str × Int) : PySem.W.alike (pD a) (pD b) = true := by simp [pD, PySem.W.alike, PySem.W.alikeAll]
theorem nlt_pD {a b : Str × Int} (h : nlt (pD a) (pD b)) : a.2 ≤ b.2 := by
  unfold nlt pD at h
  rw [PySem.W.dataLt_pair rfl rfl] at h
  by_cases e : b.2 < a.2
  · exfalso
    rw [if_neg, PySem.W.dataLt_int, decide_eq_true e] at h
    · cases h
    · simp only [PyData.eqv, beq_iff_eq]
      omega
  · omega
theorem way_ex {rs : List (Str × Int)} (hl : rs.length ≤ 4096) (hs : ∀ r ∈ rs, PyData.strOk r.1 = true) : ∃ w, Way rs w := by
  obtain ⟨w, h1, h2⟩ := perm_map_inv (sortD_perm (rs.map pD))
  refine ⟨w, h1, ?_, ?_⟩
  · unfold sortL
    rw [if_pos, h2]
    simp only [Bool.and_eq_true]
    refine ⟨?_, ?_⟩
    · unfold allAlike
      rw [List.all_eq_true]
      intro x hx
      obtain ⟨a, ha, rfl⟩ := List.mem_map.1 hx
      simp only [Bool.and_eq_true, List.all_eq_true, decide_eq_true_eq]
      refine ⟨⟨rfl, lay_pD (hs a ha), Nat.le_trans depth_pD (by decide)⟩, fun y hy => ?_⟩
      obtain ⟨b, _, rfl⟩ := List.mem_map.1 hy
      exact alike_pD a b
    · unfold lineOk
      rw [List.length_map]
      exact decide_eq_true (by omega)
  · have := sortD_sorted (rs.map pD)
    rw [h2] at this
    exact (List.pairwise_map.1 this).imp fun h => nlt_pD h
theorem bynum_g {B : Tb} {n : Nat} (h : C54 B) {rs w : List (Str × Int)} (hw : Way rs w) (hl : rs.length ≤ 4096) (hs : ∀ r ∈ rs, okD (.str r.1) = true) {d : D} (hd : Rws d rs) : Gives (callF B (n + 4)) 54 [d] (.tuple (w.map fun r => .str r.1)) := by
  have wl := hw.perm.length_eq
  exact gives_er h.own (er_ret (ev_tupleL (ev_comp (l := w) (inj := pD) (g := fun r => .str r.1) (evs_cons (ev_bi1 (ev_comp (l := rs) (inj := rowD) (g := pD) (evs_cons (ev_call (evs_cons (ev_var rfl) evs_nil rfl) (tupled_rows (n := n) h.c18 hl hs hd)) evs_nil rfl) (wc wd_tm (by omega)) fun r hr => ⟨_, rfl, ev_tup (evs_cons (ev_var rfl) (evs_cons (ev_var rfl) evs_nil rfl) rfl) (by simp)⟩) hw.srt rfl) evs_nil rfl) (wc wd_lm (by omega)) fun r hr => ⟨_, rfl, ev_var rfl⟩) rfl))
theorem way_g {B : Tb} {n : Nat} (h : C62 B) {rs w : List (Str × Int)} (hw : Way rs w) (hl : rs.length ≤ 4096) : Gives (callF B (n + 1)) 62 [.tuple (rs.map rowD)] (.list (w.map fun r => .str r.1)) := by
  have wl := hw.perm.length_eq
  exact gives_er h.own (er_ret (ev_comp (l := w) (inj := pD) (g := fun r => .str r.1) (evs_cons (ev_bi1 (ev_comp (l := rs) (inj := rowD) (g := pD) (evs_cons (ev_var rfl) evs_nil rfl) (wc wd_tm (by omega)) fun r hr => ⟨_, rfl, ev_tup (evs_cons (ev_var rfl) (evs_cons (ev_var rfl) evs_nil rfl) rfl) (by simp)⟩) hw.srt rfl) evs_nil rfl) (wc wd_lm (by omega)) fun r hr => ⟨_, rfl, ev_get (ev_var rfl) ev_int get_t1⟩))
theorem names_g {B : Tb} {n : Nat} (h : C37 B) {rs : List (Str × Int)} (hl : rs.length ≤ 4096) (hs : ∀ r ∈ rs, okD (.str r.1) = true) {d : D} (hd : Rws d rs) : Gives (callF B (n + 4)) 37 [d] (tupS (rs.map (·.1))) := by
  refine gives_er1 h.own rfl (er_ret (ev_tupleL (ev_comp (l := rs) (inj := rowD) (g := fun r => .str r.1) (evs_cons (ev_call (evs_cons (ev_var rfl) evs_nil rfl) (tupled_rows (n := n) h.c18 hl hs hd)) evs_nil rfl) (wc wd_tm (by omega)) fun r hr => ⟨_, rfl, ev_var rfl⟩) rfl)) ?_
  unfold tupS
  rw [List.map_map]
  rfl
/-! ### taken from below -/
def stepN (f : Str → List Str) (acc : List Str) (t : Str) : List Str := match acc.getLast? with
  | none => acc ++ [t]
  | some q => if t ∈ f q then acc else acc ++ [t]
def stepR (reach : Int) (acc : List (Str × Int)) (r : Str × Int) : List (Str × Int) := match acc.getLast? with
  | none => acc ++ [r]
  | some q => if r.2 - q.2 ≤ reach then acc else acc ++ [r]
theorem stepN_cases (f : Str → List Str) (acc : List Str) (t : Str) : stepN f acc t = acc ∨ stepN f acc t = acc ++ [t] := by
  unfold stepN
  split
  · exact .inr rfl
  · split
    · exact .inl rfl
    · exact .inr rfl
theorem stepR_cases (reach : Int) (acc : List (Str × Int)) (t : Str × Int) : stepR reach acc t = acc ∨ stepR reach acc t = acc ++ [t] := by
  unfold stepR
  split
  · exact .inr rfl
  · split
    · exact .inl rfl
    · exact .inr rfl
def belowR (reach : Int) (w : List (Str × Int)) : List (Str × Int) := w.foldl (stepR reach) []
theorem below_names {rs : List (Str × Int)} {reach : Int} (h0 : 0 ≤ reach) (hn : (rs.map (·.1)).Nodup) : ∀ (w acc : List (Str × Int)), (∀ r ∈ w, r ∈ rs) → (∀ q ∈ acc, q ∈ rs) → (w.map (·.1)).Nodup → (∀ q ∈ acc, ∀ r ∈ w, q.1 ≠ r.1 ∧ q.2 ≤ r.2) → (w.Pairwise fun a b => a.2 ≤ b.2) →
    (w.map (·.1)).foldl (stepN (nb rs reach)) (acc.map (·.1)) = (w.foldl (stepR reach) acc).map (·.1)
  | [], acc, _, _, _, _, _ => rfl
  | r :: w, acc, h1, h2, h3, h4, h5 => by
    have hr := h1 r List.mem_cons_self
    have e : stepN (nb rs reach) (acc.map (·.1)) r.1 = (stepR reach acc r).map (·.1) := by
      unfold stepN stepR
      rw [List.getLast?_map]
      cases hq : acc.getLast? with
      | none => simp
      | some q =>
        have hqa := List.mem_of_getLast? hq
        have hqr := h2 q hqa
        obtain ⟨n1, n2⟩ := h4 q hqa r List.mem_cons_self
        have k : r.1 ∈ nb rs reach q.1 ↔ r.2 - q.2 ≤ reach := by
          rw [nb_iff hn hqr]
          unfold farB
          constructor
          · rintro ⟨p, hp, e1, _, e2⟩
            have := nodup_inj hn hp hr e1
            subst this
            rw [decide_eq_true_eq, if_neg (by omega)] at e2
            exact e2
          · intro e
            exact ⟨r, hr, rfl, fun z => n1 z.symm, by rw [decide_eq_true_eq, if_neg (by omega)]; exact e⟩
        simp only [Option.map_some]
        by_cases c : r.2 - q.2 ≤ reach
        · rw [if_pos (k.2 c), if_pos c]
        · rw [if_neg (fun z => c (k.1 z)), if_neg c, List.map_append]
          rfl
    simp only [List.map_cons, List.foldl_cons]
    rw [e]
    simp only [List.map_cons, List.nodup_cons, List.pairwise_cons] at h3 h5
    have step : ∀ q ∈ stepR reach acc r, q ∈ acc ∨ q = r := by
      rcases stepR_cases reach acc r with e | e
      · rw [e]; exact fun q hq => .inl hq
      · rw [e]; intro q hq
        rcases List.mem_append.1 hq with z | z
        · exact .inl z
        · exact .inr (List.mem_singleton.1 z)
    refine below_names h0 hn w _ (fun x hx => h1 x (List.mem_cons_of_mem _ hx)) (fun q hq => ?_) h3.2 (fun q hq x hx => ?_) h5.2
    · rcases step q hq with z | z
      · exact h2 q z
      · exact z ▸ hr
    · rcases step q hq with z | z
      · exact h4 q z x (List.mem_cons_of_mem _ hx)
      · subst z
        exact ⟨fun z => h3.1 (z ▸ List.mem_map_of_mem hx), h5.1 x hx⟩
/-- what from below takes: apart, one by one; each row is close behind one of them -/
theorem below_fine {reach : Int} (h0 : 0 ≤ reach) : ∀ (w acc : List (Str × Int)), (∀ q ∈ acc, ∀ r ∈ w, q.2 ≤ r.2) → (w.Pairwise fun a b => a.2 ≤ b.2) → (acc.Pairwise fun a b => reach < b.2 - a.2) →
    ((w.foldl (stepR reach) acc).Pairwise fun a b => reach < b.2 - a.2) ∧ (∀ q ∈ w.foldl (stepR reach) acc, q ∈ acc ∨ q ∈ w) ∧ (∀ q ∈ acc, q ∈ w.foldl (stepR reach) acc) ∧ ∀ r ∈ w, ∃ q ∈ w.foldl (stepR reach) acc, q.2 ≤ r.2 ∧ r.2 - q.2 ≤ reach
  | [], acc, _, _, h3 => ⟨h3, fun q hq => .inl hq, fun q hq => hq, fun r hr => nomatch hr⟩
  | r :: w, acc, h1, h2, h3 => by
    simp only [List.pairwise_cons] at h2
    have key : ((stepR reach acc r).Pairwise fun a b => reach < b.2 - a.2) ∧ (∀ q ∈ stepR reach acc r, q ∈ acc ∨ q = r) ∧ (∀ q ∈ acc, q ∈ stepR reach acc r) ∧ ∃ q ∈ stepR reach acc r, q.2 ≤ r.2 ∧ r.2 - q.2 ≤ reach := by
      unfold stepR
      cases hq : acc.getLast? with
      | none =>
        have : acc = [] := List.getLast?_eq_none_iff.1 hq
        subst this
        refine ⟨List.pairwise_singleton _ _, ?_, ?_, r, List.mem_singleton.2 rfl, by omega, by omega⟩
        · exact fun q hq => .inr (List.mem_singleton.1 hq)
        · intro q hq
          cases hq
      | some q =>
        have hqa := List.mem_of_getLast? hq
        have n2 := h1 q hqa r List.mem_cons_self
        simp only
        by_cases c : r.2 - q.2 ≤ reach
        · rw [if_pos c]
          exact ⟨h3, fun q hq => .inl hq, fun q hq => hq, q, hqa, n2, c⟩
        · rw [if_neg c]
          refine ⟨List.pairwise_append.2 ⟨h3, List.pairwise_singleton _ _, fun a ha b hb => ?_⟩, fun x hx => ?_, fun x hx => List.mem_append_left _ hx, r, List.mem_append_right _ (List.mem_singleton.2 rfl), by omega, by omega⟩
          · rw [List.mem_singleton] at hb
            subst hb
            obtain ⟨l, rfl⟩ := List.getLast?_eq_some_iff.1 hq
            rcases List.mem_append.1 ha with z | z
            · have := (List.pairwise_append.1 h3).2.2 a z q (List.mem_singleton.2 rfl)
              omega
            · rw [List.mem_singleton] at z
              subst z
              omega
          · rcases List.mem_append.1 hx with z | z
            · exact .inl z
            · exact .inr (List.mem_singleton.1 z)
    obtain ⟨k1, k2, k3, q, k4, k5⟩ := key
    obtain ⟨g1, g2, g3, g4⟩ := below_fine h0 w (stepR reach acc r) (fun x hx y hy => by
      rcases k2 x hx with z | z
      · exact h1 x z y (List.mem_cons_of_mem _ hy)
      · exact z ▸ h2.1 y hy) h2.2 k1
    refine ⟨g1, fun x hx => ?_, fun x hx => g3 x (k3 x hx), fun x hx => ?_⟩
    · rcases g2 x hx with z | z
      · rcases k2 x z with z | z
        · exact .inl z
        · exact .inr (z ▸ List.mem_cons_self)
      · exact .inr (List.mem_cons_of_mem _ z)
    · rcases List.mem_cons.1 hx with rfl | hx
      · exact ⟨q, g3 q k4, k5⟩
      · exact g4 x hx
/-- so many fit in, if each is told by one of them -/
theorem holes {α β : Type} {R : α → β → Prop} : ∀ (s : List α) (t : List β), s.Nodup → (∀ x ∈ s, ∃ y ∈ t, R x y) → (∀ x ∈ s, ∀ x' ∈ s, ∀ y ∈ t, R x y → R x' y → x = x') → s.length ≤ t.length
  | [], t, _, _, _ => Nat.zero_le _
  | x :: s, t, hn, h1, h2 => by
    obtain ⟨y, hy, r⟩ := h1 x List.mem_cons_self
    obtain ⟨a, b, rfl⟩ := List.append_of_mem hy
    rw [List.nodup_cons] at hn
    have le := holes s (a ++ b) hn.2 (fun z hz => by
      obtain ⟨y', hy', r'⟩ := h1 z (List.mem_cons_of_mem _ hz)
      refine ⟨y', ?_, r'⟩
      rcases List.mem_append.1 hy' with k | k
      · exact List.mem_append_left _ k
      · rcases List.mem_cons.1 k with k | k
        · subst k
          exact absurd ((h2 x List.mem_cons_self z (List.mem_cons_of_mem _ hz) _ hy r r') ▸ hz) hn.1
        · exact List.mem_append_right _ k) fun u hu v hv y' hy' => h2 u (List.mem_cons_of_mem _ hu) v (List.mem_cons_of_mem _ hv) y' (by
        rcases List.mem_append.1 hy' with k | k
        · exact List.mem_append_left _ k
        · exact List.mem_append_right _ (List.mem_cons_of_mem _ k))
    simp only [List.length_append, List.length_cons] at le ⊢
    omega
/-! ### sets that can be kept: none near, all covered -/
def misB (rs : List (Str × Int)) (reach : Int) (s : List Str) : Bool := rs.all fun r => !((s.any fun o => decide (o ∈ nb rs reach r.1)) == decide (r.1 ∈ s))
theorem mis_iff {rs : List (Str × Int)} {reach : Int} {s : List Str} (hn : (rs.map (·.1)).Nodup) (hp : ∀ a ∈ s, a ∈ rs.map (·.1)) :
    misB rs reach s = true ↔ (∀ x ∈ s, ∀ y ∈ s, x ∉ nb rs reach y) ∧ ∀ t ∈ rs.map (·.1), t ∈ s ∨ ∃ o ∈ s, o ∈ nb rs reach t := by
  unfold misB
  rw [List.all_eq_true]
  constructor
  · intro h
    refine ⟨fun x hx y hy z => ?_, fun t ht => ?_⟩
    · obtain ⟨r, hr, rfl⟩ := List.mem_map.1 (hp y hy)
      have := h r hr
      rw [decide_eq_true hy, List.any_eq_true.2 ⟨x, hx, decide_eq_true z⟩] at this
      cases this
    · obtain ⟨r, hr, rfl⟩ := List.mem_map.1 ht
      by_cases c : r.1 ∈ s
      · exact .inl c
      · have := h r hr
        rw [decide_eq_false c] at this
        cases e : s.any fun o => decide (o ∈ nb rs reach r.1) with
        | false => rw [e] at this; cases this
        | true =>
          obtain ⟨o, ho, k⟩ := List.any_eq_true.1 e
          exact .inr ⟨o, ho, of_decide_eq_true k⟩
  · rintro ⟨h1, h2⟩ r hr
    rcases h2 r.1 (List.mem_map_of_mem hr) with c | ⟨o, ho, k⟩
    · rw [decide_eq_true c]
      have : (s.any fun o => decide (o ∈ nb rs reach r.1)) = false := by
        rw [List.any_eq_false]
        intro o ho
        rw [decide_eq_true_eq]
        exact h1 o ho r.1 c
      rw [this]
      rfl
    · rw [List.any_eq_true.2 ⟨o, ho, decide_eq_true k⟩]
      have : r.1 ∉ s := fun c => h1 o ho r.1 c k
      rw [decide_eq_false this]
      rfl
theorem near_num {rs : List (Str × Int)} {reach : Int} (hn : (rs.map (·.1)).Nodup) {r q : Str × Int} (hr : r ∈ rs) (hq : q ∈ rs) : q.1 ∈ nb rs reach r.1 ↔ q.1 ≠ r.1 ∧ q.2 - r.2 ≤ reach ∧ r.2 - q.2 ≤ reach := by
  rw [nb_iff hn hr]
  unfold farB
  constructor
  · rintro ⟨p, hp, e1, e2, e3⟩
    have := nodup_inj hn hp hq e1
    subst this
    rw [decide_eq_true_eq] at e3
    refine ⟨e2, ?_⟩
    split at e3 <;> omega
  · rintro ⟨e1, e2, e3⟩
    refine ⟨q, hq, rfl, e1, ?_⟩
    rw [decide_eq_true_eq]
    split <;> omega
theorem pw_or {α : Type} {R : α → α → Prop} : ∀ {l : List α}, l.Pairwise R → ∀ {a b : α}, a ∈ l → b ∈ l → a ≠ b → R a b ∨ R b a
  | [], _, _, _, h, _, _ => nomatch h
  | x :: l, h, a, b, ha, hb, ne => by
    rw [List.pairwise_cons] at h
    rcases List.mem_cons.1 ha with e | ka
    · rcases List.mem_cons.1 hb with e2 | kb
      · exact absurd (e.trans e2.symm) ne
      · exact .inl (e ▸ h.1 b kb)
    · rcases List.mem_cons.1 hb with e2 | kb
      · exact .inr (e2 ▸ h.1 a ka)
      · exact pw_or h.2 ka kb ne
/-- from below is kept, and none that is kept has more -/
theorem below_most {rs w : List (Str × Int)} {reach : Int} (h0 : 0 ≤ reach) (hn : (rs.map (·.1)).Nodup) (hw : Way rs w) :
    ((belowR reach w).map (·.1)).Nodup ∧ (∀ q ∈ belowR reach w, q ∈ rs) ∧ (∀ x ∈ (belowR reach w).map (·.1), ∀ y ∈ (belowR reach w).map (·.1), x ∉ nb rs reach y) ∧ (∀ t ∈ rs.map (·.1), t ∈ (belowR reach w).map (·.1) ∨ ∃ o ∈ (belowR reach w).map (·.1), o ∈ nb rs reach t) ∧
    ∀ s : List Str, s.Nodup → (∀ a ∈ s, a ∈ rs.map (·.1)) → (∀ x ∈ s, ∀ y ∈ s, x ∉ nb rs reach y) → s.length ≤ (belowR reach w).length := by
  obtain ⟨g1, g2, _, g4⟩ := below_fine h0 w [] (fun q hq => nomatch hq) hw.up .nil
  have g1 : (belowR reach w).Pairwise fun a b => reach < b.2 - a.2 := g1
  have sub : ∀ q ∈ belowR reach w, q ∈ rs := fun q hq => by
    rcases g2 q hq with z | z
    · cases z
    · exact hw.perm.mem_iff.1 z
  have nd : ((belowR reach w).map (·.1)).Nodup := by
    refine List.pairwise_map.2 (List.Pairwise.imp_of_mem (fun {a b} ha hb k e => ?_) g1)
    have := nodup_inj hn (sub a ha) (sub b hb) e
    subst this
    omega
  refine ⟨nd, sub, fun x hx y hy z => ?_, fun t ht => ?_, fun s hs hp hi => ?_⟩
  · obtain ⟨a, ha, rfl⟩ := List.mem_map.1 hx
    obtain ⟨b, hb, rfl⟩ := List.mem_map.1 hy
    obtain ⟨z1, z2, z3⟩ := (near_num hn (sub b hb) (sub a ha)).1 z
    have ne : a ≠ b := fun e => z1 (e ▸ rfl)
    rcases pw_or g1 ha hb ne with k | k <;> omega
  · obtain ⟨r, hr, rfl⟩ := List.mem_map.1 ht
    obtain ⟨q, hq, k1, k2⟩ := g4 r (hw.perm.mem_iff.2 hr)
    have hq : q ∈ belowR reach w := hq
    by_cases e : q.1 = r.1
    · exact .inl (e ▸ List.mem_map_of_mem hq)
    · exact .inr ⟨q.1, List.mem_map_of_mem hq, (near_num hn hr (sub q hq)).2 ⟨e, by omega, by omega⟩⟩
  · refine holes (R := fun x (q : Str × Int) => ∃ r ∈ rs, r.1 = x ∧ q.2 ≤ r.2 ∧ r.2 - q.2 ≤ reach) s _ hs (fun x hx => ?_) fun x hx x' hx' q hq h1 h2 => ?_
    · obtain ⟨r, hr, rfl⟩ := List.mem_map.1 (hp x hx)
      obtain ⟨q, hq, k⟩ := g4 r (hw.perm.mem_iff.2 hr)
      exact ⟨q, hq, r, hr, rfl, k⟩
    · obtain ⟨r, hr, rfl, e1, e2⟩ := h1
      obtain ⟨r', hr', rfl, e3, e4⟩ := h2
      apply Classical.byContradiction
      intro ne
      exact hi _ hx' _ hx ((near_num hn hr hr').2 ⟨fun e => ne e.symm, by omega, by omega⟩)
end KN

set_option maxRecDepth 100000
set_option maxHeartbeats 4000000
namespace KN
open PySem L2 PyProof.Rows
/-! ### good rows -/
structure Gd (rs : List (Str × Int)) : Prop where
  len : rs.length ≤ 12
  up : upS (rs.map (·.1)) = true
  nm : ∀ r ∈ rs, isNameS r.1 = true
theorem okD_nm {x : Str} (h : isNameS x = true) : okD (.str x) = true := by
  have h2 := name_ok h
  simp only [isNameS, Bool.and_eq_true, decide_eq_true_eq] at h
  simp only [okD, h2, Bool.true_and, decide_eq_true_eq]
  omega
section
variable {rs w : List (Str × Int)}
theorem Gd.nd (h : Gd rs) : (rs.map (·.1)).Nodup := upS_nodup h.up
theorem Gd.ok (h : Gd rs) : ∀ r ∈ rs, PyData.strOk r.1 = true := fun r hr => name_ok (h.nm r hr)
theorem Gd.okd (h : Gd rs) : ∀ r ∈ rs, okD (.str r.1) = true := fun r hr => okD_nm (h.nm r hr)
theorem Gd.okn (h : Gd rs) : ∀ a ∈ rs.map (·.1), PyData.strOk a = true := fun a ha => by obtain ⟨r, hr, rfl⟩ := List.mem_map.1 ha; exact h.ok r hr
theorem Gd.way (h : Gd rs) : ∃ w, Way rs w := way_ex (by have := h.len; omega) h.ok
theorem Gd.lists {B : Tb} {n : Nat} (h : Gd rs) (hc : C26 B) : Gives (callF B (n + 3)) 26 [.tuple (rs.map rowD)] (.list (rs.map rowL)) := by
  have := lists_g hc (n + 3) (.tuple (rs.map rowD)) (by have := depth_rows (rs := rs) (.inl rfl); omega) (okD_rows (by have := h.len; omega) h.okd (.inl rfl))
  rwa [lisD_rows] at this
end
theorem tags_fine : ∀ n, n ≤ 12 → ((tagsR.take n).all isNameS && upS (tagsR.take n)) = true := by
  have : ∀ n, n < 13 → ((tagsR.take n).all isNameS && upS (tagsR.take n)) = true := by decide +kernel
  exact fun n h => this n (by omega)
theorem Drawn.gd {many : Nat} {top : Int} {rs : List (Str × Int)} (h : Drawn many top rs) (h12 : many ≤ 12) : Gd rs := by
  have hl := h.2.1
  have t := tags_fine rs.length (by omega)
  rw [← h.1, Bool.and_eq_true, List.all_eq_true] at t
  exact ⟨by omega, t.2, fun r hr => t.1 r.1 (List.mem_map_of_mem hr)⟩
/-! ### set_of -/
theorem ded_id : ∀ {l : List Str}, l.Nodup → dedD (l.map .str) = l.map .str
  | [], _ => rfl
  | x :: l, h => by
    rw [List.nodup_cons] at h
    simp only [List.map_cons, dedD]
    rw [if_neg, ded_id h.2]
    rw [List.any_map, Bool.not_eq_true, List.any_eq_false]
    intro y hy z
    rw [Function.comp, key_eqK, decide_eq_true_eq] at z
    exact h.1 (z ▸ hy)
theorem setof_g {B : Tb} {n : Nat} (h : C36 B) {l : List Str} (hn : l.Nodup) (hl : l.length < 64) : Gives (callF B (n + 1)) 36 [.list (l.map .str)] (tupS (sortS l)) := by
  refine gives_er1 h.own rfl (er_ret (ev_tupleL (ev_sset (ev_var rfl) (ssetD_list hl)) rfl)) ?_
  rw [ded_id hn, sortS_eq]
  rfl
theorem sub_filter {l s : List Str} (hu : upS l = true) (hs : s.Nodup) (hp : ∀ a ∈ s, a ∈ l) : sortS s = l.filter fun a => decide (a ∈ s) := by
  refine sortS_id (upS_sub hu List.filter_sublist) (nodup_perm hs ((upS_nodup hu).sublist List.filter_sublist) fun x => ?_)
  rw [List.mem_filter, decide_eq_true_eq]
  exact ⟨fun h => ⟨hp x h, h⟩, fun h => h.2⟩
theorem sortS_len (s : List Str) : (sortS s).length = s.length := (sortS_perm s).length_eq
/-! ### from below, in the program -/
theorem get_last {l : List Str} {q : Str} (h : l.getLast? = some q) : getD (.list (l.map .str)) (.int (-1)) = some (.str q) := by
  rw [getD_list, atI_last, List.getLast?_map, h]
  rfl
theorem rowbelow_g {B : Tb} {n : Nat} (h : C55 B) {rs w : List (Str × Int)} {reach : Int} (g : Gd rs) (hw : Way rs w) (h0 : 0 ≤ reach) {d : D} (hd : Rws d rs) : Gives (callF B (n + 5)) 55 [d, .int reach] (.list (((belowR reach w).map (·.1)).map .str)) := by
  have hl := g.len
  have wl := hw.perm.length_eq
  have e : ((w.map (·.1)).foldl (stepN (nb rs reach)) []) = (belowR reach w).map (·.1) :=
    below_names h0 g.nd w [] (fun r hr => hw.perm.mem_iff.1 hr) (fun q hq => nomatch hq) ((hw.perm.map _).nodup_iff.2 g.nd) (fun q hq => nomatch hq) hw.up
  rw [← e]
  refine gives_er h.own (er_par (evs_cons (ev_call (evs_cons (ev_var rfl) (evs_cons (ev_var rfl) evs_nil rfl) rfl) (near_g (n := n) h.c20 (reach := reach) (by omega) g.nd g.okd hd)) (evs_cons (ev_lst evs_nil (by decide)) evs_nil rfl) rfl) rfl
    (er_loopI (l := w.map (·.1)) (inj := .str) (fun (acc : List Str) k ρ => acc.length ≤ k ∧ (∀ a ∈ acc, a ∈ rs.map (·.1)) ∧ ∃ v4, ρ = [some (.dat d), some (.dat (.int reach)), some (.dat (.dict (nearD rs reach))), some (.own (.lst (acc.map .str))), v4]) (stepN (nb rs reach)) [] (evs_cons (ev_call (evs_cons (ev_var rfl) evs_nil rfl) (bynum_g (n := n) h.c54 hw (by omega) g.okd hd)) evs_nil rfl) (by rw [List.map_map]; exact wd_tm) ⟨by simp, by simp, _, rfl⟩ ?_ ?_))
  · rintro t ht acc k ρ hk ⟨h1, h2, v4, rfl⟩
    rw [List.length_map] at hk
    have tin : t ∈ rs.map (·.1) := (hw.perm.map _).mem_iff.1 ht
    refine ⟨_, rfl, ?_⟩
    cases hq : acc.getLast? with
    | none =>
      have : acc = [] := List.getLast?_eq_none_iff.1 hq
      subst this
      have e : stepN (nb rs reach) [] t = [t] := rfl
      refine ⟨_, ⟨by rw [e, List.length_singleton]; omega, by rw [e]; intro a ha; rw [List.mem_singleton] at ha; exact ha ▸ tin, _, rfl⟩, .inl (er_ifTs (ev_orL (p := decide (((([] : List Str).map PyData.str).length : Int) = 0)) (ev_cmp (ev_lenL (ev_peekL rfl) rfl) ev_int cmpD_eqI) rfl) rfl (er_app (ev_var rfl) rfl (by simp) (by rw [e]; exact er_nil)))⟩
    | some q =>
      have hqa := List.mem_of_getLast? hq
      have ne : acc ≠ [] := fun z => by subst z; cases hqa
      have hc : Ev (callF B (n + 4)) (.or (.cmp .Eq (.bi .len [.peek 3]) (.int 0)) (.cmp .NotIn (.var 4) (.get (.var 2) (.get (.peek 3) (.neg (.int 1)))))) [some (.dat d), some (.dat (.int reach)), some (.dat (.dict (nearD rs reach))), some (.own (.lst (acc.map .str))), some (.dat (.str t))] (.bool (!decide (t ∈ nb rs reach q))) := by
        refine Ev.cast (ev_orB (ev_cmp (ev_lenL (ev_peekL rfl) rfl) ev_int cmpD_eqI) fun _ => ev_cmp (ev_var rfl) (ev_get (ev_var rfl) (ev_get (ev_peekL rfl) (ev_neg ev_int) (get_last hq)) (get_near (h2 q hqa))) (cmp_ninT (g.okn t tin) fun x hx => g.okn x (nb_mem hx))) ?_
        rw [decide_eq_false]
        · rfl
        · rw [List.length_map]
          have := List.length_pos_iff.2 ne
          omega
      have e : stepN (nb rs reach) acc t = if t ∈ nb rs reach q then acc else acc ++ [t] := by
        unfold stepN
        rw [hq]
      by_cases c : t ∈ nb rs reach q
      · rw [if_pos c] at e
        rw [decide_eq_true c] at hc
        refine ⟨_, ⟨by rw [e]; omega, by rw [e]; exact h2, _, rfl⟩, .inl (er_ifF hc rfl (by rw [e]; exact er_nil))⟩
      · rw [if_neg c] at e
        rw [decide_eq_false c] at hc
        refine ⟨_, ⟨?_, ?_, _, rfl⟩, .inl (er_ifTs hc rfl (er_app (ev_var rfl) rfl (by rw [List.length_map]; omega) (by rw [e, List.map_append]; exact er_nil)))⟩
        · rw [e, List.length_append, List.length_singleton]; omega
        · rw [e]
          intro a ha
          rcases List.mem_append.1 ha with ha | ha
          · exact h2 a ha
          · rw [List.mem_singleton] at ha; exact ha ▸ tin
  · rintro ρ ⟨h1, h2, v4, rfl⟩
    exact er_frz rfl (er_ret (ev_var rfl))
theorem below_lt {rs w : List (Str × Int)} {reach : Int} (g : Gd rs) (hw : Way rs w) (h0 : 0 ≤ reach) : ((belowR reach w).map (·.1)).length ≤ 12 := by
  have k := below_most h0 g.nd hw
  have := (List.Perm.length_eq (sortS_perm ((belowR reach w).map (·.1))))
  rw [sub_filter g.up k.1 (fun a ha => by obtain ⟨q, hq, rfl⟩ := List.mem_map.1 ha; exact List.mem_map_of_mem (k.2.1 q hq))] at this
  have h2 := List.length_filter_le (fun a => decide (a ∈ (belowR reach w).map (·.1))) (rs.map (·.1))
  rw [List.length_map] at h2
  have := g.len
  omega
theorem most56_g {B : Tb} {n : Nat} (h : C56 B) {rs w : List (Str × Int)} {reach : Int} (g : Gd rs) (hw : Way rs w) (h0 : 0 ≤ reach) {d : D} (hd : Rws d rs) : Gives (callF B (n + 6)) 56 [d, .int reach] (tupS (sortS ((belowR reach w).map (·.1)))) :=
  gives_er h.own (er_ret (ev_call (evs_cons (ev_call (evs_cons (ev_var rfl) (evs_cons (ev_var rfl) evs_nil rfl) rfl) (rowbelow_g (n := n) h.c55 g hw h0 hd)) evs_nil rfl) (setof_g (n := n + 4) h.c36 (below_most h0 g.nd hw).1 (by have := below_lt g hw h0; omega))))
theorem most57_g {B : Tb} {n : Nat} (h : C57 B) {rs w : List (Str × Int)} {reach : Int} (g : Gd rs) (hw : Way rs w) (h0 : 0 ≤ reach) {d : D} (hd : Rws d rs) : Gives (callF B (n + 6)) 57 [d, .int reach] (.int (belowR reach w).length) :=
  gives_er1 h.own rfl (er_ret (ev_lenL (ev_call (evs_cons (ev_var rfl) (evs_cons (ev_var rfl) evs_nil rfl) rfl) (rowbelow_g (n := n) h.c55 g hw h0 hd)) rfl)) (by rw [List.length_map, List.length_map])
/-- some first, then the others -/
def firstS (rs : List (Str × Int)) (s : List Str) : List Str := s ++ (rs.map (·.1)).filter fun t => !decide (t ∈ s)
theorem first58_g {B : Tb} {n : Nat} (h : C58 B) {rs : List (Str × Int)} (g : Gd rs) {s : List Str} (hs : ∀ a ∈ s, a ∈ rs.map (·.1)) (hl : s.length ≤ 12) {d : D} (hd : Rws d rs) : Gives (callF B (n + 5)) 58 [d, tupS s] (tupS (firstS rs s)) := by
  have rl := g.len
  have fl := List.length_filter_le (fun t => !decide (t ∈ s)) (rs.map (·.1))
  rw [List.length_map] at fl
  refine gives_er1 h.own rfl (er_ret (ev_tup (evs_star (xs := s.map .str) (ev_var rfl) rfl (evs_star (xs := ((rs.map (·.1)).filter fun t => !decide (t ∈ s)).map .str) (ev_compIf (l := rs.map fun r : Str × Int => r.1) (inj := PyData.str) (k := fun t => !decide (t ∈ s)) (g := .str) (evs_cons (ev_call (evs_cons (ev_var rfl) evs_nil rfl) (names_g (n := n) h.c37 (by omega) g.okd hd)) evs_nil rfl) (wc wd_tm (by rw [List.length_map]; omega)) rfl fun t ht => ⟨_, rfl, ev_cmp (ev_var rfl) (ev_var rfl) (cmp_ninT (g.okn t ht) fun x hx => g.okn x (hs x hx)), fun _ => ev_var rfl⟩) rfl evs_nil)) ?_)) ?_
  · simp only [List.length_append, List.length_map, List.length_nil]
    omega
  · unfold firstS tupS
    rw [List.map_append, List.append_nil]
theorem first_perm {rs : List (Str × Int)} (g : Gd rs) {s : List Str} (hn : s.Nodup) (hs : ∀ a ∈ s, a ∈ rs.map (·.1)) : (firstS rs s).Perm (rs.map (·.1)) := by
  unfold firstS
  refine nodup_perm (List.nodup_append.2 ⟨hn, g.nd.sublist List.filter_sublist, fun a ha b hb e => ?_⟩) g.nd fun x => ?_
  · subst e
    have := (List.mem_filter.1 hb).2
    simp [ha] at this
  · rw [List.mem_append, List.mem_filter]
    constructor
    · rintro (h | h)
      · exact hs x h
      · exact h.1
    · intro h
      by_cases hx : x ∈ s
      · exact .inl hx
      · exact .inr ⟨h, by simp [hx]⟩
theorem first_greedy {rs : List (Str × Int)} {reach : Int} {s : List Str} (h1 : ∀ x ∈ s, ∀ y ∈ s, x ∉ nb rs reach y) (h2 : ∀ t ∈ rs.map (·.1), t ∈ s ∨ ∃ o ∈ s, o ∈ nb rs reach t) : greedy (nb rs reach) (firstS rs s) = s :=
  greedy_rest s _ h1 fun t ht => by
    obtain ⟨t1, t2⟩ := List.mem_filter.1 ht
    rcases h2 t t1 with h | h
    · simp [h] at t2
    · exact h
/-! ### the law's own look at sets -/
theorem cmp_neNilL {xs : List D} (h : SeqAt.shaped (.list xs) = true) : cmpD .NotEq (.list xs) (.list []) = some (.bool (!xs.isEmpty)) := by
  rw [cmpD_ne h (by decide)]
  cases xs <;> rfl
theorem kept47_g {B : Tb} {n : Nat} (h : C47 B) {rs : List (Str × Int)} {reach : Int} {s : List Str} (g : Gd rs) (hp : ∀ a ∈ s, a ∈ rs.map (·.1)) (hsl : s.length ≤ 12) : Gives (callF B (n + 2)) 47 [.tuple (rs.map rowD), .int reach, tupS s] (.bool (misB rs reach s)) := by
  have hl := g.len
  have oks : ∀ x ∈ s, PyData.strOk x = true := fun x hx => g.okn x (hp x hx)
  have ec : ∀ (r : Str × Int), r ∈ rs → ∀ v7, Er (callF B (n + 1)) [.asg 6 (.comp (.var 7) (.nm 7) .ex [.var 2] (.cmp .In (.var 7) (.get (.var 3) (.var 4)))), .ite (.cmp .Eq (.cmp .NotEq (.var 6) (.lst [])) (.cmp .In (.var 4) (.var 2))) [.ret (.bl false)] []] [some (.dat (.tuple (rs.map rowD))), some (.dat (.int reach)), some (.dat (tupS s)), some (.dat (.dict (closeD rs reach))), some (.dat (.str r.1)), some (.dat (.int r.2)), v7, none]
      (if ((s.any fun o => decide (o ∈ nb rs reach r.1)) == decide (r.1 ∈ s)) = true then .rt (.bool false) else .nx [some (.dat (.tuple (rs.map rowD))), some (.dat (.int reach)), some (.dat (tupS s)), some (.dat (.dict (closeD rs reach))), some (.dat (.str r.1)), some (.dat (.int r.2)), some (.dat (.list ((s.filter fun o => decide (o ∈ nb rs reach r.1)).map .str))), none]) := fun r hr v7 => by
    refine er_asg (ev_compIf (l := s) (inj := .str) (k := fun o => decide (o ∈ nb rs reach r.1)) (g := .str) (evs_cons (ev_var rfl) evs_nil rfl) (wc wd_tm (by omega)) rfl fun o ho => ⟨_, rfl, ev_cmp (ev_var rfl) (ev_get (ev_var rfl) (ev_var rfl) (get_close (List.mem_map_of_mem hr))) (cmp_inL (oks o ho) fun x hx => g.okn x (nb_mem hx)), fun _ => ev_var rfl⟩) ?_
    have e : (!((s.filter fun o => decide (o ∈ nb rs reach r.1)).map PyData.str).isEmpty) = s.any fun o => decide (o ∈ nb rs reach r.1) := by
      rw [List.isEmpty_map]
      cases c : s.any fun o => decide (o ∈ nb rs reach r.1) with
      | true =>
        obtain ⟨o, ho, k⟩ := List.any_eq_true.1 c
        have : o ∈ s.filter fun o => decide (o ∈ nb rs reach r.1) := List.mem_filter.2 ⟨ho, k⟩
        cases z : s.filter fun o => decide (o ∈ nb rs reach r.1) with
        | nil => rw [z] at this; cases this
        | cons _ _ => rfl
      | false =>
        rw [List.any_eq_false] at c
        rw [List.filter_eq_nil_iff.2 c]
        rfl
    exact er_ifB (u := [.ret (.bl false)]) (v := []) (r := []) (ev_cmp (ev_cmp (ev_var rfl) (ev_lst evs_nil (by decide)) ((cmp_neNilL (shaped_strs (f := fun x => x) fun x hx => oks x (List.mem_filter.1 hx).1)).trans (by rw [e]))) (ev_cmp (ev_var rfl) (ev_var rfl) (cmp_inT (g.ok r hr) oks)) cmpD_eqB) rfl (fun _ => er_ret ev_bl) fun _ => er_nil
  refine gives_er1 h.own rfl (er_asg (ev_call (evs_cons (ev_var rfl) (evs_cons (ev_var rfl) evs_nil rfl) rfl) (close_g h.c27 rs reach (by omega) g.nd g.ok)) (er_check (l := rs) (inj := rowD) (fun q => match q with
      | none => [some (.dat (.tuple (rs.map rowD))), some (.dat (.int reach)), some (.dat (tupS s)), some (.dat (.dict (closeD rs reach))), none, none, none, none]
      | some r => [some (.dat (.tuple (rs.map rowD))), some (.dat (.int reach)), some (.dat (tupS s)), some (.dat (.dict (closeD rs reach))), some (.dat (.str r.1)), some (.dat (.int r.2)), some (.dat (.list ((s.filter fun o => decide (o ∈ nb rs reach r.1)).map .str))), none])
      (fun r => (s.any fun o => decide (o ∈ nb rs reach r.1)) == decide (r.1 ∈ s)) (d := .bool false) (y := .bool true) (evs_cons (ev_var rfl) evs_nil rfl) wd_tm rfl (fun r hr q => ?_) fun _ => ?_)) ?_
  · cases q with
    | none => exact ⟨_, rfl, ec r hr _⟩
    | some q => exact ⟨_, rfl, ec r hr _⟩
  · cases rs.getLast? <;> exact er_ret ev_bl
  · unfold misB
    cases c : rs.any fun r => (s.any fun o => decide (o ∈ nb rs reach r.1)) == decide (r.1 ∈ s) with
    | true =>
      obtain ⟨r, hr, k⟩ := List.any_eq_true.1 c
      rw [if_pos rfl]
      symm
      rw [PyData.bool.injEq, List.all_eq_false]
      exact ⟨r, hr, by rw [k]; simp⟩
    | false =>
      rw [List.any_eq_false] at c
      rw [if_neg (by simp)]
      symm
      rw [PyData.bool.injEq, List.all_eq_true]
      intro r hr
      have := c r hr
      simp only [Bool.not_eq_true] at this
      rw [this]
      rfl
theorem all48_g {B : Tb} {n : Nat} (h : C48 B) {rs : List (Str × Int)} {reach : Int} (g : Gd rs) : ∃ ys : List (List Str), (∀ s, s ∈ ys ↔ s.Sublist (rs.map (·.1))) ∧ ys.length ≤ 4096 ∧ Gives (callF B (n + 3)) 48 [.tuple (rs.map rowD), .int reach] (.list ((ys.filter (misB rs reach)).map tupS)) := by
  have hl := g.len
  obtain ⟨ys, yp, sg⟩ := sets_g (n := n + 1) h.c30 (l := rs.map (·.1)) (by rw [List.length_map]; omega) g.okn
  have ysub : ∀ s, s ∈ ys ↔ s.Sublist (rs.map (·.1)) := fun s => yp.mem_iff.trans (subs_mem _ s)
  have ylen : ys.length ≤ 4096 := by rw [yp.length_eq, subs_len]; exact Nat.le_trans (Nat.pow_le_pow_right (by decide) (by rw [List.length_map]; exact hl)) (by decide)
  refine ⟨ys, ysub, ylen, ?_⟩
  refine gives_er h.own (er_ret (ev_compIf (l := ys) (inj := tupS) (k := misB rs reach) (g := tupS) (evs_cons (ev_call (evs_cons (ev_comp (l := rs) (inj := rowD) (g := fun r => .str r.1) (evs_cons (ev_var rfl) evs_nil rfl) (wc wd_tm (by omega)) fun r hr => ⟨_, rfl, ev_var rfl⟩) evs_nil rfl) (d := .list (ys.map tupS)) ?_) evs_nil rfl) (wc wd_lm (by omega)) rfl fun s hs => ⟨_, rfl, ev_call (evs_cons (ev_var rfl) (evs_cons (ev_var rfl) (evs_cons (ev_var rfl) evs_nil rfl) rfl) rfl) (kept47_g (n := n) h.c47 g (fun a ha => ((ysub s).1 hs).subset ha) ?_), fun _ => ev_var rfl⟩))
  · have e : (rs.map fun r => PyData.str r.1) = (rs.map (·.1)).map .str := by rw [List.map_map]; rfl
    rw [e]
    exact sg
  · have := ((ysub s).1 hs).length_le
    rw [List.length_map] at this
    omega
/-! ### the most, the fewest of numbers -/
theorem alike_ints {l : List (List Str)} : allAlike (l.map fun s => PyData.int (s.length : Int)) = true := by
  unfold allAlike
  rw [List.all_eq_true]
  intro x hx
  obtain ⟨a, ha, rfl⟩ := List.mem_map.1 hx
  simp only [Bool.and_eq_true, List.all_eq_true]
  refine ⟨⟨rfl, by simp [PyData.canLay0, PyData.depth]⟩, fun y hy => ?_⟩
  obtain ⟨b, _, rfl⟩ := List.mem_map.1 hy
  simp [PySem.W.alike]
theorem still_ints {l : List (List Str)} : (l.map fun s => PyData.int (s.length : Int)).all still = true := by
  rw [List.all_eq_true]
  intro x hx
  obtain ⟨a, ha, rfl⟩ := List.mem_map.1 hx
  rfl
theorem maxD_ints : ∀ (l : List (List Str)) (a m : Nat), a ≤ m → (∀ s ∈ l, s.length ≤ m) → (a = m ∨ ∃ s ∈ l, s.length = m) → maxD (.int a) (l.map fun s => PyData.int (s.length : Int)) = .int m
  | [], a, m, _, _, h => by
    rcases h with h | ⟨s, hs, _⟩
    · subst h; rfl
    · cases hs
  | s :: l, a, m, h1, h2, h3 => by
    simp only [List.map_cons, maxD]
    have hs := h2 s List.mem_cons_self
    have e : (if PySem.W.dataLt (.int (a : Int)) (.int (s.length : Int)) = true then PyData.int (s.length : Int) else PyData.int (a : Int)) = PyData.int ((max a s.length : Nat) : Int) := by
      rw [PySem.W.dataLt_int]
      by_cases c : (a : Int) < (s.length : Int)
      · rw [if_pos (decide_eq_true c)]; congr 1; omega
      · rw [if_neg (by simpa using c)]; congr 1; omega
    rw [e]
    refine maxD_ints l _ m (by omega) (fun x hx => h2 x (List.mem_cons_of_mem _ hx)) ?_
    rcases h3 with h | ⟨x, hx, h⟩
    · exact .inl (by omega)
    · rcases List.mem_cons.1 hx with rfl | hx
      · exact .inl (by omega)
      · exact .inr ⟨x, hx, h⟩
theorem minD_ints : ∀ (l : List (List Str)) (a m : Nat), m ≤ a → (∀ s ∈ l, m ≤ s.length) → (a = m ∨ ∃ s ∈ l, s.length = m) → minD (.int a) (l.map fun s => PyData.int (s.length : Int)) = .int m
  | [], a, m, _, _, h => by
    rcases h with h | ⟨s, hs, _⟩
    · subst h; rfl
    · cases hs
  | s :: l, a, m, h1, h2, h3 => by
    simp only [List.map_cons, minD]
    have hs := h2 s List.mem_cons_self
    have e : (if PySem.W.dataLt (.int (s.length : Int)) (.int (a : Int)) = true then PyData.int (s.length : Int) else PyData.int (a : Int)) = PyData.int ((min a s.length : Nat) : Int) := by
      rw [PySem.W.dataLt_int]
      by_cases c : (s.length : Int) < (a : Int)
      · rw [if_pos (decide_eq_true c)]; congr 1; omega
      · rw [if_neg (by simpa using c)]; congr 1; omega
    rw [e]
    refine minD_ints l _ m (by omega) (fun x hx => h2 x (List.mem_cons_of_mem _ hx)) ?_
    rcases h3 with h | ⟨x, hx, h⟩
    · exact .inl (by omega)
    · rcases List.mem_cons.1 hx with rfl | hx
      · exact .inl (by omega)
      · exact .inr ⟨x, hx, h⟩
theorem max_lens {l : List (List Str)} {m : Nat} (h1 : ∃ s ∈ l, s.length = m) (h2 : ∀ s ∈ l, s.length ≤ m) : biD .max [.list (l.map fun s => PyData.int (s.length : Int))] = some (.int m) := by
  cases l with
  | nil => obtain ⟨s, hs, _⟩ := h1; cases hs
  | cons a l =>
    have e1 := alike_ints (l := a :: l)
    have e2 := still_ints (l := a :: l)
    simp only [List.map_cons] at e1 e2 ⊢
    show (if (allAlike (PyData.int (a.length : Int) :: l.map fun s => PyData.int (s.length : Int)) && (PyData.int (a.length : Int) :: l.map fun s => PyData.int (s.length : Int)).all still) = true then some (maxD (PyData.int (a.length : Int)) (l.map fun s => PyData.int (s.length : Int))) else none) = _
    rw [if_pos (by rw [e1, e2]; rfl)]
    congr 1
    refine maxD_ints l a.length m (h2 a List.mem_cons_self) (fun s hs => h2 s (List.mem_cons_of_mem _ hs)) ?_
    obtain ⟨s, hs, e⟩ := h1
    rcases List.mem_cons.1 hs with rfl | hs
    · exact .inl e
    · exact .inr ⟨s, hs, e⟩
theorem min_lens {l : List (List Str)} {m : Nat} (h1 : ∃ s ∈ l, s.length = m) (h2 : ∀ s ∈ l, m ≤ s.length) : biD .min [.list (l.map fun s => PyData.int (s.length : Int))] = some (.int m) := by
  cases l with
  | nil => obtain ⟨s, hs, _⟩ := h1; cases hs
  | cons a l =>
    have e1 := alike_ints (l := a :: l)
    have e2 := still_ints (l := a :: l)
    simp only [List.map_cons] at e1 e2 ⊢
    show (if (allAlike (PyData.int (a.length : Int) :: l.map fun s => PyData.int (s.length : Int)) && (PyData.int (a.length : Int) :: l.map fun s => PyData.int (s.length : Int)).all still) = true then some (minD (PyData.int (a.length : Int)) (l.map fun s => PyData.int (s.length : Int))) else none) = _
    rw [if_pos (by rw [e1, e2]; rfl)]
    congr 1
    refine minD_ints l a.length m (h2 a List.mem_cons_self) (fun s hs => h2 s (List.mem_cons_of_mem _ hs)) ?_
    obtain ⟨s, hs, e⟩ := h1
    rcases List.mem_cons.1 hs with rfl | hs
    · exact .inl e
    · exact .inr ⟨s, hs, e⟩
end KN

set_option maxRecDepth 100000
set_option maxHeartbeats 4000000
namespace KN
open PySem L2 PyProof.Rows
namespace K18
def t2 : Fn := ⟨"is_name", ["thing"], ["thing", "letter"], false, false, b2_is_name⟩
def t18 : Fn := ⟨"tupled", ["thing"], ["thing", "part"], false, false, b18_tupled⟩
def t3 : Fn := ⟨"rises", ["thing"], ["thing", "one", "other"], false, false, b3_rises⟩
def t19 : Fn := ⟨"is_name_set", ["thing"], ["thing", "part"], false, false, b19_is_name_set⟩
def t20 : Fn := ⟨"near_table", ["records", "span"], ["records", "span", "rows", "table", "name", "number", "other", "much"], false, false, b20_near_table⟩
def t21 : Fn := ⟨"clash", ["table", "some"], ["table", "some", "pairs", "one", "other"], false, false, b21_clash⟩
def t22 : Fn := ⟨"uncovered", ["table", "some"], ["table", "some", "name", "own"], false, false, b22_uncovered⟩
def t23 : Fn := ⟨"can_be_kept", ["table", "some"], ["table", "some"], false, false, b23_can_be_kept⟩
def t24 : Fn := ⟨"is_kept", ["records", "span", "thing"], ["records", "span", "thing", "table", "name"], false, false, b24_is_kept⟩
def t25 : Fn := ⟨"_law_box", ["_law_script", "_law_k"], ["_law_script", "_law_k", "_law_great_so"], false, true, b25_box⟩
def t7 : Fn := ⟨"_law_take", ["_law_tin", "_law_top_so"], ["_law_tin", "_law_top_so", "_law_digit_so", "_law_once", "_law_far", "_law_twice"], true, false, b7_take⟩
def t8 : Fn := ⟨"_law_cells", ["_law_script", "_law_most"], ["_law_script", "_law_most", "_law_cells_here", "_law_k", "_law_great_so", "_law_at_so"], false, false, b8_cells⟩
def t26 : Fn := ⟨"_law_lists", ["_law_matter"], ["_law_matter", "_law_bit"], false, false, b26_lists⟩
def t10 : Fn := ⟨"_law_same", ["_law_got", "_law_due"], ["_law_got", "_law_due", "_law_mine", "_law_its", "_law_lot_so"], false, false, b10_same⟩
def t11 : Fn := ⟨"_law_goods", ["_law_tin", "_law_many", "_law_top"], ["_law_tin", "_law_many", "_law_top", "_law_tags", "_law_letter", "_law_tag"], true, false, b11_goods⟩
def t27 : Fn := ⟨"_law_close", ["_law_goods_here", "_law_reach"], ["_law_goods_here", "_law_reach", "_law_found", "_law_tag", "_law_much", "_law_own"], false, false, b27_close⟩
def t28 : Fn := ⟨"_law_scan", ["_law_goods_here", "_law_reach", "_law_row_so"], ["_law_goods_here", "_law_reach", "_law_row_so", "_law_near", "_law_found", "_law_tag", "_law_own"], false, false, b28_scan⟩
def t29 : Fn := ⟨"_law_rows", ["_law_tags"], ["_law_tags", "_law_found", "_law_k", "_law_tag", "_law_own"], false, false, b29_rows⟩
def t30 : Fn := ⟨"_law_sets", ["_law_tags"], ["_law_tags", "_law_found", "_law_tag", "_law_own"], false, false, b30_sets⟩
def t31 : Fn := ⟨"_law_text", [], [], false, false, b31_text⟩
def t32 : Fn := ⟨"_law_hand_right", [], ["_law_goods_here", "_law_far", "_law_fine", "_law_got", "_law_reach", "_law_lot", "_law_own", "_law_due", "_law_odd", "_law_alike", "_law_lots", "_law_twelve", "_law_k"], false, false, b32_hand_right⟩
def t33 : Fn := ⟨"_law_case_right", ["_law_tin"], ["_law_tin", "_law_goods_here", "_law_reach", "_law_fine", "_law_own", "_law_every", "_law_got"], true, false, b33_case_right⟩
def t34 : Fn := ⟨"_law_right", ["_law_tin"], ["_law_tin", "_law_turn"], true, false, b34_right⟩
def t35 : Fn := ⟨"law", ["_law_script"], ["_law_script", "_law_cells_here", "_law_k"], false, false, b35_law⟩
def T : List (Nat × Fn) := [(2, t2), (18, t18), (3, t3), (19, t19), (20, t20), (21, t21), (22, t22), (23, t23), (24, t24), (25, t25), (7, t7), (8, t8), (26, t26), (10, t10), (11, t11), (27, t27), (28, t28), (29, t29), (30, t30), (31, t31), (32, t32), (33, t33), (34, t34), (35, t35)]
def B : Tb := fun i => (T.lookup i).map Fn.fb
theorem hB (i : Nat) (F : Fn) (h : T.lookup i = some F) : B i = some F.fb := by
  unfold B
  rw [h]
  rfl
def gl : List (Str × D) := [("LETTERS", (.str "abcdefghijklmnopqrstuvwxyz"))]
def kw : List Kw := [⟨24, 0, ["thing", "span", "records"], [2, 1, 0]⟩]
theorem c2 : C2 B := ⟨rfl⟩
theorem c18 : C18 B := ⟨rfl⟩
theorem c3 : C3 B := ⟨rfl⟩
theorem c19 : C19 B := ⟨rfl, c2, c3⟩
theorem c20 : C20 B := ⟨rfl, c18⟩
theorem c21 : C21 B := ⟨rfl⟩
theorem c22 : C22 B := ⟨rfl⟩
theorem c23 : C23 B := ⟨rfl, c21, c22⟩
theorem c24 : C24 B := ⟨rfl, c19, c20, c23⟩
theorem c25 : C25 B := ⟨rfl⟩
theorem c7 : C7 B := ⟨rfl⟩
theorem c8 : C8 B := ⟨rfl⟩
theorem c26 : C26 B := ⟨rfl⟩
theorem c10 : C10 B := ⟨rfl⟩
theorem c11 : C11 B := ⟨rfl, c7⟩
theorem c27 : C27 B := ⟨rfl⟩
theorem c28 : C28 B := ⟨rfl, c27⟩
theorem c29 : C29 B := ⟨rfl⟩
theorem c30 : C30 B := ⟨rfl⟩
theorem c31 : C31 B := ⟨rfl⟩
theorem c32 : C32 B := ⟨rfl, c10, c24, c26, c31⟩
theorem c33 : C33 B := ⟨rfl, c7, c10, c11, c24, c26, c28, c29, c30⟩
theorem c34 : C34 B := ⟨rfl, c33⟩
theorem c35 : C35 B := ⟨rfl, c8, c25, c32, c34⟩
end K18
end KN

set_option maxRecDepth 100000
set_option maxHeartbeats 4000000
namespace KN
open PySem L2 PyProof.Rows
theorem eqv_tupS (a b : List Str) : PyData.eqv (tupS a) (tupS b) = decide (a = b) := by
  unfold tupS
  simp only [PyData.eqv]
  induction a generalizing b with
  | nil => cases b <;> simp [PyData.eqvAll]
  | cons x a ih =>
    cases b with
    | nil => simp [PyData.eqvAll]
    | cons y b =>
      simp only [List.map_cons, PyData.eqvAll, PyData.eqv, ih b, beqS]
      by_cases h1 : x = y <;> by_cases h2 : a = b <;> simp [h1, h2]
theorem inD_tupS {a : List Str} {l : List (List Str)} : inD (tupS a) (l.map tupS) = decide (a ∈ l) := by
  unfold inD
  rw [List.any_map]
  by_cases h : a ∈ l
  · rw [decide_eq_true h, List.any_eq_true]
    exact ⟨a, h, by simp [eqv_tupS]⟩
  · rw [decide_eq_false h, List.any_eq_false]
    intro b hb
    simp only [Function.comp, eqv_tupS, decide_eq_true_eq]
    exact fun e => h (e ▸ hb)
theorem cmp_inTupS {a : List Str} {l : List (List Str)} (ha : ∀ x ∈ a, PyData.strOk x = true) (hs : ∀ p ∈ l, ∀ x ∈ p, PyData.strOk x = true) : cmpD .In (tupS a) (.list (l.map tupS)) = some (.bool (decide (a ∈ l))) := by
  show inSeq false _ _ = _
  unfold inSeq
  rw [if_pos, inD_tupS]
  · rfl
  · simp only [Bool.and_eq_true, decide_eq_true_eq]
    refine ⟨⟨lay_tupS ha, Nat.le_trans depth_tupS (by decide)⟩, layAll_of fun x hx => ?_⟩
    obtain ⟨p, hp, rfl⟩ := List.mem_map.1 hx
    exact lay_tupS (hs p hp)
theorem twice_list {xs : List D} (h : xs.length ≤ 1000) : binD .Mult (.list xs) (.int 2) = some (.list (xs ++ xs)) := by
  show (if _ then _ else _) = _
  rw [if_pos]
  · simp [List.replicate_succ]
  · unfold lineOk
    simp only [Bool.and_eq_true, decide_eq_true_eq]
    refine ⟨by decide, ?_⟩
    show xs.length * 2 ≤ _
    omega
theorem depth_bools {ι : Type} {p : ι → Bool} (l : List ι) : PyData.depthAll (l.map fun x => PyData.bool (p x)) ≤ 0 := depth_all fun x hx => by
  obtain ⟨a, _, rfl⟩ := List.mem_map.1 hx
  simp [PyData.depth]
theorem okDs_bools {ι : Type} {p : ι → Bool} : ∀ l : List ι, okDs (l.map fun x => PyData.bool (p x)) = true
  | [] => rfl
  | a :: l => by simp [okDs, okD, okDs_bools l]
namespace K18
theorem case_ok {n : Nat} {τ : List D} {m : Nat} (hb : Bx τ m) (hm : m < 2 ^ 50) : Ok (callF B (n + 12) 33 []) τ fun d τ' => d = .bool true ∧ ∃ m', Bx τ' m' ∧ m' ≤ m + 20 := by
  rw [ok_is c33.own rfl]
  rw [show b33_case_right = .par [(1, false), (2, false)] [.callT 11 0 [.int 5, .int 9], .callT 7 0 [.int 4]] :: b33_case_right.drop 1 from rfl]
  rw [okS_cons, okS_par]
  simp
  refine (goods_g (n := n + 9) (many := 5) (top := 9) c11 hb (by omega) (by decide) (by decide) (by decide)).mono fun g τ1 q => ?_
  obtain ⟨rs, rfl, dr, m1, b1, h1⟩ := q
  refine (take_g (n := n + 10) c7 b1 (by omega) (by decide) (by decide)).mono fun w τ2 q => ?_
  obtain ⟨w, rfl, hw, b2⟩ := q
  have g := dr.gd (by decide)
  have h5 := dr.2.1
  have hl : (rs.map (·.1)).length = rs.length := List.length_map _
  obtain ⟨ys, yp, sg⟩ := sets_g (n := n + 10) c30 (l := rs.map (·.1)) (by omega) g.okn
  have ysub : ∀ s ∈ ys, s.Sublist (rs.map (·.1)) := fun s hs => (subs_mem _ s).1 (yp.mem_iff.1 hs)
  have ylen : ys.length ≤ 2 ^ 5 := by rw [yp.length_eq, subs_len]; exact Nat.pow_le_pow_right (by decide) (by omega)
  have yin : ∀ s ∈ ys, ∀ x ∈ s, x ∈ rs.map (·.1) := fun s hs x hx => (ysub s hs).subset hx
  have rg := rows_g c29 (n + 11) (rs.map (·.1)) (by omega) (by omega) g.okn
  have pl := permN_len _ (rs.map (·.1)) rfl
  have fl := facN_le (n := (rs.map (·.1)).length) (by omega)
  have pm : ∀ p, p ∈ permN (rs.map (·.1)).length (rs.map (·.1)) ↔ p.Perm (rs.map (·.1)) := fun p => permN_mem _ _ p rfl
  revert rg pl fl pm
  generalize permN (rs.map (·.1)).length (rs.map (·.1)) = P
  intro rg pl fl pm
  have pl2 : P.length ≤ 5040 := Nat.le_trans pl fl
  have enm : (rs.map fun r => PyData.str r.1) = (rs.map (·.1)).map .str := by rw [List.map_map]; rfl
  have kin : ∀ p ∈ P, ∀ a ∈ sortS (greedy (nb rs w) p), a ∈ rs.map (·.1) := fun p hp a ha => ((pm p).1 hp).mem_iff.1 (greedy_sub _ p a ((sortS_perm _).mem_iff.1 ha))
  have same : ys.map (fun s => PyData.bool (canB rs w s)) = ys.map fun s => PyData.bool (decide (s ∈ P.map fun p => sortS (greedy (nb rs w) p))) := by
    refine List.map_congr_left fun s hs => ?_
    congr 1
    rw [Bool.eq_iff_iff, decide_eq_true_eq, kept_iff g.up (ysub s hs), List.mem_map]
    exact ⟨fun ⟨p, h1, h2⟩ => ⟨p, (pm p).2 h1, h2⟩, fun ⟨p, h1, h2⟩ => ⟨p, (pm p).1 h1, h2⟩⟩
  refine Er.ok (o := .rt (.bool true)) ?_ ⟨_, rfl, rfl, _, b2, by omega⟩
  refine er_asg (ev_comp (l := P) (inj := tupS) (g := fun p => tupS (sortS (greedy (nb rs w) p))) (evs_cons (ev_call (evs_cons (ev_comp (l := rs) (inj := rowD) (g := fun r => .str r.1) (evs_cons (ev_var rfl) evs_nil rfl) (wc wd_tm (by omega)) fun r hr => ⟨_, rfl, ev_get (ev_var rfl) ev_int get_t0⟩) evs_nil rfl) (enm ▸ rg)) evs_nil rfl) (wc wd_lm (by omega)) fun p hp => ⟨_, rfl, ev_call (evs_cons (ev_var rfl) (evs_cons (ev_var rfl) (evs_cons (ev_var rfl) evs_nil rfl) rfl) rfl) (scan_g (n := n + 9) c28 (reach := w) (p := p) (by omega) g.nd g.ok (fun a ha => ((pm p).1 hp).mem_iff.1 ha) (by have := ((pm p).1 hp).length_eq; omega))⟩) ?_
  refine er_asg (ev_call (evs_cons (ev_comp (l := rs) (inj := rowD) (g := fun r => .str r.1) (evs_cons (ev_var rfl) evs_nil rfl) (wc wd_tm (by omega)) fun r hr => ⟨_, rfl, ev_get (ev_var rfl) ev_int get_t0⟩) evs_nil rfl) (enm ▸ sg)) ?_
  have yk : ∀ (d : D), Rws d rs → ∀ s ∈ ys, Gives (callF B (n + 11)) 24 [d, .int w, tupS s] (.bool (canB rs w s)) := fun d hd s hs => kept_g (n := n + 6) c24 (reach := w) hd (by omega) g.nd g.nm (yin s hs) (upS_sub g.up (ysub s hs)) (by have := (ysub s hs).length_le; omega)
  refine er_asg (ev_addL (ev_comp (l := ys) (inj := tupS) (g := fun s => .bool (canB rs w s)) (evs_cons (ev_var rfl) evs_nil rfl) (wc wd_lm (by omega)) fun s hs => ⟨_, rfl, ev_call (evs_cons (ev_var rfl) (evs_cons (ev_var rfl) (evs_cons (ev_var rfl) evs_nil rfl) rfl) rfl) (yk _ (.inl rfl) s hs)⟩) (ev_comp (l := ys) (inj := tupS) (g := fun s => .bool (canB rs w s)) (evs_cons (ev_var rfl) evs_nil rfl) (wc wd_lm (by omega)) fun s hs => ⟨_, rfl, ev_call (evs_cons (ev_call (evs_cons (ev_var rfl) evs_nil rfl) (g.lists (n := n + 8) c26)) (evs_cons (ev_var rfl) (evs_cons (ev_var rfl) evs_nil rfl) rfl) rfl) (yk _ (.inr rfl) s hs)⟩) (by rw [List.length_map]; omega)) ?_
  refine er_ret (ev_call (evs_cons (ev_var rfl) (evs_cons (ev_bin (ev_comp (l := ys) (inj := tupS) (g := fun s => .bool (decide (s ∈ P.map fun p => sortS (greedy (nb rs w) p)))) (evs_cons (ev_var rfl) evs_nil rfl) (wc wd_lm (by omega)) fun s hs => ⟨_, rfl, ev_cmp (ev_var rfl) (ev_var rfl) ?_⟩) ev_int (twice_list (by rw [List.length_map]; omega))) evs_nil rfl) rfl) ?_)
  · have := cmp_inTupS (a := s) (l := P.map fun p => sortS (greedy (nb rs w) p)) (fun x hx => g.okn x (yin s hs x hx)) fun p hp x hx => by
      obtain ⟨q, hq, rfl⟩ := List.mem_map.1 hp
      exact g.okn x (kin q hq x hx)
    rw [List.map_map] at this
    exact this
  · rw [← same]
    refine same_g c10 ?_ ?_
    · rw [← List.map_append]
      have := depth_bools (p := canB rs w) (ys ++ ys)
      simp only [PyData.depth]
      omega
    · rw [← List.map_append]
      simp only [okD, Bool.and_eq_true, decide_eq_true_eq]
      refine ⟨?_, okDs_bools _⟩
      simp only [List.length_map, List.length_append]
      omega
theorem right_ok {n : Nat} {τ : List D} (hb : Bx τ 0) : Ok (callF B (n + 13) 34 []) τ fun d _ => d = .bool true := by
  rw [ok_is c34.own rfl]
  simp [b34_right]
  refine ⟨_, wc (wd_rangeI (by decide) (by decide)) (by decide), ?_⟩
  refine ok_comp0 (fun items ys τ => (∀ y ∈ ys, y = PyData.bool true) ∧ ∃ m, Bx τ m ∧ m + 20 * items.length ≤ 120) ?_ ?_ _ _ ⟨by simp, 0, hb, by simp⟩
  · rintro d r ys τ ⟨h1, m, hb, hm⟩
    simp only [List.length_cons] at hm
    simp
    refine (case_ok (n := n) hb (by omega)).mono fun d τ' q => ?_
    obtain ⟨rfl, m', b', hm'⟩ := q
    refine ⟨fun y hy => ?_, m', b', by omega⟩
    rcases hy with hy | hy
    · exact h1 y hy
    · exact hy
  · rintro ys τ ⟨h1, _⟩
    exact all_true h1
theorem hand : Gives (callF B 20) 32 [] (.bool true) := gives_run (by decide +kernel)
theorem law_gives {xs : List Int} (hl : xs.length ≤ 63) : Gives (callF B 21) 35 [.list (xs.map .int)] (.bool true) :=
  law_ok (n := 19) (f := 35) (hd := 32) (cl := 8) (s := 3) (rt := 34) (bx := 25) (z := 1245) c35.own c8.own c25.own (by decide) (by decide) hand (fun τ hb => right_ok (n := 7) hb) hl
end K18
end KN

set_option maxRecDepth 100000
set_option maxHeartbeats 4000000
namespace KN
open PySem L2 PyProof.Rows
namespace K18
def topS (i : Nat) : Stmt := PySem.Challenge.pw_keptnear_k18_sets_that_can_be_kept.main.body.getD i (.Pass ⟨0, 0, 0, 0⟩)
def sts : List Stmt := [topS 2, topS 3, topS 4, topS 5, topS 7, topS 9, topS 10, topS 11, topS 12, topS 14, topS 15, topS 16, topS 17, topS 18, topS 19, topS 20, topS 21, topS 22, topS 23, topS 24, topS 25, topS 26, topS 27, topS 28]
theorem text_ok : textOk T B gl kw T sts = true := by decide +kernel
theorem hb0 (kV dc pm : Value) (an : Option Addr) (cd ct : Value) (us : List Value) (hl : us.length = 1) : bindArgs (PySem.W.fnOf "is_name" "is_name" (defArgs (topS 2)) (defBody (topS 2)) (defScope (topS 2)) .none kV dc pm an cd ct) ⟨us, []⟩ = pure (List.zip (["thing"] : List Str) us) := match us, hl with | [_], _ => rfl
theorem hw0 {K : PySem.W.Frag} {kV dc pm : Value} {an : Option Addr} {cd ct : Value} (p : Kw) (hp : p ∈ kw) (he : p.f = 2) : KBinds K (PySem.W.fnOf "is_name" "is_name" (defArgs (topS 2)) (defBody (topS 2)) (defScope (topS 2)) .none kV dc pm an cd ct) ["thing"] p.ks (gP p) (gP p) := by
  simp only [kw, List.mem_cons, List.not_mem_nil, or_false] at hp
  rcases hp with rfl
  · cases he
theorem hb1 (kV dc pm : Value) (an : Option Addr) (cd ct : Value) (us : List Value) (hl : us.length = 1) : bindArgs (PySem.W.fnOf "tupled" "tupled" (defArgs (topS 3)) (defBody (topS 3)) (defScope (topS 3)) .none kV dc pm an cd ct) ⟨us, []⟩ = pure (List.zip (["thing"] : List Str) us) := match us, hl with | [_], _ => rfl
theorem hw1 {K : PySem.W.Frag} {kV dc pm : Value} {an : Option Addr} {cd ct : Value} (p : Kw) (hp : p ∈ kw) (he : p.f = 18) : KBinds K (PySem.W.fnOf "tupled" "tupled" (defArgs (topS 3)) (defBody (topS 3)) (defScope (topS 3)) .none kV dc pm an cd ct) ["thing"] p.ks (gP p) (gP p) := by
  simp only [kw, List.mem_cons, List.not_mem_nil, or_false] at hp
  rcases hp with rfl
  · cases he
theorem hb2 (kV dc pm : Value) (an : Option Addr) (cd ct : Value) (us : List Value) (hl : us.length = 1) : bindArgs (PySem.W.fnOf "rises" "rises" (defArgs (topS 4)) (defBody (topS 4)) (defScope (topS 4)) .none kV dc pm an cd ct) ⟨us, []⟩ = pure (List.zip (["thing"] : List Str) us) := match us, hl with | [_], _ => rfl
theorem hw2 {K : PySem.W.Frag} {kV dc pm : Value} {an : Option Addr} {cd ct : Value} (p : Kw) (hp : p ∈ kw) (he : p.f = 3) : KBinds K (PySem.W.fnOf "rises" "rises" (defArgs (topS 4)) (defBody (topS 4)) (defScope (topS 4)) .none kV dc pm an cd ct) ["thing"] p.ks (gP p) (gP p) := by
  simp only [kw, List.mem_cons, List.not_mem_nil, or_false] at hp
  rcases hp with rfl
  · cases he
theorem hb3 (kV dc pm : Value) (an : Option Addr) (cd ct : Value) (us : List Value) (hl : us.length = 1) : bindArgs (PySem.W.fnOf "is_name_set" "is_name_set" (defArgs (topS 5)) (defBody (topS 5)) (defScope (topS 5)) .none kV dc pm an cd ct) ⟨us, []⟩ = pure (List.zip (["thing"] : List Str) us) := match us, hl with | [_], _ => rfl
theorem hw3 {K : PySem.W.Frag} {kV dc pm : Value} {an : Option Addr} {cd ct : Value} (p : Kw) (hp : p ∈ kw) (he : p.f = 19) : KBinds K (PySem.W.fnOf "is_name_set" "is_name_set" (defArgs (topS 5)) (defBody (topS 5)) (defScope (topS 5)) .none kV dc pm an cd ct) ["thing"] p.ks (gP p) (gP p) := by
  simp only [kw, List.mem_cons, List.not_mem_nil, or_false] at hp
  rcases hp with rfl
  · cases he
theorem hb4 (kV dc pm : Value) (an : Option Addr) (cd ct : Value) (us : List Value) (hl : us.length = 2) : bindArgs (PySem.W.fnOf "near_table" "near_table" (defArgs (topS 7)) (defBody (topS 7)) (defScope (topS 7)) .none kV dc pm an cd ct) ⟨us, []⟩ = pure (List.zip (["records", "span"] : List Str) us) := match us, hl with | [_, _], _ => rfl
theorem hw4 {K : PySem.W.Frag} {kV dc pm : Value} {an : Option Addr} {cd ct : Value} (p : Kw) (hp : p ∈ kw) (he : p.f = 20) : KBinds K (PySem.W.fnOf "near_table" "near_table" (defArgs (topS 7)) (defBody (topS 7)) (defScope (topS 7)) .none kV dc pm an cd ct) ["records", "span"] p.ks (gP p) (gP p) := by
  simp only [kw, List.mem_cons, List.not_mem_nil, or_false] at hp
  rcases hp with rfl
  · cases he
theorem hb5 (kV dc pm : Value) (an : Option Addr) (cd ct : Value) (us : List Value) (hl : us.length = 2) : bindArgs (PySem.W.fnOf "clash" "clash" (defArgs (topS 9)) (defBody (topS 9)) (defScope (topS 9)) .none kV dc pm an cd ct) ⟨us, []⟩ = pure (List.zip (["table", "some"] : List Str) us) := match us, hl with | [_, _], _ => rfl
theorem hw5 {K : PySem.W.Frag} {kV dc pm : Value} {an : Option Addr} {cd ct : Value} (p : Kw) (hp : p ∈ kw) (he : p.f = 21) : KBinds K (PySem.W.fnOf "clash" "clash" (defArgs (topS 9)) (defBody (topS 9)) (defScope (topS 9)) .none kV dc pm an cd ct) ["table", "some"] p.ks (gP p) (gP p) := by
  simp only [kw, List.mem_cons, List.not_mem_nil, or_false] at hp
  rcases hp with rfl
  · cases he
theorem hb6 (kV dc pm : Value) (an : Option Addr) (cd ct : Value) (us : List Value) (hl : us.length = 2) : bindArgs (PySem.W.fnOf "uncovered" "uncovered" (defArgs (topS 10)) (defBody (topS 10)) (defScope (topS 10)) .none kV dc pm an cd ct) ⟨us, []⟩ = pure (List.zip (["table", "some"] : List Str) us) := match us, hl with | [_, _], _ => rfl
theorem hw6 {K : PySem.W.Frag} {kV dc pm : Value} {an : Option Addr} {cd ct : Value} (p : Kw) (hp : p ∈ kw) (he : p.f = 22) : KBinds K (PySem.W.fnOf "uncovered" "uncovered" (defArgs (topS 10)) (defBody (topS 10)) (defScope (topS 10)) .none kV dc pm an cd ct) ["table", "some"] p.ks (gP p) (gP p) := by
  simp only [kw, List.mem_cons, List.not_mem_nil, or_false] at hp
  rcases hp with rfl
  · cases he
theorem hb7 (kV dc pm : Value) (an : Option Addr) (cd ct : Value) (us : List Value) (hl : us.length = 2) : bindArgs (PySem.W.fnOf "can_be_kept" "can_be_kept" (defArgs (topS 11)) (defBody (topS 11)) (defScope (topS 11)) .none kV dc pm an cd ct) ⟨us, []⟩ = pure (List.zip (["table", "some"] : List Str) us) := match us, hl with | [_, _], _ => rfl
theorem hw7 {K : PySem.W.Frag} {kV dc pm : Value} {an : Option Addr} {cd ct : Value} (p : Kw) (hp : p ∈ kw) (he : p.f = 23) : KBinds K (PySem.W.fnOf "can_be_kept" "can_be_kept" (defArgs (topS 11)) (defBody (topS 11)) (defScope (topS 11)) .none kV dc pm an cd ct) ["table", "some"] p.ks (gP p) (gP p) := by
  simp only [kw, List.mem_cons, List.not_mem_nil, or_false] at hp
  rcases hp with rfl
  · cases he
theorem hb8 (kV dc pm : Value) (an : Option Addr) (cd ct : Value) (us : List Value) (hl : us.length = 3) : bindArgs (PySem.W.fnOf "is_kept" "is_kept" (defArgs (topS 12)) (defBody (topS 12)) (defScope (topS 12)) .none kV dc pm an cd ct) ⟨us, []⟩ = pure (List.zip (["records", "span", "thing"] : List Str) us) := match us, hl with | [_, _, _], _ => rfl
theorem hw8 {K : PySem.W.Frag} {kV dc pm : Value} {an : Option Addr} {cd ct : Value} (p : Kw) (hp : p ∈ kw) (he : p.f = 24) : KBinds K (PySem.W.fnOf "is_kept" "is_kept" (defArgs (topS 12)) (defBody (topS 12)) (defScope (topS 12)) .none kV dc pm an cd ct) ["records", "span", "thing"] p.ks (gP p) (gP p) := by
  simp only [kw, List.mem_cons, List.not_mem_nil, or_false] at hp
  rcases hp with rfl
  · exact kw_of (fun s us ws h1 h2 => match us, h1, ws, h2 with | [], _, [_, _, _], _ => .of_eq rfl) (by decide)
theorem hb9 (kV dc pm : Value) (an : Option Addr) (cd ct : Value) (us : List Value) (hl : us.length = 2) : bindArgs (PySem.W.fnOf "_law_box" "_law_box" (defArgs (topS 14)) (defBody (topS 14)) (defScope (topS 14)) .none kV dc pm an cd ct) ⟨us, []⟩ = pure (List.zip (["_law_script", "_law_k"] : List Str) us) := match us, hl with | [_, _], _ => rfl
theorem hw9 {K : PySem.W.Frag} {kV dc pm : Value} {an : Option Addr} {cd ct : Value} (p : Kw) (hp : p ∈ kw) (he : p.f = 25) : KBinds K (PySem.W.fnOf "_law_box" "_law_box" (defArgs (topS 14)) (defBody (topS 14)) (defScope (topS 14)) .none kV dc pm an cd ct) ["_law_script", "_law_k"] p.ks (gP p) (gP p) := by
  simp only [kw, List.mem_cons, List.not_mem_nil, or_false] at hp
  rcases hp with rfl
  · cases he
theorem hb10 (kV dc pm : Value) (an : Option Addr) (cd ct : Value) (us : List Value) (hl : us.length = 2) : bindArgs (PySem.W.fnOf "_law_take" "_law_take" (defArgs (topS 15)) (defBody (topS 15)) (defScope (topS 15)) .none kV dc pm an cd ct) ⟨us, []⟩ = pure (List.zip (["_law_tin", "_law_top_so"] : List Str) us) := match us, hl with | [_, _], _ => rfl
theorem hw10 {K : PySem.W.Frag} {kV dc pm : Value} {an : Option Addr} {cd ct : Value} (p : Kw) (hp : p ∈ kw) (he : p.f = 7) : KBinds K (PySem.W.fnOf "_law_take" "_law_take" (defArgs (topS 15)) (defBody (topS 15)) (defScope (topS 15)) .none kV dc pm an cd ct) ["_law_tin", "_law_top_so"] p.ks (gP p) (gP p) := by
  simp only [kw, List.mem_cons, List.not_mem_nil, or_false] at hp
  rcases hp with rfl
  · cases he
theorem hb11 (kV dc pm : Value) (an : Option Addr) (cd ct : Value) (us : List Value) (hl : us.length = 2) : bindArgs (PySem.W.fnOf "_law_cells" "_law_cells" (defArgs (topS 16)) (defBody (topS 16)) (defScope (topS 16)) .none kV dc pm an cd ct) ⟨us, []⟩ = pure (List.zip (["_law_script", "_law_most"] : List Str) us) := match us, hl with | [_, _], _ => rfl
theorem hw11 {K : PySem.W.Frag} {kV dc pm : Value} {an : Option Addr} {cd ct : Value} (p : Kw) (hp : p ∈ kw) (he : p.f = 8) : KBinds K (PySem.W.fnOf "_law_cells" "_law_cells" (defArgs (topS 16)) (defBody (topS 16)) (defScope (topS 16)) .none kV dc pm an cd ct) ["_law_script", "_law_most"] p.ks (gP p) (gP p) := by
  simp only [kw, List.mem_cons, List.not_mem_nil, or_false] at hp
  rcases hp with rfl
  · cases he
theorem hb12 (kV dc pm : Value) (an : Option Addr) (cd ct : Value) (us : List Value) (hl : us.length = 1) : bindArgs (PySem.W.fnOf "_law_lists" "_law_lists" (defArgs (topS 17)) (defBody (topS 17)) (defScope (topS 17)) .none kV dc pm an cd ct) ⟨us, []⟩ = pure (List.zip (["_law_matter"] : List Str) us) := match us, hl with | [_], _ => rfl
theorem hw12 {K : PySem.W.Frag} {kV dc pm : Value} {an : Option Addr} {cd ct : Value} (p : Kw) (hp : p ∈ kw) (he : p.f = 26) : KBinds K (PySem.W.fnOf "_law_lists" "_law_lists" (defArgs (topS 17)) (defBody (topS 17)) (defScope (topS 17)) .none kV dc pm an cd ct) ["_law_matter"] p.ks (gP p) (gP p) := by
  simp only [kw, List.mem_cons, List.not_mem_nil, or_false] at hp
  rcases hp with rfl
  · cases he
theorem hb13 (kV dc pm : Value) (an : Option Addr) (cd ct : Value) (us : List Value) (hl : us.length = 2) : bindArgs (PySem.W.fnOf "_law_same" "_law_same" (defArgs (topS 18)) (defBody (topS 18)) (defScope (topS 18)) .none kV dc pm an cd ct) ⟨us, []⟩ = pure (List.zip (["_law_got", "_law_due"] : List Str) us) := match us, hl with | [_, _], _ => rfl
theorem hw13 {K : PySem.W.Frag} {kV dc pm : Value} {an : Option Addr} {cd ct : Value} (p : Kw) (hp : p ∈ kw) (he : p.f = 10) : KBinds K (PySem.W.fnOf "_law_same" "_law_same" (defArgs (topS 18)) (defBody (topS 18)) (defScope (topS 18)) .none kV dc pm an cd ct) ["_law_got", "_law_due"] p.ks (gP p) (gP p) := by
  simp only [kw, List.mem_cons, List.not_mem_nil, or_false] at hp
  rcases hp with rfl
  · cases he
theorem hb14 (kV dc pm : Value) (an : Option Addr) (cd ct : Value) (us : List Value) (hl : us.length = 3) : bindArgs (PySem.W.fnOf "_law_goods" "_law_goods" (defArgs (topS 19)) (defBody (topS 19)) (defScope (topS 19)) .none kV dc pm an cd ct) ⟨us, []⟩ = pure (List.zip (["_law_tin", "_law_many", "_law_top"] : List Str) us) := match us, hl with | [_, _, _], _ => rfl
theorem hw14 {K : PySem.W.Frag} {kV dc pm : Value} {an : Option Addr} {cd ct : Value} (p : Kw) (hp : p ∈ kw) (he : p.f = 11) : KBinds K (PySem.W.fnOf "_law_goods" "_law_goods" (defArgs (topS 19)) (defBody (topS 19)) (defScope (topS 19)) .none kV dc pm an cd ct) ["_law_tin", "_law_many", "_law_top"] p.ks (gP p) (gP p) := by
  simp only [kw, List.mem_cons, List.not_mem_nil, or_false] at hp
  rcases hp with rfl
  · cases he
theorem hb15 (kV dc pm : Value) (an : Option Addr) (cd ct : Value) (us : List Value) (hl : us.length = 2) : bindArgs (PySem.W.fnOf "_law_close" "_law_close" (defArgs (topS 20)) (defBody (topS 20)) (defScope (topS 20)) .none kV dc pm an cd ct) ⟨us, []⟩ = pure (List.zip (["_law_goods_here", "_law_reach"] : List Str) us) := match us, hl with | [_, _], _ => rfl
theorem hw15 {K : PySem.W.Frag} {kV dc pm : Value} {an : Option Addr} {cd ct : Value} (p : Kw) (hp : p ∈ kw) (he : p.f = 27) : KBinds K (PySem.W.fnOf "_law_close" "_law_close" (defArgs (topS 20)) (defBody (topS 20)) (defScope (topS 20)) .none kV dc pm an cd ct) ["_law_goods_here", "_law_reach"] p.ks (gP p) (gP p) := by
  simp only [kw, List.mem_cons, List.not_mem_nil, or_false] at hp
  rcases hp with rfl
  · cases he
theorem hb16 (kV dc pm : Value) (an : Option Addr) (cd ct : Value) (us : List Value) (hl : us.length = 3) : bindArgs (PySem.W.fnOf "_law_scan" "_law_scan" (defArgs (topS 21)) (defBody (topS 21)) (defScope (topS 21)) .none kV dc pm an cd ct) ⟨us, []⟩ = pure (List.zip (["_law_goods_here", "_law_reach", "_law_row_so"] : List Str) us) := match us, hl with | [_, _, _], _ => rfl
theorem hw16 {K : PySem.W.Frag} {kV dc pm : Value} {an : Option Addr} {cd ct : Value} (p : Kw) (hp : p ∈ kw) (he : p.f = 28) : KBinds K (PySem.W.fnOf "_law_scan" "_law_scan" (defArgs (topS 21)) (defBody (topS 21)) (defScope (topS 21)) .none kV dc pm an cd ct) ["_law_goods_here", "_law_reach", "_law_row_so"] p.ks (gP p) (gP p) := by
  simp only [kw, List.mem_cons, List.not_mem_nil, or_false] at hp
  rcases hp with rfl
  · cases he
theorem hb17 (kV dc pm : Value) (an : Option Addr) (cd ct : Value) (us : List Value) (hl : us.length = 1) : bindArgs (PySem.W.fnOf "_law_rows" "_law_rows" (defArgs (topS 22)) (defBody (topS 22)) (defScope (topS 22)) .none kV dc pm an cd ct) ⟨us, []⟩ = pure (List.zip (["_law_tags"] : List Str) us) := match us, hl with | [_], _ => rfl
theorem hw17 {K : PySem.W.Frag} {kV dc pm : Value} {an : Option Addr} {cd ct : Value} (p : Kw) (hp : p ∈ kw) (he : p.f = 29) : KBinds K (PySem.W.fnOf "_law_rows" "_law_rows" (defArgs (topS 22)) (defBody (topS 22)) (defScope (topS 22)) .none kV dc pm an cd ct) ["_law_tags"] p.ks (gP p) (gP p) := by
  simp only [kw, List.mem_cons, List.not_mem_nil, or_false] at hp
  rcases hp with rfl
  · cases he
theorem hb18 (kV dc pm : Value) (an : Option Addr) (cd ct : Value) (us : List Value) (hl : us.length = 1) : bindArgs (PySem.W.fnOf "_law_sets" "_law_sets" (defArgs (topS 23)) (defBody (topS 23)) (defScope (topS 23)) .none kV dc pm an cd ct) ⟨us, []⟩ = pure (List.zip (["_law_tags"] : List Str) us) := match us, hl with | [_], _ => rfl
theorem hw18 {K : PySem.W.Frag} {kV dc pm : Value} {an : Option Addr} {cd ct : Value} (p : Kw) (hp : p ∈ kw) (he : p.f = 30) : KBinds K (PySem.W.fnOf "_law_sets" "_law_sets" (defArgs (topS 23)) (defBody (topS 23)) (defScope (topS 23)) .none kV dc pm an cd ct) ["_law_tags"] p.ks (gP p) (gP p) := by
  simp only [kw, List.mem_cons, List.not_mem_nil, or_false] at hp
  rcases hp with rfl
  · cases he
theorem hb19 (kV dc pm : Value) (an : Option Addr) (cd ct : Value) (us : List Value) (hl : us.length = 0) : bindArgs (PySem.W.fnOf "_law_text" "_law_text" (defArgs (topS 24)) (defBody (topS 24)) (defScope (topS 24)) .none kV dc pm an cd ct) ⟨us, []⟩ = pure (List.zip ([] : List Str) us) := match us, hl with | [], _ => rfl
theorem hw19 {K : PySem.W.Frag} {kV dc pm : Value} {an : Option Addr} {cd ct : Value} (p : Kw) (hp : p ∈ kw) (he : p.f = 31) : KBinds K (PySem.W.fnOf "_law_text" "_law_text" (defArgs (topS 24)) (defBody (topS 24)) (defScope (topS 24)) .none kV dc pm an cd ct) [] p.ks (gP p) (gP p) := by
  simp only [kw, List.mem_cons, List.not_mem_nil, or_false] at hp
  rcases hp with rfl
  · cases he
theorem hb20 (kV dc pm : Value) (an : Option Addr) (cd ct : Value) (us : List Value) (hl : us.length = 0) : bindArgs (PySem.W.fnOf "_law_hand_right" "_law_hand_right" (defArgs (topS 25)) (defBody (topS 25)) (defScope (topS 25)) .none kV dc pm an cd ct) ⟨us, []⟩ = pure (List.zip ([] : List Str) us) := match us, hl with | [], _ => rfl
theorem hw20 {K : PySem.W.Frag} {kV dc pm : Value} {an : Option Addr} {cd ct : Value} (p : Kw) (hp : p ∈ kw) (he : p.f = 32) : KBinds K (PySem.W.fnOf "_law_hand_right" "_law_hand_right" (defArgs (topS 25)) (defBody (topS 25)) (defScope (topS 25)) .none kV dc pm an cd ct) [] p.ks (gP p) (gP p) := by
  simp only [kw, List.mem_cons, List.not_mem_nil, or_false] at hp
  rcases hp with rfl
  · cases he
theorem hb21 (kV dc pm : Value) (an : Option Addr) (cd ct : Value) (us : List Value) (hl : us.length = 1) : bindArgs (PySem.W.fnOf "_law_case_right" "_law_case_right" (defArgs (topS 26)) (defBody (topS 26)) (defScope (topS 26)) .none kV dc pm an cd ct) ⟨us, []⟩ = pure (List.zip (["_law_tin"] : List Str) us) := match us, hl with | [_], _ => rfl
theorem hw21 {K : PySem.W.Frag} {kV dc pm : Value} {an : Option Addr} {cd ct : Value} (p : Kw) (hp : p ∈ kw) (he : p.f = 33) : KBinds K (PySem.W.fnOf "_law_case_right" "_law_case_right" (defArgs (topS 26)) (defBody (topS 26)) (defScope (topS 26)) .none kV dc pm an cd ct) ["_law_tin"] p.ks (gP p) (gP p) := by
  simp only [kw, List.mem_cons, List.not_mem_nil, or_false] at hp
  rcases hp with rfl
  · cases he
theorem hb22 (kV dc pm : Value) (an : Option Addr) (cd ct : Value) (us : List Value) (hl : us.length = 1) : bindArgs (PySem.W.fnOf "_law_right" "_law_right" (defArgs (topS 27)) (defBody (topS 27)) (defScope (topS 27)) .none kV dc pm an cd ct) ⟨us, []⟩ = pure (List.zip (["_law_tin"] : List Str) us) := match us, hl with | [_], _ => rfl
theorem hw22 {K : PySem.W.Frag} {kV dc pm : Value} {an : Option Addr} {cd ct : Value} (p : Kw) (hp : p ∈ kw) (he : p.f = 34) : KBinds K (PySem.W.fnOf "_law_right" "_law_right" (defArgs (topS 27)) (defBody (topS 27)) (defScope (topS 27)) .none kV dc pm an cd ct) ["_law_tin"] p.ks (gP p) (gP p) := by
  simp only [kw, List.mem_cons, List.not_mem_nil, or_false] at hp
  rcases hp with rfl
  · cases he
theorem hb23 (kV dc pm : Value) (an : Option Addr) (cd ct : Value) (us : List Value) (hl : us.length = 1) : bindArgs (PySem.W.fnOf "law" "law" (defArgs (topS 28)) (defBody (topS 28)) (defScope (topS 28)) .none kV dc pm an cd ct) ⟨us, []⟩ = pure (List.zip (["_law_script"] : List Str) us) := match us, hl with | [_], _ => rfl
theorem hw23 {K : PySem.W.Frag} {kV dc pm : Value} {an : Option Addr} {cd ct : Value} (p : Kw) (hp : p ∈ kw) (he : p.f = 35) : KBinds K (PySem.W.fnOf "law" "law" (defArgs (topS 28)) (defBody (topS 28)) (defScope (topS 28)) .none kV dc pm an cd ct) ["_law_script"] p.ks (gP p) (gP p) := by
  simp only [kw, List.mem_cons, List.not_mem_nil, or_false] at hp
  rcases hp with rfl
  · cases he
theorem all_mk {l : PySem.W.OpenLaw} {w : World} {K : PySem.W.Frag} {h : Heap} {mg : Str → Option Value} {fa f0 f1 f2 f3 f4 f5 f6 f7 f8 f9 f10 f11 f12 f13 f14 f15 f16 f17 f18 f19 f20 f21 f22 f23 : Addr} (X : K.In h) (G : h.Ns mainGlobals mg) (hfa : mg "law" = some (.ref fa))
    {od0 an0 od1 an1 od2 an2 od3 an3 od4 an4 od5 an5 od6 an6 od7 an7 od8 an8 od9 an9 od10 an10 od11 an11 od12 an12 od13 an13 od14 an14 od15 an15 od16 an16 od17 an17 od18 an18 od19 an19 od20 an20 od21 an21 od22 an22 od23 an23 : Option Addr} {sl0 sl1 sl2 sl3 sl4 sl5 sl6 sl7 sl8 sl9 sl10 sl11 sl12 sl13 sl14 sl15 sl16 sl17 sl18 sl19 sl20 sl21 sl22 sl23 : Array (Option Value)} {oc0 kV0 dc0 pm0 cd0 ct0 oc1 kV1 dc1 pm1 cd1 ct1 oc2 kV2 dc2 pm2 cd2 ct2 oc3 kV3 dc3 pm3 cd3 ct3 oc4 kV4 dc4 pm4 cd4 ct4 oc5 kV5 dc5 pm5 cd5 ct5 oc6 kV6 dc6 pm6 cd6 ct6 oc7 kV7 dc7 pm7 cd7 ct7 oc8 kV8 dc8 pm8 cd8 ct8 oc9 kV9 dc9 pm9 cd9 ct9 oc10 kV10 dc10 pm10 cd10 ct10 oc11 kV11 dc11 pm11 cd11 ct11 oc12 kV12 dc12 pm12 cd12 ct12 oc13 kV13 dc13 pm13 cd13 ct13 oc14 kV14 dc14 pm14 cd14 ct14 oc15 kV15 dc15 pm15 cd15 ct15 oc16 kV16 dc16 pm16 cd16 ct16 oc17 kV17 dc17 pm17 cd17 ct17 oc18 kV18 dc18 pm18 cd18 ct18 oc19 kV19 dc19 pm19 cd19 ct19 oc20 kV20 dc20 pm20 cd20 ct20 oc21 kV21 dc21 pm21 cd21 ct21 oc22 kV22 dc22 pm22 cd22 ct22 oc23 kV23 dc23 pm23 cd23 ct23 : Value}
    (a0 : PySem.W.nsIn K mainGlobals "is_name" = some (some (.ref f0))) (l0 : K.lookup f0 = some ⟨oc0, od0, .func (PySem.W.fnOf "is_name" "is_name" (defArgs (topS 2)) (defBody (topS 2)) (defScope (topS 2)) .none kV0 dc0 pm0 an0 cd0 ct0), sl0⟩) (c0 : PySem.W.codeIn K cd0 "is_name" = true) (k0 : PySem.W.keepIn K (.ref f0) = true)
    (a1 : PySem.W.nsIn K mainGlobals "tupled" = some (some (.ref f1))) (l1 : K.lookup f1 = some ⟨oc1, od1, .func (PySem.W.fnOf "tupled" "tupled" (defArgs (topS 3)) (defBody (topS 3)) (defScope (topS 3)) .none kV1 dc1 pm1 an1 cd1 ct1), sl1⟩) (c1 : PySem.W.codeIn K cd1 "tupled" = true) (k1 : PySem.W.keepIn K (.ref f1) = true)
    (a2 : PySem.W.nsIn K mainGlobals "rises" = some (some (.ref f2))) (l2 : K.lookup f2 = some ⟨oc2, od2, .func (PySem.W.fnOf "rises" "rises" (defArgs (topS 4)) (defBody (topS 4)) (defScope (topS 4)) .none kV2 dc2 pm2 an2 cd2 ct2), sl2⟩) (c2 : PySem.W.codeIn K cd2 "rises" = true) (k2 : PySem.W.keepIn K (.ref f2) = true)
    (a3 : PySem.W.nsIn K mainGlobals "is_name_set" = some (some (.ref f3))) (l3 : K.lookup f3 = some ⟨oc3, od3, .func (PySem.W.fnOf "is_name_set" "is_name_set" (defArgs (topS 5)) (defBody (topS 5)) (defScope (topS 5)) .none kV3 dc3 pm3 an3 cd3 ct3), sl3⟩) (c3 : PySem.W.codeIn K cd3 "is_name_set" = true) (k3 : PySem.W.keepIn K (.ref f3) = true)
    (a4 : PySem.W.nsIn K mainGlobals "near_table" = some (some (.ref f4))) (l4 : K.lookup f4 = some ⟨oc4, od4, .func (PySem.W.fnOf "near_table" "near_table" (defArgs (topS 7)) (defBody (topS 7)) (defScope (topS 7)) .none kV4 dc4 pm4 an4 cd4 ct4), sl4⟩) (c4 : PySem.W.codeIn K cd4 "near_table" = true) (k4 : PySem.W.keepIn K (.ref f4) = true)
    (a5 : PySem.W.nsIn K mainGlobals "clash" = some (some (.ref f5))) (l5 : K.lookup f5 = some ⟨oc5, od5, .func (PySem.W.fnOf "clash" "clash" (defArgs (topS 9)) (defBody (topS 9)) (defScope (topS 9)) .none kV5 dc5 pm5 an5 cd5 ct5), sl5⟩) (c5 : PySem.W.codeIn K cd5 "clash" = true) (k5 : PySem.W.keepIn K (.ref f5) = true)
    (a6 : PySem.W.nsIn K mainGlobals "uncovered" = some (some (.ref f6))) (l6 : K.lookup f6 = some ⟨oc6, od6, .func (PySem.W.fnOf "uncovered" "uncovered" (defArgs (topS 10)) (defBody (topS 10)) (defScope (topS 10)) .none kV6 dc6 pm6 an6 cd6 ct6), sl6⟩) (c6 : PySem.W.codeIn K cd6 "uncovered" = true) (k6 : PySem.W.keepIn K (.ref f6) = true)
    (a7 : PySem.W.nsIn K mainGlobals "can_be_kept" = some (some (.ref f7))) (l7 : K.lookup f7 = some ⟨oc7, od7, .func (PySem.W.fnOf "can_be_kept" "can_be_kept" (defArgs (topS 11)) (defBody (topS 11)) (defScope (topS 11)) .none kV7 dc7 pm7 an7 cd7 ct7), sl7⟩) (c7 : PySem.W.codeIn K cd7 "can_be_kept" = true) (k7 : PySem.W.keepIn K (.ref f7) = true)
    (a8 : PySem.W.nsIn K mainGlobals "is_kept" = some (some (.ref f8))) (l8 : K.lookup f8 = some ⟨oc8, od8, .func (PySem.W.fnOf "is_kept" "is_kept" (defArgs (topS 12)) (defBody (topS 12)) (defScope (topS 12)) .none kV8 dc8 pm8 an8 cd8 ct8), sl8⟩) (c8 : PySem.W.codeIn K cd8 "is_kept" = true) (k8 : PySem.W.keepIn K (.ref f8) = true)
    (a9 : PySem.W.nsIn K mainGlobals "_law_box" = some (some (.ref f9))) (l9 : K.lookup f9 = some ⟨oc9, od9, .func (PySem.W.fnOf "_law_box" "_law_box" (defArgs (topS 14)) (defBody (topS 14)) (defScope (topS 14)) .none kV9 dc9 pm9 an9 cd9 ct9), sl9⟩) (c9 : PySem.W.codeIn K cd9 "_law_box" = true) (k9 : PySem.W.keepIn K (.ref f9) = true)
    (a10 : PySem.W.nsIn K mainGlobals "_law_take" = some (some (.ref f10))) (l10 : K.lookup f10 = some ⟨oc10, od10, .func (PySem.W.fnOf "_law_take" "_law_take" (defArgs (topS 15)) (defBody (topS 15)) (defScope (topS 15)) .none kV10 dc10 pm10 an10 cd10 ct10), sl10⟩) (c10 : PySem.W.codeIn K cd10 "_law_take" = true) (k10 : PySem.W.keepIn K (.ref f10) = true)
    (a11 : PySem.W.nsIn K mainGlobals "_law_cells" = some (some (.ref f11))) (l11 : K.lookup f11 = some ⟨oc11, od11, .func (PySem.W.fnOf "_law_cells" "_law_cells" (defArgs (topS 16)) (defBody (topS 16)) (defScope (topS 16)) .none kV11 dc11 pm11 an11 cd11 ct11), sl11⟩) (c11 : PySem.W.codeIn K cd11 "_law_cells" = true) (k11 : PySem.W.keepIn K (.ref f11) = true)
    (a12 : PySem.W.nsIn K mainGlobals "_law_lists" = some (some (.ref f12))) (l12 : K.lookup f12 = some ⟨oc12, od12, .func (PySem.W.fnOf "_law_lists" "_law_lists" (defArgs (topS 17)) (defBody (topS 17)) (defScope (topS 17)) .none kV12 dc12 pm12 an12 cd12 ct12), sl12⟩) (c12 : PySem.W.codeIn K cd12 "_law_lists" = true) (k12 : PySem.W.keepIn K (.ref f12) = true)
    (a13 : PySem.W.nsIn K mainGlobals "_law_same" = some (some (.ref f13))) (l13 : K.lookup f13 = some ⟨oc13, od13, .func (PySem.W.fnOf "_law_same" "_law_same" (defArgs (topS 18)) (defBody (topS 18)) (defScope (topS 18)) .none kV13 dc13 pm13 an13 cd13 ct13), sl13⟩) (c13 : PySem.W.codeIn K cd13 "_law_same" = true) (k13 : PySem.W.keepIn K (.ref f13) = true)
    (a14 : PySem.W.nsIn K mainGlobals "_law_goods" = some (some (.ref f14))) (l14 : K.lookup f14 = some ⟨oc14, od14, .func (PySem.W.fnOf "_law_goods" "_law_goods" (defArgs (topS 19)) (defBody (topS 19)) (defScope (topS 19)) .none kV14 dc14 pm14 an14 cd14 ct14), sl14⟩) (c14 : PySem.W.codeIn K cd14 "_law_goods" = true) (k14 : PySem.W.keepIn K (.ref f14) = true)
    (a15 : PySem.W.nsIn K mainGlobals "_law_close" = some (some (.ref f15))) (l15 : K.lookup f15 = some ⟨oc15, od15, .func (PySem.W.fnOf "_law_close" "_law_close" (defArgs (topS 20)) (defBody (topS 20)) (defScope (topS 20)) .none kV15 dc15 pm15 an15 cd15 ct15), sl15⟩) (c15 : PySem.W.codeIn K cd15 "_law_close" = true) (k15 : PySem.W.keepIn K (.ref f15) = true)
    (a16 : PySem.W.nsIn K mainGlobals "_law_scan" = some (some (.ref f16))) (l16 : K.lookup f16 = some ⟨oc16, od16, .func (PySem.W.fnOf "_law_scan" "_law_scan" (defArgs (topS 21)) (defBody (topS 21)) (defScope (topS 21)) .none kV16 dc16 pm16 an16 cd16 ct16), sl16⟩) (c16 : PySem.W.codeIn K cd16 "_law_scan" = true) (k16 : PySem.W.keepIn K (.ref f16) = true)
    (a17 : PySem.W.nsIn K mainGlobals "_law_rows" = some (some (.ref f17))) (l17 : K.lookup f17 = some ⟨oc17, od17, .func (PySem.W.fnOf "_law_rows" "_law_rows" (defArgs (topS 22)) (defBody (topS 22)) (defScope (topS 22)) .none kV17 dc17 pm17 an17 cd17 ct17), sl17⟩) (c17 : PySem.W.codeIn K cd17 "_law_rows" = true) (k17 : PySem.W.keepIn K (.ref f17) = true)
    (a18 : PySem.W.nsIn K mainGlobals "_law_sets" = some (some (.ref f18))) (l18 : K.lookup f18 = some ⟨oc18, od18, .func (PySem.W.fnOf "_law_sets" "_law_sets" (defArgs (topS 23)) (defBody (topS 23)) (defScope (topS 23)) .none kV18 dc18 pm18 an18 cd18 ct18), sl18⟩) (c18 : PySem.W.codeIn K cd18 "_law_sets" = true) (k18 : PySem.W.keepIn K (.ref f18) = true)
    (a19 : PySem.W.nsIn K mainGlobals "_law_text" = some (some (.ref f19))) (l19 : K.lookup f19 = some ⟨oc19, od19, .func (PySem.W.fnOf "_law_text" "_law_text" (defArgs (topS 24)) (defBody (topS 24)) (defScope (topS 24)) .none kV19 dc19 pm19 an19 cd19 ct19), sl19⟩) (c19 : PySem.W.codeIn K cd19 "_law_text" = true) (k19 : PySem.W.keepIn K (.ref f19) = true)
    (a20 : PySem.W.nsIn K mainGlobals "_law_hand_right" = some (some (.ref f20))) (l20 : K.lookup f20 = some ⟨oc20, od20, .func (PySem.W.fnOf "_law_hand_right" "_law_hand_right" (defArgs (topS 25)) (defBody (topS 25)) (defScope (topS 25)) .none kV20 dc20 pm20 an20 cd20 ct20), sl20⟩) (c20 : PySem.W.codeIn K cd20 "_law_hand_right" = true) (k20 : PySem.W.keepIn K (.ref f20) = true)
    (a21 : PySem.W.nsIn K mainGlobals "_law_case_right" = some (some (.ref f21))) (l21 : K.lookup f21 = some ⟨oc21, od21, .func (PySem.W.fnOf "_law_case_right" "_law_case_right" (defArgs (topS 26)) (defBody (topS 26)) (defScope (topS 26)) .none kV21 dc21 pm21 an21 cd21 ct21), sl21⟩) (c21 : PySem.W.codeIn K cd21 "_law_case_right" = true) (k21 : PySem.W.keepIn K (.ref f21) = true)
    (a22 : PySem.W.nsIn K mainGlobals "_law_right" = some (some (.ref f22))) (l22 : K.lookup f22 = some ⟨oc22, od22, .func (PySem.W.fnOf "_law_right" "_law_right" (defArgs (topS 27)) (defBody (topS 27)) (defScope (topS 27)) .none kV22 dc22 pm22 an22 cd22 ct22), sl22⟩) (c22 : PySem.W.codeIn K cd22 "_law_right" = true) (k22 : PySem.W.keepIn K (.ref f22) = true)
    (a23 : PySem.W.nsIn K mainGlobals "law" = some (some (.ref f23))) (l23 : K.lookup f23 = some ⟨oc23, od23, .func (PySem.W.fnOf "law" "law" (defArgs (topS 28)) (defBody (topS 28)) (defScope (topS 28)) .none kV23 dc23 pm23 an23 cd23 ct23), sl23⟩) (c23 : PySem.W.codeIn K cd23 "law" = true) (k23 : PySem.W.keepIn K (.ref f23) = true)
    (z0 : PySem.W.nsIn K mainGlobals "len" = some none)
    (z1 : PySem.W.nsIn K mainGlobals "list" = some none)
    (z2 : PySem.W.nsIn K mainGlobals "tuple" = some none)
    (z3 : PySem.W.nsIn K mainGlobals "int" = some none)
    (z4 : PySem.W.nsIn K mainGlobals "abs" = some none)
    (z5 : PySem.W.nsIn K mainGlobals "sum" = some none)
    (z6 : PySem.W.nsIn K mainGlobals "max" = some none)
    (z7 : PySem.W.nsIn K mainGlobals "min" = some none)
    (z8 : PySem.W.nsIn K mainGlobals "all" = some none)
    (z9 : PySem.W.nsIn K mainGlobals "any" = some none)
    (z10 : PySem.W.nsIn K mainGlobals "sorted" = some none)
    (z11 : PySem.W.nsIn K mainGlobals "isinstance" = some none)
    (z12 : PySem.W.nsIn K mainGlobals "range" = some none)
    (z13 : PySem.W.nsIn K mainGlobals "enumerate" = some none)
    (z14 : PySem.W.nsIn K mainGlobals "zip" = some none)
    (z15 : PySem.W.nsIn K mainGlobals "bool" = some none)
    (z16 : PySem.W.nsIn K mainGlobals "str" = some none)
    (z17 : PySem.W.nsIn K mainGlobals "dict" = some none)
    (z18 : PySem.W.nsIn K mainGlobals "set" = some none)
    {gt0 : Tok} (gvl0 : PySem.W.nsIn K mainGlobals "LETTERS" = some (some (.str "abcdefghijklmnopqrstuvwxyz" gt0)))
    : ∃ fd : FuncData, (∀ (s : Shared) (v : Value), BindsTo s fd ⟨[v], []⟩ [("_law_script", v)]) ∧ ∀ base : Heap, K.In base → base.Ns mainGlobals mg → FnOk l.prog w K mg base CX0 21 fa fd ["_law_script"] (spF K (callF B 21) 35 false false) := by
  have hb : ∀ x ∈ biL, mg x = none := fun x hx => by
    simp only [biL, List.mem_cons, List.not_mem_nil, or_false] at hx
    rcases hx with rfl | rfl | rfl | rfl | rfl | rfl | rfl | rfl | rfl | rfl | rfl | rfl | rfl | rfl | rfl | rfl | rfl | rfl | rfl
    · exact PySem.W.mg_none_of X G z0
    · exact PySem.W.mg_none_of X G z1
    · exact PySem.W.mg_none_of X G z2
    · exact PySem.W.mg_none_of X G z3
    · exact PySem.W.mg_none_of X G z4
    · exact PySem.W.mg_none_of X G z5
    · exact PySem.W.mg_none_of X G z6
    · exact PySem.W.mg_none_of X G z7
    · exact PySem.W.mg_none_of X G z8
    · exact PySem.W.mg_none_of X G z9
    · exact PySem.W.mg_none_of X G z10
    · exact PySem.W.mg_none_of X G z11
    · exact PySem.W.mg_none_of X G z12
    · exact PySem.W.mg_none_of X G z13
    · exact PySem.W.mg_none_of X G z14
    · exact PySem.W.mg_none_of X G z15
    · exact PySem.W.mg_none_of X G z16
    · exact PySem.W.mg_none_of X G z17
    · exact PySem.W.mg_none_of X G z18
  have hg : ∀ p ∈ gl, GlV mg p := fun p hp => by
    simp only [gl, List.mem_cons, List.not_mem_nil, or_false] at hp
    rcases hp with rfl
    · exact .inl ⟨_, _, rfl, PySem.W.mg_of X G gvl0⟩
  have A0 : FnAt K mg kw 2 t2 (topS 2) := at_mk X G a0 l0 c0 k0 hb0 hw0
  have A1 : FnAt K mg kw 18 t18 (topS 3) := at_mk X G a1 l1 c1 k1 hb1 hw1
  have A2 : FnAt K mg kw 3 t3 (topS 4) := at_mk X G a2 l2 c2 k2 hb2 hw2
  have A3 : FnAt K mg kw 19 t19 (topS 5) := at_mk X G a3 l3 c3 k3 hb3 hw3
  have A4 : FnAt K mg kw 20 t20 (topS 7) := at_mk X G a4 l4 c4 k4 hb4 hw4
  have A5 : FnAt K mg kw 21 t21 (topS 9) := at_mk X G a5 l5 c5 k5 hb5 hw5
  have A6 : FnAt K mg kw 22 t22 (topS 10) := at_mk X G a6 l6 c6 k6 hb6 hw6
  have A7 : FnAt K mg kw 23 t23 (topS 11) := at_mk X G a7 l7 c7 k7 hb7 hw7
  have A8 : FnAt K mg kw 24 t24 (topS 12) := at_mk X G a8 l8 c8 k8 hb8 hw8
  have A9 : FnAt K mg kw 25 t25 (topS 14) := at_mk X G a9 l9 c9 k9 hb9 hw9
  have A10 : FnAt K mg kw 7 t7 (topS 15) := at_mk X G a10 l10 c10 k10 hb10 hw10
  have A11 : FnAt K mg kw 8 t8 (topS 16) := at_mk X G a11 l11 c11 k11 hb11 hw11
  have A12 : FnAt K mg kw 26 t26 (topS 17) := at_mk X G a12 l12 c12 k12 hb12 hw12
  have A13 : FnAt K mg kw 10 t10 (topS 18) := at_mk X G a13 l13 c13 k13 hb13 hw13
  have A14 : FnAt K mg kw 11 t11 (topS 19) := at_mk X G a14 l14 c14 k14 hb14 hw14
  have A15 : FnAt K mg kw 27 t27 (topS 20) := at_mk X G a15 l15 c15 k15 hb15 hw15
  have A16 : FnAt K mg kw 28 t28 (topS 21) := at_mk X G a16 l16 c16 k16 hb16 hw16
  have A17 : FnAt K mg kw 29 t29 (topS 22) := at_mk X G a17 l17 c17 k17 hb17 hw17
  have A18 : FnAt K mg kw 30 t30 (topS 23) := at_mk X G a18 l18 c18 k18 hb18 hw18
  have A19 : FnAt K mg kw 31 t31 (topS 24) := at_mk X G a19 l19 c19 k19 hb19 hw19
  have A20 : FnAt K mg kw 32 t32 (topS 25) := at_mk X G a20 l20 c20 k20 hb20 hw20
  have A21 : FnAt K mg kw 33 t33 (topS 26) := at_mk X G a21 l21 c21 k21 hb21 hw21
  have A22 : FnAt K mg kw 34 t34 (topS 27) := at_mk X G a22 l22 c22 k22 hb22 hw22
  have A23 : FnAt K mg kw 35 t35 (topS 28) := at_mk X G a23 l23 c23 k23 hb23 hw23
  have all : AllAt K mg kw T sts := ⟨A0, A1, A2, A3, A4, A5, A6, A7, A8, A9, A10, A11, A12, A13, A14, A15, A16, A17, A18, A19, A20, A21, A22, A23, trivial⟩
  exact law_mk (F := t35) (k0 := 23) X G hb hg hB text_ok all hfa rfl rfl rfl rfl rfl rfl a23 l23 c23 k23 hb23 20
end K18
end KN
open PySem PySem.W PyProof.Rows
set_option maxHeartbeats 0 in
theorem PySem.Challenge.cw_keptnear_k18_sets_that_can_be_kept_holds : PySem.Challenge.rw_keptnear_k18_sets_that_can_be_kept.Holds := by
  w_on; o_law; k_head; (case hw => w_witness2)
  k_fill
  refine L2.walk_of (l := PySem.Challenge.rw_keptnear_k18_sets_that_can_be_kept) (n := 63) (k := 21) (x := "_law_script") (CX := fun _ => L2.CX0) (sp := fun w => KN.spF _ (KN.callF KN.K18.B 21) 35 false false) rfl (by decide) rfl ⟨rfl, by decide, by decide⟩ (fun w h Y => PySem.W.kIn_of Y) ?F (fun _ _ a ns hl _ hS => KN.law_sp hS (KN.K18.law_gives hl)) (fun _ _ _ _ _ h => h)
  case F =>
    intro w mg fa h KX G hmg
    refine' KN.K18.all_mk KX G hmg ?a0 ?l0 ?c0 ?k0 ?a1 ?l1 ?c1 ?k1 ?a2 ?l2 ?c2 ?k2 ?a3 ?l3 ?c3 ?k3 ?a4 ?l4 ?c4 ?k4 ?a5 ?l5 ?c5 ?k5 ?a6 ?l6 ?c6 ?k6 ?a7 ?l7 ?c7 ?k7 ?a8 ?l8 ?c8 ?k8 ?a9 ?l9 ?c9 ?k9 ?a10 ?l10 ?c10 ?k10 ?a11 ?l11 ?c11 ?k11 ?a12 ?l12 ?c12 ?k12 ?a13 ?l13 ?c13 ?k13 ?a14 ?l14 ?c14 ?k14 ?a15 ?l15 ?c15 ?k15 ?a16 ?l16 ?c16 ?k16 ?a17 ?l17 ?c17 ?k17 ?a18 ?l18 ?c18 ?k18 ?a19 ?l19 ?c19 ?k19 ?a20 ?l20 ?c20 ?k20 ?a21 ?l21 ?c21 ?k21 ?a22 ?l22 ?c22 ?k22 ?a23 ?l23 ?c23 ?k23 ?z0 ?z1 ?z2 ?z3 ?z4 ?z5 ?z6 ?z7 ?z8 ?z9 ?z10 ?z11 ?z12 ?z13 ?z14 ?z15 ?z16 ?z17 ?z18 ?gvl0
    (case a0 => k_is); (case l0 => k_is); (case c0 => k_is); (case k0 => k_is); (case a1 => k_is); (case l1 => k_is); (case c1 => k_is); (case k1 => k_is); (case a2 => k_is); (case l2 => k_is); (case c2 => k_is); (case k2 => k_is); (case a3 => k_is); (case l3 => k_is); (case c3 => k_is); (case k3 => k_is); (case a4 => k_is); (case l4 => k_is); (case c4 => k_is); (case k4 => k_is); (case a5 => k_is); (case l5 => k_is); (case c5 => k_is); (case k5 => k_is); (case a6 => k_is); (case l6 => k_is); (case c6 => k_is); (case k6 => k_is); (case a7 => k_is); (case l7 => k_is); (case c7 => k_is); (case k7 => k_is); (case a8 => k_is); (case l8 => k_is); (case c8 => k_is); (case k8 => k_is); (case a9 => k_is); (case l9 => k_is); (case c9 => k_is); (case k9 => k_is); (case a10 => k_is); (case l10 => k_is); (case c10 => k_is); (case k10 => k_is); (case a11 => k_is); (case l11 => k_is); (case c11 => k_is); (case k11 => k_is); (case a12 => k_is); (case l12 => k_is); (case c12 => k_is); (case k12 => k_is); (case a13 => k_is); (case l13 => k_is); (case c13 => k_is); (case k13 => k_is); (case a14 => k_is); (case l14 => k_is); (case c14 => k_is); (case k14 => k_is); (case a15 => k_is); (case l15 => k_is); (case c15 => k_is); (case k15 => k_is); (case a16 => k_is); (case l16 => k_is); (case c16 => k_is); (case k16 => k_is); (case a17 => k_is); (case l17 => k_is); (case c17 => k_is); (case k17 => k_is); (case a18 => k_is); (case l18 => k_is); (case c18 => k_is); (case k18 => k_is); (case a19 => k_is); (case l19 => k_is); (case c19 => k_is); (case k19 => k_is); (case a20 => k_is); (case l20 => k_is); (case c20 => k_is); (case k20 => k_is); (case a21 => k_is); (case l21 => k_is); (case c21 => k_is); (case k21 => k_is); (case a22 => k_is); (case l22 => k_is); (case c22 => k_is); (case k22 => k_is); (case a23 => k_is); (case l23 => k_is); (case c23 => k_is); (case k23 => k_is); (case z0 => k_is); (case z1 => k_is); (case z2 => k_is); (case z3 => k_is); (case z4 => k_is); (case z5 => k_is); (case z6 => k_is); (case z7 => k_is); (case z8 => k_is); (case z9 => k_is); (case z10 => k_is); (case z11 => k_is); (case z12 => k_is); (case z13 => k_is); (case z14 => k_is); (case z15 => k_is); (case z16 => k_is); (case z17 => k_is); (case z18 => k_is); (case gvl0 => k_is)

