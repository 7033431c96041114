import PyProof.Rows.All
import PySem.Challenge.RW_keptnear_k19_what_hinders
import Wide.All
import OpenK.AllK
import Wide.FinOn
import HandS.Set
import HandS.SetFor
import HandS.SetKeys
import HandS.More
import HandS.Strs
import HandS.Zip
import KE.KExcSuper
import KE.KExcInit
import KE.KSuper
import HandS.ForMost
import HandS.Exc
import HandS.ExcOwn
import HandS.ExcIs
import HandS.ExcField
import HandS.WordsExc
import KE.KExcIs
import HandS.TryMany
import HandS.Flow
import HandS.IsInst
import HandS.Conv
import HandS.Deep
import HandS.TupAny
import HandS.TupLe
import HandS.TupMul
import HandS.Star
import HandS.SortInts
import HandS.Style
import KE.GoesEnum
import KE.SortData
import KE.DataCmp
import KE.DataMinMax
import HandS.DictComp
import HandS.Dict
import HandS.Iter
import KE.KDictPairs
import PyProof.TupleOfStr
import PyProof.ListStr
import HandS.ListItems
set_option Elab.async false
set_option linter.all false
set_option maxRecDepth 100000
set_option maxHeartbeats 4000000
namespace KN
open PySem PySem.Spec L2 PyProof.Rows
/-! ### sets of whole numbers and texts, such that they can be walked -/
def keyV (e : Int × Value) : Key := match e.2 with
  | .int k _ => .inl k
  | .str x _ => .inr x
  | _ => .inl 0
def GdK (w : World) (e : Int × Value) : Prop := keyIs (keyV e) e.2 = true ∧ e.1 = keyH w (keyV e)
theorem keyV_of {k : Key} {h : Int} {v : Value} (hk : keyIs k v = true) : keyV (h, v) = k := by
  rcases keyIs_shape hk with ⟨i, t, rfl, rfl⟩ | ⟨x, t, rfl, rfl⟩ <;> rfl
theorem scanK {k : Key} {v : Value} (hk : keyIs k v = true) : v.scannable = true := by
  rcases keyIs_shape hk with ⟨i, t, rfl, rfl⟩ | ⟨x, t, rfl, rfl⟩ <;> rfl
/-- the set at a: its members S, their number n -/
def SkR (w : World) (h : Heap) (a : Addr) (S : Key → Bool) (n : Nat) : Prop :=
  ∃ o es ep t, h.get? a = some o ∧ o.ExactSet ∧ o.data = .set es ep t ∧ (∀ e ∈ es.toList, GdK w e) ∧ (es.toList.map keyV).Nodup ∧ (∀ k, S k = true ↔ k ∈ es.toList.map keyV) ∧
    es.size < scanBound ∧ t.fits es.size = true ∧ es.size = n ∧ Ris t.place.toList ∧ (w.params.followText "set-order" = true ∨ t.led = true)
section
variable {P : Program} {w : World} {h h' : Heap} {a : Addr} {S : Key → Bool} {n : Nat}
theorem SkR.at (R : SkR w h a S n) (k : ∀ o, h.get? a = some o → h'.get? a = some o) : SkR w h' a S n := by
  obtain ⟨o, es, ep, t, ho, r⟩ := R
  exact ⟨o, es, ep, t, k o ho, r⟩
theorem SkR.congr {S' : Key → Bool} (R : SkR w h a S n) (e : ∀ k, S' k = S k) : SkR w h a S' n := by
  have : S' = S := funext e
  rw [this]
  exact R
theorem gdK_elems {l : List (Int × Value)} (g : ∀ e ∈ l, GdK w e) : ElemsOf (mixKind P w) l := fun e he =>
  ⟨⟨keyV e, (g e he).1, (g e he).2⟩, scanK (g e he).1⟩
theorem gdK_is {e : Int × Value} (g : GdK w e) (k : Key) : (mixKind P w).is k e.2 = true ↔ keyV e = k := by
  constructor
  · intro hk
    exact (mixKind P w).inj e.2 _ _ g.1 hk
  · rintro rfl
    exact g.1
theorem gdK_mem {l : List (Int × Value)} (g : ∀ e ∈ l, GdK w e) (k : Key) : k ∈ l.map keyV ↔ ∃ e ∈ l, (mixKind P w).is k e.2 = true := by
  rw [List.mem_map]
  constructor
  · rintro ⟨e, he, q⟩
    exact ⟨e, he, (gdK_is (g e he) k).2 q⟩
  · rintro ⟨e, he, q⟩
    exact ⟨e, he, (gdK_is (g e he) k).1 q⟩
end
section
variable {P : Program} {w : World} {A : Around} {E : Value → Shared → Prop} {s : Shared} {a : Addr} {S : Key → Bool} {n : Nat}
theorem skR_tail {gv : Bool → Sem Unit} (hgv : ∀ (b : Bool) (s₁ : Shared) (Q' : Unit → Shared → Prop), Q' () s₁ → wpAny (model P w) A (gv b) Q' E s₁)
    {o : Obj} {es : Array (Int × Value)} {ep : Nat} {t : SetTable} (ho : s.heap.get? a = some o) (hex : o.ExactSet) (hd : o.data = .set es ep t)
    {fs : Array (Int × Value)} {u : SetTable} {S' : Key → Bool} (g1 : ∀ e ∈ fs.toList, GdK w e) (nd1 : (fs.toList.map keyV).Nodup) (m1 : ∀ k, S' k = true ↔ k ∈ fs.toList.map keyV)
    (hb1 : fs.size < scanBound) (hf2 : u.fits fs.size = true) (hr : Ris u.place.toList) (hl : w.params.followText "set-order" = true ∨ u.led = true) {dm : Bool} {R : Option Bool → Shared → Prop}
    (hR : ∀ h', Heap.SameBut a s.heap h' → SkR w h' a S' fs.size → R (some true) { s with heap := h' }) :
    wpAny (model P w) A (do
        storeSet a fs u
        if (!dm && u.tooFull) = true then do
            gv (relayAll u fs (SetTable.grown fs.size)).2.2
            storeSet a (relayAll u fs (SetTable.grown fs.size)).1 (relayAll u fs (SetTable.grown fs.size)).2.1
            pure (some true)
          else pure (some true)) R E s := by
  refine wpAny_bind (wpAny_storeSet_of ho hd ?_ (fits_of_scanBound hb1))
  have o1 := store_at (es' := fs) (t' := u) ho hd
  have b1 := Heap.SameBut.update s.heap a (Obj.putSet fs u)
  split
  · have pm := relayAll_perm u fs (SetTable.grown fs.size)
    have f3 := relayAll_fits u fs (SetTable.grown fs.size)
    have r3 := relayAll_ris u fs (SetTable.grown fs.size)
    have l3 := relayAll_led u fs (SetTable.grown fs.size)
    generalize relayAll u fs (SetTable.grown fs.size) = Z at pm f3 r3 l3 ⊢
    obtain ⟨gs, u3, gave⟩ := Z
    dsimp only at pm f3 r3 l3 ⊢
    have sz : gs.size = fs.size := by rw [← Array.length_toList, pm.length_eq, Array.length_toList]
    have hb2 : gs.size < scanBound := by rw [sz]; exact hb1
    refine wpAny_bind (hgv _ _ _ ?_)
    refine wpAny_bind (wpAny_storeSet_of o1 rfl ?_ (fits_of_scanBound hb2))
    have o2 := store_at (es' := gs) (t' := u3) o1 rfl
    refine wpAny_pure (hR _ (b1.trans (Heap.SameBut.update _ a _)) ?_)
    exact ⟨_, gs, _, u3, o2, hex, rfl, fun e he => g1 e (pm.mem_iff.mp he), (pm.map keyV).nodup_iff.mpr nd1, fun k => (m1 k).trans (pm.map keyV).mem_iff.symm, hb2, f3, sz, r3,
      hl.imp id fun z => by rw [l3]; exact z⟩
  · exact wpAny_pure (hR _ b1 ⟨_, fs, _, u, o1, hex, rfl, g1, nd1, m1, hb1, hf2, rfl, hr, hl⟩)
theorem skR_add {k : Key} {v : Value} {Q : Bool → Shared → Prop} (hkey : keyIs k v = true) (R : SkR w s.heap a S n) (room : n + 1 < scanBound)
    (hQ : ∀ h', Heap.SameBut a s.heap h' → SkR w h' a (fun j => S j || decide (j = k)) (if S k = true then n else n + 1) → Q (!S k) { s with heap := h' }) :
    wpAny (model P w) A (setAddHashed a v ((mixKind P w).hash k)) Q E s := by
  obtain ⟨o, es, ep, t, ho, hex, hd, g, nd, hm, hb, hf, hn, hr, hl⟩ := R
  have hki : (mixKind P w).is k v = true := hkey
  have hsc := scanK hkey
  have hel : ElemsOf (mixKind P w) es.toList := gdK_elems g
  unfold setAddHashed setAddHashedIn
  refine wpAny_holding (wpAny_bind (wpAny_setState_of ho hd hf ?_))
  dsimp only
  rw [byScan_of hsc hb hel]
  simp only [↓reduceIte]
  unfold setAddByScan
  refine wpAny_bind ?_
  refine wpAny_bind (wpAny_rule ?_)
  refine wpAny_bind (wpAny_setScan_of hki ho hd hf hel ?_)
  cases hfi : List.findIdx? (fun e => (mixKind P w).is k e.2) es.toList with
  | some j =>
    dsimp only
    obtain ⟨hj, pj, _⟩ := List.findIdx?_eq_some_iff_getElem.mp hfi
    have hSk : S k = true := (hm k).2 ((gdK_mem (P := P) g k).2 ⟨es.toList[j], List.getElem_mem hj, pj⟩)
    refine wpAny_pure (wpAny_pure ?_)
    have q := hQ s.heap (Heap.SameBut.refl a s.heap) ⟨o, es, ep, t, ho, hex, hd, g, nd, fun i => by
      rw [Bool.or_eq_true, decide_eq_true_eq, ← hm i]
      exact ⟨fun z => z.elim id (fun e => e ▸ hSk), .inl⟩, hb, hf, by rw [if_pos hSk]; exact hn, hr, hl⟩
    rw [hSk] at q
    exact q
  | none =>
    dsimp only
    have hnk : k ∉ es.toList.map keyV := fun z => by
      obtain ⟨e, he, q⟩ := (gdK_mem (P := P) g k).1 z
      have c := List.findIdx?_eq_none_iff.mp hfi e he
      rw [q] at c
      cases c
    have hSk : S k = false := by
      cases q : S k with
      | false => rfl
      | true => exact absurd ((hm k).1 q) hnk
    have hgw : ∀ (b : Bool) {s₁ : Shared} {Q' : Unit → Shared → Prop}, Q' () s₁ → wpAny (model P w) A (match b with | true => rule "set.scan.the-table-gave-way" | false => pure ()) Q' E s₁ :=
      fun b s₁ Q' q => by cases b <;> first | exact wpAny_pure q | exact wpAny_rule q
    have pm := layNew_perm t es ((mixKind P w).hash k) v
    have f1 := layNew_fits t es ((mixKind P w).hash k) v
    have r1 := layNew_ris t es ((mixKind P w).hash k) v hr
    have l1 := layNew_led t es ((mixKind P w).hash k) v
    generalize layNew t es ((mixKind P w).hash k) v = Z at pm f1 r1 l1 ⊢
    obtain ⟨fs, u, dm, gave⟩ := Z
    dsimp only at pm f1 r1 l1 ⊢
    rw [Array.toList_push] at pm
    have pc : fs.toList.Perm (((mixKind P w).hash k, v) :: es.toList) := pm.trans (List.perm_append_singleton _ _)
    have kv : keyV ((mixKind P w).hash k, v) = k := keyV_of hkey
    have pk : (fs.toList.map keyV).Perm (k :: es.toList.map keyV) := by
      have := pc.map keyV
      rw [List.map_cons, kv] at this
      exact this
    have g1 : ∀ e ∈ fs.toList, GdK w e := fun e he => by
      rcases List.mem_cons.mp (pc.mem_iff.mp he) with z | z
      · rw [z]
        refine ⟨?_, ?_⟩
        · rw [kv]; exact hkey
        · rw [kv]; rfl
      · exact g e z
    have nd1 : (fs.toList.map keyV).Nodup := pk.nodup_iff.mpr (List.nodup_cons.mpr ⟨hnk, nd⟩)
    have m1 : ∀ i, (S i || decide (i = k)) = true ↔ i ∈ fs.toList.map keyV := fun i => by
      rw [Bool.or_eq_true, decide_eq_true_eq, hm i, pk.mem_iff, List.mem_cons]
      exact Or.comm
    have sz : fs.size = n + 1 := by rw [← Array.length_toList, pc.length_eq, List.length_cons, Array.length_toList, hn]
    have hb1 : fs.size < scanBound := by rw [sz]; exact room
    have hled : w.params.followText "set-order" = true ∨ u.led = true := hl.imp id fun z => by rw [l1]; exact z
    have fin : ∀ h', Heap.SameBut a s.heap h' → SkR w h' a (fun j => S j || decide (j = k)) fs.size → Q true { s with heap := h' } := fun h' sb r => by
      have q := hQ h' sb
      rw [hSk] at q
      rw [sz] at r
      exact q r
    refine wpAny_bind (hgw _ ?_)
    split
    · refine wpAny_bind ?_
      rw [hashByValue_scannable 8 hsc]
      refine wpAny_pure ?_
      refine skR_tail ?_ ho hex hd g1 nd1 m1 hb1 ?_ ?_ ?_ ?_
      · intro b s₁ Q' q; cases b <;> first | exact wpAny_pure q | exact wpAny_rule q
      · first | (split <;> first | exact f1 | exact SetTable.fits_plain_off f1) | exact f1
      · first | (split <;> exact r1) | exact r1
      · first | (split <;> exact hled) | exact hled
      · intro h' sb r; dsimp only; exact wpAny_pure (fin h' sb r)
    · refine wpAny_bind (wpAny_pure ?_)
      simp only [↓reduceIte]
      refine skR_tail ?_ ho hex hd g1 nd1 m1 hb1 f1 r1 hled ?_
      · intro b s₁ Q' q; cases b <;> first | exact wpAny_pure q | exact wpAny_rule q
      · intro h' sb r; dsimp only; exact wpAny_pure (fin h' sb r)
end
end KN

set_option maxRecDepth 100000
set_option maxHeartbeats 4000000
namespace KN
open PySem PySem.Spec L2 PyProof.Rows
def inKs (ks : List Key) (j : Key) : Bool := ks.any fun y => decide (y = j)
theorem inKs_iff {ks : List Key} {j : Key} : inKs ks j = true ↔ j ∈ ks := by
  unfold inKs
  rw [List.any_eq_true]
  exact ⟨fun ⟨y, h, e⟩ => (of_decide_eq_true e) ▸ h, fun h => ⟨j, h, decide_eq_true rfl⟩⟩
theorem inKs_add {ks : List Key} {i : Nat} {k j : Key} (hk : ks[i]? = some k) : inKs (ks.take (i + 1)) j = (inKs (ks.take i) j || decide (j = k)) := by
  rw [Bool.eq_iff_iff, Bool.or_eq_true, inKs_iff, inKs_iff, List.take_add_one, hk, decide_eq_true_eq]
  simp
/-- a set as it is made -/
abbrev nset (w : World) : Obj := { cls := .type "set", dict := none, data := .set #[] 0 (.fresh 0 0 (!w.params.followText "set-order")) }
theorem skR_nil {w : World} {h : Heap} {a : Addr} (ho : h.get? a = some (nset w)) : SkR w h a (fun _ => false) 0 :=
  ⟨_, #[], 0, _, ho, ⟨rfl, rfl, rfl⟩, rfl, (fun e he => by simp at he), (by simp), (fun k => by simp), (by decide), (by rfl), rfl, List.Pairwise.nil, by
    show _ ∨ (!w.params.followText "set-order") = true
    cases w.params.followText "set-order"
    · exact .inr rfl
    · exact .inl rfl⟩
section
variable {P : Program} {w : World} {A : Around} {E : Value → Shared → Prop} {s : Shared}
/-- what the items are: keys, one by one -/
def KeysAre (vs : List Value) (ks : List Key) : Prop := vs.length = ks.length ∧ ∀ (i : Nat) (v : Value), vs[i]? = some v → ∃ k, ks[i]? = some k ∧ keyIs k v = true
theorem upd_keys {I : Addr} {fp wr : List Addr} {G : Array GenState → Array GenState → Prop} {n : Nat} {Pv : Nat → Value → Prop} {St : Nat → Shared → Prop} {R : Result → Shared → Prop}
    (W : WalksS P w A.in1 I fp wr G n Pv St) (Z : Addr) (hZ : Z ∉ fp) (ks : List Key) (hn : n = ks.length) (hb : ks.length + 1 < scanBound) (hval : ∀ i v, Pv i v → ∃ k, ks[i]? = some k ∧ keyIs k v = true) :
    ∀ (m i : Nat) (s : Shared), n - i = m → i ≤ n → St i s → (∃ c, c ≤ i ∧ SkR w s.heap Z (inKs (ks.take i)) c) →
      (∀ s' c, Moved (Z :: wr) G s s' → c ≤ n → SkR w s'.heap Z (inKs ks) c → R (.ok (.ret .none)) s') →
      codeAny (model P w) A (.builtin "set.update.loop" ⟨[.ref Z, .ref I], []⟩) R s := by
  have hZw : Z ∉ wr := fun h => hZ (W.sub _ h)
  have sub1 : ∀ b ∈ wr, b ∈ Z :: wr := fun b hb => List.mem_cons_of_mem _ hb
  intro m
  induction m with
  | zero =>
    intro i s hm hi st ⟨c, hc, hS⟩ hR
    obtain rfl : i = n := by omega
    refine codeAny_builtin F.entry_set_update_loop ?_
    rw [Around.under_plainId F.plain_set_update_loop _]
    show wpAny _ A.in1 (pyNext (.ref I) >>= _) _ _ s
    refine wpAny_bind (W.done s _ _ st fun s' mv => ?_)
    show wpAny _ A.in1 (ret Value.none) _ _ s'
    rw [List.take_of_length_le (show ks.length ≤ i by omega)] at hS
    exact wpAny_pure (hR s' c (mv.mono sub1) hc (hS.at fun o e => mv.heap Z o hZw e))
  | succ m ih =>
    intro i s hm hi st ⟨c, hc, hS⟩ hR
    have lt : i < n := by omega
    refine codeAny_builtin F.entry_set_update_loop ?_
    rw [Around.under_plainId F.plain_set_update_loop _]
    show wpAny _ A.in1 (pyNext (.ref I) >>= _) _ _ s
    refine wpAny_bind (W.item i s _ _ lt st fun v s' hP st' mv => ?_)
    obtain ⟨k, hk, hkv⟩ := hval i v hP
    have hS' : SkR w s'.heap Z (inKs (ks.take i)) c := hS.at fun o e => mv.heap Z o hZw e
    have hscn := scanK hkv
    show wpAny _ A.in1 (holding [v] (setAdd Z v) >>= _) _ _ s'
    refine wpAny_bind (wpAny_holding ?_)
    unfold setAdd
    refine wpAny_holding ?_
    refine wpAny_bind ((mixKind P w).pyHash (k := k) hkv ?_)
    refine skR_add (s := { s' with toks := s'.toks + 1 }) hkv hS' (by omega) fun h' sb hS2 => ?_
    have hS3 : SkR w h' Z (inKs (ks.take (i + 1))) (if inKs (ks.take i) k = true then c else c + 1) := hS2.congr fun j => inKs_add hk
    have hc3 : (if inKs (ks.take i) k = true then c else c + 1) ≤ i + 1 := by
      split <;> omega
    refine wpAny_pure ⟨plainId_quiet F.plain_set_update_loop _, ih (i + 1) _ (by omega) lt (W.frame _ s' _ _ st' (Nat.le_succ _) fun b hb o e => ?_) ⟨_, hc3, hS3⟩ fun s2 c2 m2 h2 r2 => ?_⟩
    · exact (sb.2 b (fun h : b = Z => hZ (by rw [← h]; exact hb))).trans e
    · refine hR s2 c2 (Moved.trans W.gtrans ((mv.mono sub1).then_heap (Nat.le_succ _) fun b o hb e => ?_) m2) h2 r2
      exact (sb.2 b (fun h : b = Z => hb (by rw [h]; exact List.mem_cons_self))).trans e
theorem set_of_list {l : Addr} {items : Array Value} (ks : List Key) {Q : Value → Shared → Prop} (hh : A.handled = none) (hl : s.heap.IsList l items) (hit : KeysAre items.toList ks) (hb : ks.length + 1 < scanBound)
    (h : ∀ (h' : Heap) (tk c : Nat), SkR w h' s.heap.objs.size (inKs ks) c → c ≤ ks.length → (∀ b o, s.heap.get? b = some o → h'.get? b = some o) → Q (.ref s.heap.objs.size) { s with heap := h', toks := tk }) :
    wpAny (model P w) A (call (.type "set") [.ref l]) Q E s := by
  have isz : items.size = ks.length := by rw [← hit.1, Array.length_toList]
  obtain ⟨c, tl, hmro⟩ := F.called_set.mro
  have hmade := F.called_set.made
  have hsub := F.called_set.sub
  refine wpAny_call (codeAny_of_tree ?_)
  show wpAny _ _ (callAny (.type "set") _) _ _ _
  refine wpAny_pure ⟨Code.quiet_builtin _ (by decide +kernel), codeAny_builtin F.entry_type_call ?_⟩
  rw [Around.under_plain (weight_type_call_type "set" [.ref l] []) rfl]
  have h1 := F.called_set.notType
  have h2 := F.called_set.canCreate
  have hct := F.typeCall_set_1 (.ref l)
  repeat (any_goals (first | assumption | wp_step))
  refine codeAny_mono (code_set_led1 (.ref l) (E := E) (Q₁ := fun obj s₁ => obj = .ref s.heap.objs.size ∧ s₁ = { s with heap := s.heap.push (nset w) }) ⟨rfl, rfl⟩) fun r s₁ hr => ?_
  cases r with
  | error e => exact hr
  | ok fl =>
    cases fl with
    | ret obj =>
      obtain ⟨rfl, rfl⟩ := hr
      have at0 : (s.heap.push (nset w)).get? s.heap.objs.size = some (nset w) := Heap.get?_push_size _ rfl
      have hT : Shared.TypeIs { s with heap := s.heap.push (nset w) } (.ref s.heap.objs.size) "set" := ⟨_, at0, rfl⟩
      have hli := F.called_set.init.lookup
      have hbi := F.called_set.init.bind (.ref s.heap.objs.size)
      repeat (any_goals (first | assumption | wp_step))
      refine codeAny_mono (codeAny_call_builtin (R := wants (fun r s₂ => r = .none ∧ ∃ h' tk c, s₂ = { s with heap := h', toks := tk } ∧ SkR w h' s.heap.objs.size (inKs ks) c ∧ c ≤ ks.length ∧
          (∀ b o, s.heap.get? b = some o → h'.get? b = some o)) E) F.called_set.init.plain F.entry_set_init (check_set_init_1 hT ?_)) fun r₂ s₂ hr₂ => ?_
      · obtain ⟨ol, hol, hcl, nl, hdl⟩ := hl
        obtain ⟨ocls, odict, odata, oslots⟩ := ol
        simp only at hcl hdl
        subst hcl
        subst hdl
        have at1 : (s.heap.push (nset w)).get? l = some { cls := .type "list", dict := odict, data := .seq items nl, slots := oslots } := Heap.get?_push_of_some _ hol
        have n1 := F.sub_list_set
        have n2 := F.sub_list_frozenset
        have n3 : (Value.type "list" == Value.type "dict") = false := by decide
        have is1 : (s.heap.push (nset w)).IsList l items := ⟨_, at1, rfl, nl, rfl⟩
        unfold Builtin.«set.__init__» noKeywords Builtin.Frozenset.updateFrom
        generalize hPI : pyIter = PI
        wp_walk
        subst hPI
        refine wpAny_pyIter_list is1 ?_
        refine wpAny_bind (wpAny_runValue ?_)
        have lt0 : l < s.heap.objs.size := Heap.lt_size hol
        have hh3 : A.in1.in1.in1.handled = none := by simp [hh]
        have ne1 : l ≠ (s.heap.push (nset w)).objs.size := by
          rw [Heap.size_push]
          exact Nat.ne_of_lt (Nat.lt_succ_of_lt lt0)
        have out1 : s.heap.objs.size ∉ [(s.heap.push (nset w)).objs.size, l] := by
          rw [Heap.size_push]
          simp only [List.mem_cons, List.mem_singleton, List.not_mem_nil, or_false, not_or]
          exact ⟨Nat.ne_of_lt (Nat.lt_succ_self _), Nat.ne_of_gt lt0⟩
        have hval : ∀ (i : Nat) (v : Value), items[i]? = some v → ∃ k, ks[i]? = some k ∧ keyIs k v = true := fun i v hv => hit.2 i v (by rw [Array.getElem?_toList]; exact hv)
        refine upd_keys ((Walks.list hh3 _ l ne1 items).toS) s.heap.objs.size out1 ks isz hb hval (items.size - 0) 0 _ (by omega) (Nat.zero_le _) ⟨⟨_, Heap.get?_push_size _ rfl, rfl, rfl⟩, (is1.push _)⟩ ?hS0 ?hR
        case hS0 =>
          have at2 : ((s.heap.push (nset w)).push { cls := .type "list_iterator", data := .fields #[.ref l, .int 0 0] }).get? s.heap.objs.size = some (nset w) := Heap.get?_push_of_some _ at0
          exact ⟨0, Nat.le_refl 0, (skR_nil at2).congr fun k => by rw [List.take_zero]; rfl⟩
        case hR =>
          intro s' c' mv hc' hS'
          obtain ⟨h', g2, d', tk', os'⟩ := s'
          have eg : g2 = s.gens := mv.gens
          have ed : d' = s.drawn := mv.drawn
          have eo : os' = s.os := mv.os
          subst eg
          subst ed
          subst eo
          show wpAny _ _ _ _ _ _
          refine wpAny_pure ?_
          show wpAny _ _ (ret Value.none) _ _ _
          rw [isz] at hc'
          refine wpAny_pure ⟨rfl, h', tk', c', rfl, hS', hc', fun b o e => ?_⟩
          have b0 : b < s.heap.objs.size := Heap.lt_size e
          have b2 : b ≠ (s.heap.push (nset w)).objs.size := by
            rw [Heap.size_push]
            exact Nat.ne_of_lt (Nat.lt_succ_of_lt b0)
          exact mv.heap b o (by simp only [List.mem_cons, List.mem_singleton, List.not_mem_nil, or_false, not_or]; exact ⟨Nat.ne_of_lt b0, b2⟩) (Heap.get?_push_of_some _ (Heap.get?_push_of_some _ e))
      · cases r₂ with
        | error e => exact hr₂
        | ok fl₂ =>
          cases fl₂ with
          | ret r =>
            obtain ⟨rfl, h', tk, c', rfl, hS', hc', hk'⟩ := hr₂
            repeat (any_goals (first | assumption | wp_step))
            exact h _ _ _ hS' hc' hk'
          | _ => exact hr₂.elim
    | _ => exact hr.elim
theorem set_of_tuple {l : Addr} {items : Array Value} (ks : List Key) {Q : Value → Shared → Prop} (hh : A.handled = none) (hl : s.heap.IsTuple l items) (hit : KeysAre items.toList ks) (hb : ks.length + 1 < scanBound)
    (h : ∀ (h' : Heap) (tk c : Nat), SkR w h' s.heap.objs.size (inKs ks) c → c ≤ ks.length → (∀ b o, s.heap.get? b = some o → h'.get? b = some o) → Q (.ref s.heap.objs.size) { s with heap := h', toks := tk }) :
    wpAny (model P w) A (call (.type "set") [.ref l]) Q E s := by
  have isz : items.size = ks.length := by rw [← hit.1, Array.length_toList]
  obtain ⟨c, tl, hmro⟩ := F.called_set.mro
  have hmade := F.called_set.made
  have hsub := F.called_set.sub
  refine wpAny_call (codeAny_of_tree ?_)
  show wpAny _ _ (callAny (.type "set") _) _ _ _
  refine wpAny_pure ⟨Code.quiet_builtin _ (by decide +kernel), codeAny_builtin F.entry_type_call ?_⟩
  rw [Around.under_plain (weight_type_call_type "set" [.ref l] []) rfl]
  have h1 := F.called_set.notType
  have h2 := F.called_set.canCreate
  have hct := F.typeCall_set_1 (.ref l)
  repeat (any_goals (first | assumption | wp_step))
  refine codeAny_mono (code_set_led1 (.ref l) (E := E) (Q₁ := fun obj s₁ => obj = .ref s.heap.objs.size ∧ s₁ = { s with heap := s.heap.push (nset w) }) ⟨rfl, rfl⟩) fun r s₁ hr => ?_
  cases r with
  | error e => exact hr
  | ok fl =>
    cases fl with
    | ret obj =>
      obtain ⟨rfl, rfl⟩ := hr
      have at0 : (s.heap.push (nset w)).get? s.heap.objs.size = some (nset w) := Heap.get?_push_size _ rfl
      have hT : Shared.TypeIs { s with heap := s.heap.push (nset w) } (.ref s.heap.objs.size) "set" := ⟨_, at0, rfl⟩
      have hli := F.called_set.init.lookup
      have hbi := F.called_set.init.bind (.ref s.heap.objs.size)
      repeat (any_goals (first | assumption | wp_step))
      refine codeAny_mono (codeAny_call_builtin (R := wants (fun r s₂ => r = .none ∧ ∃ h' tk c, s₂ = { s with heap := h', toks := tk } ∧ SkR w h' s.heap.objs.size (inKs ks) c ∧ c ≤ ks.length ∧
          (∀ b o, s.heap.get? b = some o → h'.get? b = some o)) E) F.called_set.init.plain F.entry_set_init (check_set_init_1 hT ?_)) fun r₂ s₂ hr₂ => ?_
      · obtain ⟨ol, hol, hcl, nl, hdl⟩ := hl
        obtain ⟨ocls, odict, odata, oslots⟩ := ol
        simp only at hcl hdl
        subst hcl
        subst hdl
        have at1 : (s.heap.push (nset w)).get? l = some { cls := .type "tuple", dict := odict, data := .seq items nl, slots := oslots } := Heap.get?_push_of_some _ hol
        have n1 := F.sub_tuple_set
        have n2 := F.sub_tuple_frozenset
        have n3 : (Value.type "tuple" == Value.type "dict") = false := by decide
        have is1 : (s.heap.push (nset w)).IsTuple l items := ⟨_, at1, rfl, nl, rfl⟩
        unfold Builtin.«set.__init__» noKeywords Builtin.Frozenset.updateFrom
        generalize hPI : pyIter = PI
        wp_walk
        subst hPI
        refine wpAny_pyIter_tuple is1 ?_
        refine wpAny_bind (wpAny_runValue ?_)
        have lt0 : l < s.heap.objs.size := Heap.lt_size hol
        have hh3 : A.in1.in1.in1.handled = none := by simp [hh]
        have ne1 : l ≠ (s.heap.push (nset w)).objs.size := by
          rw [Heap.size_push]
          exact Nat.ne_of_lt (Nat.lt_succ_of_lt lt0)
        have out1 : s.heap.objs.size ∉ [(s.heap.push (nset w)).objs.size, l] := by
          rw [Heap.size_push]
          simp only [List.mem_cons, List.mem_singleton, List.not_mem_nil, or_false, not_or]
          exact ⟨Nat.ne_of_lt (Nat.lt_succ_self _), Nat.ne_of_gt lt0⟩
        have hval : ∀ (i : Nat) (v : Value), items[i]? = some v → ∃ k, ks[i]? = some k ∧ keyIs k v = true := fun i v hv => hit.2 i v (by rw [Array.getElem?_toList]; exact hv)
        refine upd_keys ((Walks.tuple hh3 _ l ne1 items).toS) s.heap.objs.size out1 ks isz hb hval (items.size - 0) 0 _ (by omega) (Nat.zero_le _) ⟨⟨_, Heap.get?_push_size _ rfl, rfl, rfl⟩, (is1.push _)⟩ ?hS0 ?hR
        case hS0 =>
          have at2 : ((s.heap.push (nset w)).push { cls := .type "tuple_iterator", data := .fields #[.ref l, .int 0 0] }).get? s.heap.objs.size = some (nset w) := Heap.get?_push_of_some _ at0
          exact ⟨0, Nat.le_refl 0, (skR_nil at2).congr fun k => by rw [List.take_zero]; rfl⟩
        case hR =>
          intro s' c' mv hc' hS'
          obtain ⟨h', g2, d', tk', os'⟩ := s'
          have eg : g2 = s.gens := mv.gens
          have ed : d' = s.drawn := mv.drawn
          have eo : os' = s.os := mv.os
          subst eg
          subst ed
          subst eo
          show wpAny _ _ _ _ _ _
          refine wpAny_pure ?_
          show wpAny _ _ (ret Value.none) _ _ _
          rw [isz] at hc'
          refine wpAny_pure ⟨rfl, h', tk', c', rfl, hS', hc', fun b o e => ?_⟩
          have b0 : b < s.heap.objs.size := Heap.lt_size e
          have b2 : b ≠ (s.heap.push (nset w)).objs.size := by
            rw [Heap.size_push]
            exact Nat.ne_of_lt (Nat.lt_succ_of_lt b0)
          exact mv.heap b o (by simp only [List.mem_cons, List.mem_singleton, List.not_mem_nil, or_false, not_or]; exact ⟨Nat.ne_of_lt b0, b2⟩) (Heap.get?_push_of_some _ (Heap.get?_push_of_some _ e))
      · cases r₂ with
        | error e => exact hr₂
        | ok fl₂ =>
          cases fl₂ with
          | ret r =>
            obtain ⟨rfl, h', tk, c', rfl, hS', hc', hk'⟩ := hr₂
            repeat (any_goals (first | assumption | wp_step))
            exact h _ _ _ hS' hc' hk'
          | _ => exact hr₂.elim
    | _ => exact hr.elim
end
end KN

set_option maxRecDepth 100000
set_option maxHeartbeats 4000000
namespace KN
open PySem PySem.Spec L2 PyProof.Rows
/-! ### sorted(set) -/
theorem keysAre_strs : ∀ {us : List Value} {xs : List Str}, Vals (xs.map V.str) us → KeysAre us (xs.map Sum.inr) := fun {us xs} h => by
  refine ⟨by rw [List.length_map, ← h.length, List.length_map], fun i v e => ?_⟩
  induction xs generalizing us i with
  | nil => cases h; simp at e
  | cons x r ih =>
    cases h with
    | cons a t =>
      obtain ⟨k, rfl⟩ := a
      cases i with
      | zero =>
        simp only [List.getElem?_cons_zero, Option.some.injEq] at e
        subst e
        exact ⟨.inr x, rfl, keyIs_str x k⟩
      | succ i => exact ih t i (by simpa using e)
theorem keysAre_ints : ∀ {us : List Value} {xs : List Int}, Vals (xs.map V.int) us → KeysAre us (xs.map Sum.inl) := fun {us xs} h => by
  refine ⟨by rw [List.length_map, ← h.length, List.length_map], fun i v e => ?_⟩
  induction xs generalizing us i with
  | nil => cases h; simp at e
  | cons x r ih =>
    cases h with
    | cons a t =>
      obtain ⟨k, rfl⟩ := a
      cases i with
      | zero =>
        simp only [List.getElem?_cons_zero, Option.some.injEq] at e
        subst e
        exact ⟨.inl x, rfl, keyIs_int x k⟩
      | succ i => exact ih t i (by simpa using e)
theorem strs_out : ∀ (vs : List Value) (ks : List Key) , vs.map (fun v => keyV (0, v)) = ks → (∀ v ∈ vs, ∃ x t, v = Value.str x t) → ∃ ys : List Str, StrsAre vs ys ∧ ks = ys.map Sum.inr
  | [], ks, e, _ => ⟨[], .nil, e.symm⟩
  | v :: r, ks, e, h => by
    obtain ⟨x, t, rfl⟩ := h v List.mem_cons_self
    obtain ⟨ys, h1, h2⟩ := strs_out r _ rfl fun u hu => h u (List.mem_cons_of_mem _ hu)
    refine ⟨x :: ys, .cons x t h1, ?_⟩
    rw [← e, List.map_cons, h2]
    rfl
theorem ints_out : ∀ (vs : List Value) (ks : List Key) , vs.map (fun v => keyV (0, v)) = ks → (∀ v ∈ vs, ∃ x t, v = Value.int x t) → ∃ ys : List Int, IntsAre vs ys ∧ ks = ys.map Sum.inl
  | [], ks, e, _ => ⟨[], .nil, e.symm⟩
  | v :: r, ks, e, h => by
    obtain ⟨x, t, rfl⟩ := h v List.mem_cons_self
    obtain ⟨ys, h1, h2⟩ := ints_out r _ rfl fun u hu => h u (List.mem_cons_of_mem _ hu)
    refine ⟨x :: ys, .cons x t h1, ?_⟩
    rw [← e, List.map_cons, h2]
    rfl
theorem keyV_snd (e : Int × Value) : keyV e = keyV (0, e.2) := rfl
section
variable {P : Program} {w : World} {A : Around} {E : Value → Shared → Prop} {s : Shared} {a : Addr} {n : Nat}
theorem sorted_texts {xs : List Str} {Q : Value → Shared → Prop} (R : SkR w s.heap a (inKs (xs.map Sum.inr)) n) (hh : A.handled = none) (h64 : n < 64)
    (hQ : ∀ s' p (out : Array Value) (c : Nat) (ys : List Str), (∀ b o, s.heap.get? b = some o → s'.heap.get? b = some o) → s'.gens = s.gens → s'.os = s.os → s.heap.objs.size ≤ p →
      s'.heap.get? p = some (seqObj "list" out c) → StrsAre out.toList ys → sortedS ys = true → ys.Nodup → (∀ x, x ∈ ys ↔ x ∈ xs) → ys.length = n → Q (.ref p) s') :
    wpAny (model P w) A (call (.builtin "sorted") [.ref a]) Q E s := by
  obtain ⟨o, es, ep, t, ho, hex, hd, g, nd, hm, hb, hf, hn, hr, hl⟩ := R
  refine Calls.call_function_entry kind_sorted plain_sorted entry_sorted (args_sorted1 _) ?_
  unfold Builtin.«sorted»
  refine wpAny_bind (m := checkCount "sorted" 1 1 _) (wpAny_pure ?_)
  refine wpAny_bind (collect_set (A := A.in1) hh ⟨o, ho, hex.1, hd⟩ hf hb hr hl fun s1 vs k1 hz g1 o1 pm => ?_)
  have len1 : vs.length = n := by rw [pm.length_eq, List.length_map, Array.length_toList]; exact hn
  have pk : (vs.map fun v => keyV (0, v)).Perm (es.toList.map keyV) := by
    have q := pm.map fun v => keyV (0, v)
    rw [List.map_map] at q
    exact q
  obtain ⟨ys0, hS, ek⟩ := strs_out vs _ rfl fun v hv => by
    obtain ⟨e, he, rfl⟩ := List.mem_map.mp (pm.mem_iff.mp hv)
    have m1 : keyV e ∈ es.toList.map keyV := List.mem_map_of_mem he
    have m2 := inKs_iff.1 ((hm _).2 m1)
    obtain ⟨x, _, ex⟩ := List.mem_map.mp m2
    rcases keyIs_shape (g e he).1 with ⟨i, tk, e1, e2⟩ | ⟨y, tk, e1, e2⟩
    · rw [e1] at ex; cases ex
    · exact ⟨y, tk, e2⟩
  refine wpAny_bind (wpAny_newList ?_ (by rw [len1, sizeLine_eq]; omega))
  have hoL : (s1.heap.push (seqObj "list" vs.toArray 0)).get? s1.heap.objs.size = some (seqObj "list" vs.toArray 0) := Heap.get?_push_size _ rfl
  refine wpAny_bind (wpAny_holding (wpAny_call_entry slot_list_sort ⟨_, hoL, rfl⟩ entry_list_sort
    (list_sort_treeK strKind_oneLt (s := { s1 with heap := s1.heap.push (seqObj "list" vs.toArray 0) }) hoL hS.keysOf (fun v₁ v₂ rest e => keyKind_strs (by rw [← e]; exact hS)) (by rw [len1]; exact h64) fun st' hp hs => ⟨_, rfl, ?_⟩) (args_list_sort _)))
  obtain ⟨ys, q1, q2, q3⟩ := sorted_out_str hS hp hs
  obtain ⟨c, hc⟩ := sortedHeap_at (vs := vs) (out := (arrOf st').map (·.2)) hoL
  have pn : (ys.map Sum.inr : List Key).Perm (es.toList.map keyV) := ((q2.map Sum.inr).trans (by rw [← ek])).trans pk
  have ndy : ys.Nodup := by
    have := pn.nodup_iff.mpr nd
    exact (List.pairwise_map.1 this).imp fun h e => h (by rw [e])
  refine wpAny_pure ⟨_, rfl, hQ _ s1.heap.objs.size _ c ys (fun b u e => ?_) g1 o1 hz hc q1 q3 ndy (fun x => ?_) ?_⟩
  · have q := k1 b u e
    have hlt := Heap.lt_size q
    rw [sortedHeap_old (Nat.ne_of_lt hlt) (by rw [size_push']; exact Nat.lt_succ_of_lt hlt)]
    exact Heap.get?_push_of_some _ q
  · have e1 : (Sum.inr x : Key) ∈ ys.map Sum.inr ↔ x ∈ ys := by simp
    have e2 : (Sum.inr x : Key) ∈ xs.map Sum.inr ↔ x ∈ xs := by simp
    rw [← e1, ← e2, pn.mem_iff, ← hm, inKs_iff]
  · have := pn.length_eq
    rw [List.length_map, List.length_map] at this
    exact this.trans (Array.length_toList.trans hn)
theorem sorted_nums {xs : List Int} {Q : Value → Shared → Prop} (R : SkR w s.heap a (inKs (xs.map Sum.inl)) n) (hh : A.handled = none) (h64 : n < 64)
    (hQ : ∀ s' p (out : Array Value) (c : Nat) (ys : List Int), (∀ b o, s.heap.get? b = some o → s'.heap.get? b = some o) → s'.gens = s.gens → s'.os = s.os → s.heap.objs.size ≤ p →
      s'.heap.get? p = some (seqObj "list" out c) → IntsAre out.toList ys → ys.Pairwise (· ≤ ·) → ys.Nodup → (∀ x, x ∈ ys ↔ x ∈ xs) → ys.length = n → Q (.ref p) s') :
    wpAny (model P w) A (call (.builtin "sorted") [.ref a]) Q E s := by
  obtain ⟨o, es, ep, t, ho, hex, hd, g, nd, hm, hb, hf, hn, hr, hl⟩ := R
  refine Calls.call_function_entry kind_sorted plain_sorted entry_sorted (args_sorted1 _) ?_
  unfold Builtin.«sorted»
  refine wpAny_bind (m := checkCount "sorted" 1 1 _) (wpAny_pure ?_)
  refine wpAny_bind (collect_set (A := A.in1) hh ⟨o, ho, hex.1, hd⟩ hf hb hr hl fun s1 vs k1 hz g1 o1 pm => ?_)
  have len1 : vs.length = n := by rw [pm.length_eq, List.length_map, Array.length_toList]; exact hn
  have pk : (vs.map fun v => keyV (0, v)).Perm (es.toList.map keyV) := by
    have q := pm.map fun v => keyV (0, v)
    rw [List.map_map] at q
    exact q
  obtain ⟨ys0, hS, ek⟩ := ints_out vs _ rfl fun v hv => by
    obtain ⟨e, he, rfl⟩ := List.mem_map.mp (pm.mem_iff.mp hv)
    have m1 : keyV e ∈ es.toList.map keyV := List.mem_map_of_mem he
    have m2 := inKs_iff.1 ((hm _).2 m1)
    obtain ⟨x, _, ex⟩ := List.mem_map.mp m2
    rcases keyIs_shape (g e he).1 with ⟨i, tk, e1, e2⟩ | ⟨y, tk, e1, e2⟩
    · exact ⟨i, tk, e2⟩
    · rw [e1] at ex; cases ex
  refine wpAny_bind (wpAny_newList ?_ (by rw [len1, sizeLine_eq]; omega))
  have hoL : (s1.heap.push (seqObj "list" vs.toArray 0)).get? s1.heap.objs.size = some (seqObj "list" vs.toArray 0) := Heap.get?_push_size _ rfl
  refine wpAny_bind (wpAny_holding (wpAny_call_entry slot_list_sort ⟨_, hoL, rfl⟩ entry_list_sort
    (list_sort_tree hoL hS (by rw [len1]; exact h64) fun out ys q1 q2 q3 => ⟨_, rfl, ?_⟩) (args_list_sort _)))
  obtain ⟨c, hc⟩ := sortedHeap_at (vs := vs) (out := out) hoL
  have pn : (ys.map Sum.inl : List Key).Perm (es.toList.map keyV) := ((q2.map Sum.inl).trans (by rw [← ek])).trans pk
  have ndy : ys.Nodup := by
    have := pn.nodup_iff.mpr nd
    exact (List.pairwise_map.1 this).imp fun h e => h (by rw [e])
  refine wpAny_pure ⟨_, rfl, hQ _ s1.heap.objs.size _ c ys (fun b u e => ?_) g1 o1 hz hc q1 q3 ndy (fun x => ?_) ?_⟩
  · have q := k1 b u e
    have hlt := Heap.lt_size q
    show (sortedHeap (s1.heap.push (seqObj "list" vs.toArray 0)) s1.heap.objs.size vs out).get? b = some u
    rw [sortedHeap_old (Nat.ne_of_lt hlt) (by rw [size_push']; exact Nat.lt_succ_of_lt hlt)]
    exact Heap.get?_push_of_some _ q
  · have e1 : (Sum.inl x : Key) ∈ ys.map Sum.inl ↔ x ∈ ys := by simp
    have e2 : (Sum.inl x : Key) ∈ xs.map Sum.inl ↔ x ∈ xs := by simp
    rw [← e1, ← e2, pn.mem_iff, ← hm, inKs_iff]
  · have := pn.length_eq
    rw [List.length_map, List.length_map] at this
    exact this.trans (Array.length_toList.trans hn)
end
end KN

set_option maxRecDepth 100000
set_option maxHeartbeats 4000000
namespace KN
open PySem PySem.Spec L2 PyProof.Rows
theorem nodup_sub_len {α : Type} : ∀ (l m : List α), l.Nodup → (∀ x ∈ l, x ∈ m) → l.length ≤ m.length
  | [], _, _, _ => Nat.zero_le _
  | x :: l, m, hn, hs => by
    obtain ⟨a, b, rfl⟩ := List.append_of_mem (hs x List.mem_cons_self)
    rw [List.nodup_cons] at hn
    have := nodup_sub_len l (a ++ b) hn.2 fun y hy => by
      rcases List.mem_append.1 (hs y (List.mem_cons_of_mem _ hy)) with k | k
      · exact List.mem_append_left _ k
      · rcases List.mem_cons.1 k with k | k
        · exact absurd (k ▸ hy) hn.1
        · exact List.mem_append_right _ k
    simp only [List.length_append, List.length_cons] at this ⊢
    omega
theorem SkR.few {w : World} {h : Heap} {a : Addr} {ks ls : List Key} {n : Nat} (R : SkR w h a (inKs ks) n) (hs : ∀ k ∈ ks, k ∈ ls) : n ≤ ls.length := by
  obtain ⟨o, es, ep, t, _, _, _, _, nd, hm, _, _, hn, _⟩ := R
  have := nodup_sub_len (es.toList.map keyV) ls nd fun k hk => hs k (inKs_iff.1 ((hm k).2 hk))
  rw [List.length_map, Array.length_toList, hn] at this
  exact this
/-! ### the text sorted(set(a)) -/
abbrev SeqB (K : PySem.W.Frag) (H : Hp) (l : Addr) (xs : List V) : Prop := SqL K H l xs ∨ SqT K H l xs
def tSset (K : PySem.W.Frag) (ta : TE) : TE := fun σ H Q => ta σ H fun x H1 => ∃ l, x = .ref l ∧
  ((∃ xs : List Str, SeqB K H1 l (xs.map V.str) ∧ (xs.length ≤ 4000 ∧ ∃ zs : List Str, zs.length < 64 ∧ ∀ x ∈ xs, x ∈ zs) ∧ ∀ (ys : List Str) p, sortedS ys = true → ys.Nodup → (∀ x, x ∈ ys ↔ x ∈ xs) → H1 p = none → Q (.ref p) (upd H1 p (.lst (ys.map V.str)))) ∨
   (∃ xs : List Int, SeqB K H1 l (xs.map V.int) ∧ (xs.length ≤ 4000 ∧ ∃ zs : List Int, zs.length < 64 ∧ ∀ x ∈ xs, x ∈ zs) ∧ ∀ (ys : List Int) p, ys.Pairwise (· ≤ ·) → ys.Nodup → (∀ x, x ∈ ys ↔ x ∈ xs) → H1 p = none → Q (.ref p) (upd H1 p (.lst (ys.map V.int)))))
section
variable {X : Cx}
theorem pe_sset {a : Expr} {ta : TE} {p p2 q pos : Pos} (hc : X.calm = true) (hg : Gl X "sorted") (hm : X.mg "sorted" = none) (hg2 : Gl X "set") (hm2 : X.mg "set" = none) (ha : PE X a ta)
    (na : starEach [a] X.env = (false, eval a X.env) :: starEach [] X.env) : PE X (.Call (.Name "sorted" p) [.Call (.Name "set" p2) [a] [] q] [] pos) (tSset X.K ta) := by
  refine ⟨fun pins s σ H Q I h => ?_⟩
  refine Call_ (ld_blt I hg hm boot_sorted ?_)
  refine PyProof.Rows.callWith_builtin1 (PyProof.Rows.args_cons ?_ rfl) rfl rfl
  refine Call_ (ld_blt I hg2 hm2 boot_set ?_)
  refine PyProof.Rows.callWith_type1 (PyProof.Rows.args_cons (thn (ha.run pins s σ H _ I h) fun v s1 ⟨x, H1, I1, r1, q1⟩ => PyProof.Rows.args_nil ?_) na) na rfl
  obtain ⟨l, rfl, q1⟩ := q1
  cases r1
  -- the set's object is below the layer: what stood, stands
  have go : ∀ (ks : List Key) (xs : List V), SeqB X.K H1 l xs → (∀ us, Vals xs us → KeysAre us ks) → ks.length ≤ 4000 →
      (∀ (h' : Heap) (tk c : Nat), SkR X.w h' s1.heap.objs.size (inKs ks) c → c ≤ ks.length → Inv X pins σ H1 { s1 with heap := h', toks := tk } →
        wpAny (model X.prog X.w) X.A (call (.builtin "sorted") [Value.ref s1.heap.objs.size]) (EP X pins σ Q) X.xe { s1 with heap := h', toks := tk }) →
      wpAny (model X.prog X.w) X.A (call (.type "set") [.ref l]) (fun v₂ s₂ => wpAny (model X.prog X.w) X.A (spliced (backTo pos (starEach [] X.env))) (fun vs s₃ => wpAny (model X.prog X.w) X.A (call (.builtin "sorted") (v₂ :: vs)) (EP X pins σ Q) X.xe s₃) X.xe s₂) X.xe s1 := fun ks xs hq hk h64 fin => by
    have sb : ks.length + 1 < scanBound := by unfold scanBound; omega
    rcases hq with hq | hq
    · obtain ⟨its, r, pl, hz⟩ := I1.list hq
      refine set_of_list ks (I1.ok.hd hc) pl.isList (by simpa using hk its r) sb fun h' tk c hS hcl kp => PyProof.Rows.args_nil ?_
      exact fin h' tk c hS hcl (I1.kept kp)
    · obtain ⟨its, r, pl, hz⟩ := I1.tuple hq
      refine set_of_tuple ks (I1.ok.hd hc) pl (by simpa using hk its r) sb fun h' tk c hS hcl kp => PyProof.Rows.args_nil ?_
      exact fin h' tk c hS hcl (I1.kept kp)
  rcases q1 with ⟨xs, hq, ⟨h4k, zs, h64, hz⟩, q1⟩ | ⟨xs, hq, ⟨h4k, zs, h64, hz⟩, q1⟩
  · refine go (xs.map Sum.inr) _ hq (fun us r => keysAre_strs r) (by rw [List.length_map]; exact h4k) fun h' tk c hS hcl J => ?_
    have hcl := hS.few (ls := zs.map Sum.inr) fun k hk => by
      obtain ⟨x, hx, rfl⟩ := List.mem_map.1 hk
      exact List.mem_map_of_mem (hz x hx)
    rw [List.length_map] at hcl
    refine sorted_texts hS (J.ok.hd hc) (by omega) fun s' p out c' ys k g o hp hg' hi hs nd hm' hl' => ?_
    have hlen : (ys.map V.str).length ≤ sizeLine := by rw [List.length_map, hl', sizeLine_eq]; omega
    have hn : H1 p = none := J.hok.fresh hp
    have J2 : L2.Inv X pins σ (upd H1 p (.lst (ys.map V.str))) { ({ s1 with heap := h', toks := tk } : Shared) with heap := s'.heap, gens := s'.gens, drawn := s'.drawn, toks := s'.toks } :=
      J.call (ch := []) (Un.laid k hp hn) (J.hok.laid k hp ⟨hlen, out.toList, c', vals_of_strs hi, hg'⟩) (by rw [g]; exact J.bare) (fun _ z => nomatch z)
    have e : s' = { s1 with heap := s'.heap, gens := s'.gens, drawn := s'.drawn, toks := s'.toks } := by
      cases s'
      cases s1
      cases o
      rfl
    rw [e]
    exact ⟨.ref p, _, J2, rfl, q1 ys p hs nd hm' hn⟩
  · refine go (xs.map Sum.inl) _ hq (fun us r => keysAre_ints r) (by rw [List.length_map]; exact h4k) fun h' tk c hS hcl J => ?_
    have hcl := hS.few (ls := zs.map Sum.inl) fun k hk => by
      obtain ⟨x, hx, rfl⟩ := List.mem_map.1 hk
      exact List.mem_map_of_mem (hz x hx)
    rw [List.length_map] at hcl
    refine sorted_nums hS (J.ok.hd hc) (by omega) fun s' p out c' ys k g o hp hg' hi hs nd hm' hl' => ?_
    have hlen : (ys.map V.int).length ≤ sizeLine := by rw [List.length_map, hl', sizeLine_eq]; omega
    have hn : H1 p = none := J.hok.fresh hp
    have J2 : L2.Inv X pins σ (upd H1 p (.lst (ys.map V.int))) { ({ s1 with heap := h', toks := tk } : Shared) with heap := s'.heap, gens := s'.gens, drawn := s'.drawn, toks := s'.toks } :=
      J.call (ch := []) (Un.laid k hp hn) (J.hok.laid k hp ⟨hlen, out.toList, c', vals_of_ints hi, hg'⟩) (by rw [g]; exact J.bare) (fun _ z => nomatch z)
    have e : s' = { s1 with heap := s'.heap, gens := s'.gens, drawn := s'.drawn, toks := s'.toks } := by
      cases s'
      cases s1
      cases o
      rfl
    rw [e]
    exact ⟨.ref p, _, J2, rfl, q1 ys p hs nd hm' hn⟩
end
end KN

set_option maxRecDepth 100000
set_option maxHeartbeats 4000000
namespace KN
open PySem L2 PyProof.Rows
/-! ### zip of any two of lists and tuples: its two walkers, told by what they walk -/
def ItB : Bool → Heap → Addr → Addr → Nat → Prop
  | true, h, i, l, n => h.IsListIter i l n
  | false, h, i, l, n => h.IsTupleIter i l n
def SeB : Bool → Heap → Addr → Array Value → Prop
  | true, h, l, vs => h.IsList l vs
  | false, h, l, vs => h.IsTuple l vs
theorem ItB.on {h h' : Heap} {i l : Addr} {n : Nat} : ∀ {q : Bool}, ItB q h i l n → (∀ o, h.get? i = some o → h'.get? i = some o) → ItB q h' i l n
  | true, a, k => Heap.IsListIter.at a k
  | false, a, k => Heap.IsTupleIter.at a k
theorem SeB.on {h h' : Heap} {l : Addr} {vs : Array Value} : ∀ {q : Bool}, SeB q h l vs → (∀ o, h.get? l = some o → h'.get? l = some o) → SeB q h' l vs
  | true, a, k => Heap.IsList.at a k
  | false, ⟨o, e, r⟩, k => ⟨o, k o e, r⟩
theorem ItB.obj {h : Heap} {i l : Addr} {n : Nat} : ∀ {q : Bool}, ItB q h i l n → ∃ o, h.get? i = some o ∧ o.data = .fields #[.ref l, .int n 0]
  | true, ⟨o, e, _, d⟩ => ⟨o, e, d⟩
  | false, ⟨o, e, _, d⟩ => ⟨o, e, d⟩
/-- it walks vs (at l, a list or a tuple) and stands at n -/
def WkAt (q : Bool) (h : Heap) (i l : Addr) (vs : Array Value) (n : Nat) : Prop := ItB q h i l n ∧ SeB q h l vs
theorem WkAt.but {t : Bool} {h h' : Heap} {it l c : Addr} {xs : Array Value} {k : Nat} (q : WkAt t h it l xs k) (e : Heap.ExtBut c h h') (n1 : it ≠ c) (n2 : l ≠ c) : WkAt t h' it l xs k :=
  ⟨q.1.on fun o x => e _ o n1 x, q.2.on fun o x => e _ o n2 x⟩
theorem WkAt.lt {t : Bool} {h : Heap} {it l : Addr} {xs : Array Value} {k : Nat} (q : WkAt t h it l xs k) : it < h.objs.size := by
  obtain ⟨o, e, _⟩ := q.1.obj
  exact Heap.lt_size e
section
variable {prog : Program} {w : World} {A : Around} {E : Value → Shared → Prop} {s : Shared}
theorem wk_item {t : Bool} {it l : Addr} {k : Nat} {xs : Array Value} {x : Value} {Q : Value → Shared → Prop} (q : WkAt t s.heap it l xs k) (n : l ≠ it) (hx : xs[k]? = some x)
    (f : ∀ h2, WkAt t h2 it l xs (k + 1) → Heap.SameBut it s.heap h2 → Q x { s with heap := h2 }) : wpAny (model prog w) A (Builtin.SmallTypes.nextOf (.ref it)) Q E s := by
  obtain ⟨a, b⟩ := q
  cases t with
  | true => exact wpAny_nextOf_list_item a b hx fun h2 a2 e => f h2 ⟨a2, b.on fun o x => e.extBut _ o n x⟩ e
  | false => exact RZ.nextOf_tuple_item a b hx fun h2 a2 e => f h2 ⟨a2, b.on fun o x => e.extBut _ o n x⟩ e
theorem wk_end {t : Bool} {it l : Addr} {k : Nat} {xs : Array Value} {Q : Value → Shared → Prop} (hh : A.handled = none) (q : WkAt t s.heap it l xs k) (hx : xs[k]? = none)
    (f : ∀ h2 e, Heap.ExtBut it s.heap h2 → (∃ o, h2.get? e = some o ∧ o.cls = .type "StopIteration") → E (.ref e) { s with heap := h2 }) : wpAny (model prog w) A (Builtin.SmallTypes.nextOf (.ref it)) Q E s := by
  obtain ⟨a, b⟩ := q
  cases t with
  | true => exact wpAny_nextOf_list_end hh a b hx f
  | false => exact RZ.nextOf_tuple_end hh a b hx f
theorem zg_item {q1b q2b : Bool} {z ti ot i1 i2 l1 l2 : Addr} {k1 k2 : Nat} {xs ys : Array Value} {x y a b : Value} {Q : Value → Shared → Prop} (Ap : ZipApart z ti ot i1 i2 l1 l2)
    (hz : IsZip s.heap z ti ot .none) (hT : IsPair s.heap ti (.ref i1) (.ref i2)) (hO : IsPair s.heap ot a b) (q1 : WkAt q1b s.heap i1 l1 xs k1) (q2 : WkAt q2b s.heap i2 l2 ys k2) (hx : xs[k1]? = some x) (hy : ys[k2]? = some y)
    (f : ∀ g, IsZip g z ti ot (rawInt s.heap.objs.size) → IsPair g ot x y → WkAt q1b g i1 l1 xs (k1 + 1) → WkAt q2b g i2 l2 ys (k2 + 1) → IsPair g s.heap.objs.size x y → g.objs.size = s.heap.objs.size + 1 →
      (∀ c o, c ≠ z → c ≠ ot → c ≠ i1 → c ≠ i2 → s.heap.get? c = some o → g.get? c = some o) → Q (.ref s.heap.objs.size) { s with heap := g }) :
    wpAny (model prog w) A (Builtin.«zip.__next__» ⟨[.ref z], []⟩) (fun fin t => ∃ v, fin = .done (.ret v) ∧ Q v t) E s := by
  show wpAny _ _ (field (Value.ref z) 2 >>= _) _ _ s
  refine wpAny_bind (wpAny_field hz rfl (x := Value.bool false) rfl ?_)
  show wpAny _ _ (field (Value.ref z) 3 >>= _) _ _ s
  refine wpAny_bind (wpAny_field hz rfl (x := Value.ref ti) rfl ?_)
  refine wpAny_bind (wpAny_seqItems hT rfl ?_)
  show wpAny _ _ (Builtin.SmallTypes.ownedTupleIsFree (Value.ref z) >>= _) _ _ s
  refine wpAny_bind ?_
  unfold Builtin.SmallTypes.ownedTupleIsFree
  refine wpAny_bind (wpAny_field hz rfl (x := Value.none) rfl (wpAny_pure ?_))
  simp only [if_true]
  refine wpAny_bind (wpAny_rule (wpAny_bind (wpAny_field hz rfl (x := Value.ref ot) rfl ?_)))
  refine wpAny_bind (wpAny_setField_rec hz (by simp) fun g1 z1 b1 => ?_)
  have z1 : IsZip g1 z ti ot .ellipsis := z1
  refine wpAny_bind ?_
  simp only [List.zipIdx_cons, List.zipIdx_nil, List.forIn_cons, List.forIn_nil]
  refine wpAny_bind (wpAny_bind (wpAny_onRaise ?_))
  show wpAny _ _ (Builtin.SmallTypes.nextOf (Value.ref i1) >>= _) _ _ _
  refine wpAny_bind (wk_item (q1.but b1.extBut Ap.i1z Ap.l1z) Ap.l1i1 hx fun g2 w2 b2 => wpAny_pure ?_)
  have o2 : IsPair g2 ot a b := b2.extBut _ _ Ap.TOi1 (b1.extBut _ _ Ap.TOz hO)
  refine wpAny_bind (wpAny_seqItems o2 rfl (wpAny_bind (wpAny_updateSeq_pair o2 fun g3 o3 b3 => ?_)))
  have o3 : IsPair g3 ot x b := o3
  refine wpAny_bind (wpAny_letGo (wpAny_pure (wpAny_bind (wpAny_bind (wpAny_onRaise ?_)))))
  show wpAny _ _ (Builtin.SmallTypes.nextOf (Value.ref i2) >>= _) _ _ _
  have w3 : WkAt q2b g3 i2 l2 ys k2 := ((q2.but b1.extBut Ap.i2z Ap.l2z).but b2.extBut Ap.i12.symm Ap.l2i1).but b3.extBut Ap.TOi2.symm Ap.l2TO
  refine wpAny_bind (wk_item w3 Ap.l2i2 hy fun g4 w4 b4 => wpAny_pure ?_)
  have o4 : IsPair g4 ot x b := b4.extBut _ _ Ap.TOi2 o3
  refine wpAny_bind (wpAny_seqItems o4 rfl (wpAny_bind (wpAny_updateSeq_pair o4 fun g5 o5 b5 => ?_)))
  have o5 : IsPair g5 ot x y := o5
  refine wpAny_bind (wpAny_letGo (wpAny_pure (wpAny_pure (wpAny_bind (wpAny_seqItems o5 rfl (wpAny_bind (wpAny_newTuple ?_)))))))
  have sz : g5.objs.size = s.heap.objs.size := by rw [b5.1, b4.1, b3.1, b2.1, b1.1]
  have z5 : IsZip g5 z ti ot .ellipsis := b5.extBut _ _ Ap.TOz.symm (b4.extBut _ _ Ap.i2z.symm (b3.extBut _ _ Ap.TOz.symm (b2.extBut _ _ Ap.i1z.symm z1)))
  have kp : ∀ c o, c ≠ z → c ≠ ot → c ≠ i1 → c ≠ i2 → s.heap.get? c = some o → g5.get? c = some o := fun c o n1 n2 n3 n4 e =>
    b5.extBut _ _ n2 (b4.extBut _ _ n4 (b3.extBut _ _ n2 (b2.extBut _ _ n3 (b1.extBut _ _ n1 e))))
  have v1 : WkAt q1b g5 i1 l1 xs (k1 + 1) := ((w2.but b3.extBut Ap.TOi1.symm Ap.l1TO).but b4.extBut Ap.i12 Ap.l1i2).but b5.extBut Ap.TOi1.symm Ap.l1TO
  have v2 : WkAt q2b g5 i2 l2 ys (k2 + 1) := w4.but b5.extBut Ap.TOi2.symm Ap.l2TO
  have zl : z < g5.objs.size := Heap.lt_size z5
  show wpAny _ _ (Builtin.SmallTypes.ownedTupleHandOut (Value.ref z) (Value.ref g5.objs.size) >>= _) _ _ _
  refine wpAny_bind ?_
  unfold Builtin.SmallTypes.ownedTupleHandOut
  have z6 : IsZip (g5.push { cls := .type "tuple", data := .seq #[x, y] }) z ti ot .ellipsis := Heap.get?_push_of_some _ z5
  refine wpAny_bind (wpAny_setField_rec z6 (by simp) fun g7 z7 b7 => ?_)
  have z7 : IsZip g7 z ti ot (rawInt g5.objs.size) := z7
  refine wpAny_setField_rec z7 (by simp) fun g8 z8 b8 => ?_
  have z8 : IsZip g8 z ti ot (rawInt g5.objs.size) := z8
  have push : Heap.ExtBut z (g5.push { cls := .type "tuple", data := .seq #[x, y] }) g8 := fun c o n e => b8.extBut _ _ n (b7.extBut _ _ n e)
  have up : Heap.ExtBut z g5 g8 := fun c o n e => push c o n (Heap.get?_push_of_some _ e)
  have t8 : IsPair g8 g5.objs.size x y := push _ _ (Nat.ne_of_gt zl) (Heap.get?_push_size _ rfl)
  have s8 : g8.objs.size = g5.objs.size + 1 := by rw [b8.1, b7.1, Heap.size_push]
  rw [sz] at z8 t8 s8
  refine wpAny_pure ⟨_, rfl, ?_⟩
  show Q (.ref g5.objs.size) _
  rw [sz]
  exact f g8 z8 (up _ _ Ap.TOz o5) (v1.but up Ap.i1z Ap.l1z) (v2.but up Ap.i2z Ap.l2z) t8 s8 fun c o n1 n2 n3 n4 e => up c o n1 (kp c o n1 n2 n3 n4 e)
theorem zg_end {q1b q2b : Bool} {z ti ot i1 i2 l1 l2 : Addr} {k1 k2 : Nat} {xs ys : Array Value} {a b : Value} {Q : Fin → Shared → Prop} (hh : A.handled = none) (Ap : ZipApart z ti ot i1 i2 l1 l2)
    (hz : IsZip s.heap z ti ot .none) (hT : IsPair s.heap ti (.ref i1) (.ref i2)) (hO : IsPair s.heap ot a b) (q1 : WkAt q1b s.heap i1 l1 xs k1) (q2 : WkAt q2b s.heap i2 l2 ys k2) (no : xs[k1]? = none ∨ ys[k2]? = none)
    (f : ∀ g e, (∀ c o, c ≠ z → c ≠ ot → c ≠ i1 → c ≠ i2 → s.heap.get? c = some o → g.get? c = some o) → (∃ o, g.get? e = some o ∧ o.cls = .type "StopIteration") → E (.ref e) { s with heap := g }) :
    wpAny (model prog w) A (Builtin.«zip.__next__» ⟨[.ref z], []⟩) Q E s := by
  show wpAny _ _ (field (Value.ref z) 2 >>= _) _ _ s
  refine wpAny_bind (wpAny_field hz rfl (x := Value.bool false) rfl ?_)
  show wpAny _ _ (field (Value.ref z) 3 >>= _) _ _ s
  refine wpAny_bind (wpAny_field hz rfl (x := Value.ref ti) rfl ?_)
  refine wpAny_bind (wpAny_seqItems hT rfl ?_)
  show wpAny _ _ (Builtin.SmallTypes.ownedTupleIsFree (Value.ref z) >>= _) _ _ s
  refine wpAny_bind ?_
  unfold Builtin.SmallTypes.ownedTupleIsFree
  refine wpAny_bind (wpAny_field hz rfl (x := Value.none) rfl (wpAny_pure ?_))
  simp only [if_true]
  refine wpAny_bind (wpAny_rule (wpAny_bind (wpAny_field hz rfl (x := Value.ref ot) rfl ?_)))
  refine wpAny_bind (wpAny_setField_rec hz (by simp) fun g1 z1 b1 => ?_)
  have z1 : IsZip g1 z ti ot .ellipsis := z1
  refine wpAny_bind ?_
  simp only [List.zipIdx_cons, List.zipIdx_nil, List.forIn_cons, List.forIn_nil]
  refine wpAny_bind (wpAny_bind (wpAny_onRaise ?_))
  show wpAny _ _ (Builtin.SmallTypes.nextOf (Value.ref i1) >>= _) _ _ _
  cases hx : xs[k1]? with
  | none =>
    refine wpAny_bind (wk_end hh (q1.but b1.extBut Ap.i1z Ap.l1z) hx fun g2 e b2 st => ?_)
    obtain ⟨x, hxo, hxc⟩ := st
    have z2 : IsZip g2 z ti ot .ellipsis := b2 _ _ Ap.i1z.symm z1
    have ne : e ≠ z := fun q => by rw [q, z2] at hxo; cases hxo; simp at hxc
    exact wpAny_setField_rec z2 (by simp) fun g3 _ b3 => f g3 e (fun c o n1 _ n3 _ q => b3.extBut _ _ n1 (b2 _ _ n3 (b1.extBut _ _ n1 q))) ⟨x, b3.extBut _ _ ne hxo, hxc⟩
  | some x =>
    have hy : ys[k2]? = none := no.resolve_left (by rw [hx]; exact fun q => nomatch q)
    refine wpAny_bind (wk_item (q1.but b1.extBut Ap.i1z Ap.l1z) Ap.l1i1 hx fun g2 w2 b2 => wpAny_pure ?_)
    have o2 : IsPair g2 ot a b := b2.extBut _ _ Ap.TOi1 (b1.extBut _ _ Ap.TOz hO)
    refine wpAny_bind (wpAny_seqItems o2 rfl (wpAny_bind (wpAny_updateSeq_pair o2 fun g3 o3 b3 => ?_)))
    refine wpAny_bind (wpAny_letGo (wpAny_pure (wpAny_bind (wpAny_bind (wpAny_onRaise ?_)))))
    show wpAny _ _ (Builtin.SmallTypes.nextOf (Value.ref i2) >>= _) _ _ _
    have w3 : WkAt q2b g3 i2 l2 ys k2 := ((q2.but b1.extBut Ap.i2z Ap.l2z).but b2.extBut Ap.i12.symm Ap.l2i1).but b3.extBut Ap.TOi2.symm Ap.l2TO
    refine wpAny_bind (wk_end hh w3 hy fun g4 e b4 st => ?_)
    obtain ⟨u, huo, huc⟩ := st
    have z4 : IsZip g4 z ti ot .ellipsis := b4 _ _ Ap.i2z.symm (b3.extBut _ _ Ap.TOz.symm (b2.extBut _ _ Ap.i1z.symm z1))
    have ne : e ≠ z := fun q => by rw [q, z4] at huo; cases huo; simp at huc
    exact wpAny_setField_rec z4 (by simp) fun g5 _ b5 => f g5 e (fun c o n1 n2 n3 n4 q => b5.extBut _ _ n1 (b4 _ _ n4 (b3.extBut _ _ n2 (b2.extBut _ _ n3 (b1.extBut _ _ n1 q))))) ⟨u, b5.extBut _ _ ne huo, huc⟩
theorem nx_zgI {q1b q2b : Bool} {z ti ot i1 i2 l1 l2 : Addr} {k1 k2 : Nat} {xs ys : Array Value} {x y a b : Value} {Q : Option Value → Shared → Prop} (Ap : ZipApart z ti ot i1 i2 l1 l2)
    (hz : IsZip s.heap z ti ot .none) (hT : IsPair s.heap ti (.ref i1) (.ref i2)) (hO : IsPair s.heap ot a b) (q1 : WkAt q1b s.heap i1 l1 xs k1) (q2 : WkAt q2b s.heap i2 l2 ys k2) (hx : xs[k1]? = some x) (hy : ys[k2]? = some y)
    (f : ∀ g, IsZip g z ti ot (rawInt s.heap.objs.size) → IsPair g ot x y → WkAt q1b g i1 l1 xs (k1 + 1) → WkAt q2b g i2 l2 ys (k2 + 1) → IsPair g s.heap.objs.size x y → g.objs.size = s.heap.objs.size + 1 →
      (∀ c o, c ≠ z → c ≠ ot → c ≠ i1 → c ≠ i2 → s.heap.get? c = some o → g.get? c = some o) → Q (some (.ref s.heap.objs.size)) { s with heap := g }) :
    wpAny (model prog w) A (pyNext (.ref z)) Q E s := by
  have ty : s.TypeIs (.ref z) "zip" := ⟨_, hz, rfl⟩
  unfold pyNext
  refine wpAny_bind (wpAny_attempt (wpAny_callSpecial?_slot (name := Str.ofString "__next__") ty F.slot_zip_next ?_))
  exact wpAny_call_entry F.slot_zip_next ty F.entry_zip_next (zg_item Ap hz hT hO q1 q2 hx hy fun g c1 c2 c3 c4 c5 c6 c7 => wpAny_pure (f g c1 c2 c3 c4 c5 c6 c7)) (F.args_zip_next_1 _)
theorem nx_zgE {q1b q2b : Bool} {z ti ot i1 i2 l1 l2 : Addr} {k1 k2 : Nat} {xs ys : Array Value} {a b : Value} {Q : Option Value → Shared → Prop} (hh : A.handled = none) (Ap : ZipApart z ti ot i1 i2 l1 l2)
    (hz : IsZip s.heap z ti ot .none) (hT : IsPair s.heap ti (.ref i1) (.ref i2)) (hO : IsPair s.heap ot a b) (q1 : WkAt q1b s.heap i1 l1 xs k1) (q2 : WkAt q2b s.heap i2 l2 ys k2) (no : xs[k1]? = none ∨ ys[k2]? = none)
    (f : ∀ g, (∀ c o, c ≠ z → c ≠ ot → c ≠ i1 → c ≠ i2 → s.heap.get? c = some o → g.get? c = some o) → Q none { s with heap := g }) :
    wpAny (model prog w) A (pyNext (.ref z)) Q E s := by
  have ty : s.TypeIs (.ref z) "zip" := ⟨_, hz, rfl⟩
  unfold pyNext
  refine wpAny_bind (wpAny_attempt (wpAny_callSpecial?_slot (name := Str.ofString "__next__") ty F.slot_zip_next ?_))
  refine wpAny_call_entry F.slot_zip_next ty F.entry_zip_next (zg_end hh Ap hz hT hO q1 q2 no fun g e kp st => ?_) (F.args_zip_next_1 _)
  obtain ⟨x, hxo, hxc⟩ := st
  exact wpAny_bind (wpAny_isInstance (T := "StopIteration") (b := true) ⟨x, hxo, hxc⟩ isSubtype_stop (wpAny_pure (f _ kp)))
end
/-! ### zip(a, b) called: the five new things -/
abbrev zg1 (u : String) (h : Heap) (l : Addr) : Heap := h.push { cls := .type u, data := .fields #[.ref l, .int 0 0] }
abbrev zg3 (u v : String) (h : Heap) (l m : Addr) : Heap := (zg1 v (zg1 u h l) m).push { cls := .type "tuple", data := .seq #[.ref h.objs.size, .ref (zg1 u h l).objs.size] }
abbrev zg4 (u v : String) (h : Heap) (l m : Addr) : Heap := (zg3 u v h l m).push { cls := .type "tuple", data := .seq #[.none, .none] }
abbrev zg5 (u v : String) (h : Heap) (l m : Addr) : Heap := (zg4 u v h l m).push { cls := .type "zip", data := .fields #[.none, .bool false, .bool false, .ref (zg1 v (zg1 u h l) m).objs.size, .ref (zg3 u v h l m).objs.size] }
theorem new_zgLT (l m : Addr) (xs ys : Array Value) : Meets (Builtin.«zip.__new__» ⟨[.type "zip", .ref l, .ref m], []⟩) (fun _ R s => s.heap.IsList l xs ∧ s.heap.IsTuple m ys ∧
      R (.ok (.ret (.ref (zg4 "list_iterator" "tuple_iterator" s.heap l m).objs.size))) { s with heap := zg5 "list_iterator" "tuple_iterator" s.heap l m }) :=
  .of_wp fun prog w A R s h => by
    obtain ⟨hp, g, d, tk, os⟩ := s
    obtain ⟨e1, e2, h⟩ := h
    have hsub := sub_zip
    have y1 : Heap.IsList (Shared.heap ⟨hp, g, d, tk, os⟩) l xs := e1
    have y2 : Heap.IsTuple (Shared.heap ⟨zg1 "list_iterator" hp l, g, d, tk, os⟩) m ys := Heap.IsTuple.push e2 _
    wp_walk using wpAny_pyIter_list y1, wpAny_pyIter_tuple y2
    exact ⟨_, rfl, h⟩
theorem new_zgTL (l m : Addr) (xs ys : Array Value) : Meets (Builtin.«zip.__new__» ⟨[.type "zip", .ref l, .ref m], []⟩) (fun _ R s => s.heap.IsTuple l xs ∧ s.heap.IsList m ys ∧
      R (.ok (.ret (.ref (zg4 "tuple_iterator" "list_iterator" s.heap l m).objs.size))) { s with heap := zg5 "tuple_iterator" "list_iterator" s.heap l m }) :=
  .of_wp fun prog w A R s h => by
    obtain ⟨hp, g, d, tk, os⟩ := s
    obtain ⟨e1, e2, h⟩ := h
    have hsub := sub_zip
    have y1 : Heap.IsTuple (Shared.heap ⟨hp, g, d, tk, os⟩) l xs := e1
    have y2 : Heap.IsList (Shared.heap ⟨zg1 "tuple_iterator" hp l, g, d, tk, os⟩) m ys := Heap.IsList.push e2 _
    wp_walk using wpAny_pyIter_tuple y1, wpAny_pyIter_list y2
    exact ⟨_, rfl, h⟩
theorem zg5_has (u v : String) (h : Heap) (l m : Addr) : (zg5 u v h l m).objs.size = h.objs.size + 5 ∧ (zg4 u v h l m).objs.size = h.objs.size + 4 ∧ IsZip (zg5 u v h l m) (h.objs.size + 4) (h.objs.size + 2) (h.objs.size + 3) .none ∧
    IsPair (zg5 u v h l m) (h.objs.size + 2) (.ref h.objs.size) (.ref (h.objs.size + 1)) ∧ IsPair (zg5 u v h l m) (h.objs.size + 3) .none .none ∧
    (∃ o, (zg5 u v h l m).get? h.objs.size = some o ∧ o.cls = .type u ∧ o.data = .fields #[.ref l, .int 0 0]) ∧ (∃ o, (zg5 u v h l m).get? (h.objs.size + 1) = some o ∧ o.cls = .type v ∧ o.data = .fields #[.ref m, .int 0 0]) ∧
    ∀ c o, h.get? c = some o → (zg5 u v h l m).get? c = some o := by
  have a1 : (zg1 u h l).objs.size = h.objs.size + 1 := Heap.size_push ..
  have a2 : (zg1 v (zg1 u h l) m).objs.size = h.objs.size + 2 := by rw [Heap.size_push, a1]
  have a3 : (zg3 u v h l m).objs.size = h.objs.size + 3 := by rw [Heap.size_push, a2]
  have a4 : (zg4 u v h l m).objs.size = h.objs.size + 4 := by rw [Heap.size_push, a3]
  have a5 : (zg5 u v h l m).objs.size = h.objs.size + 5 := by rw [Heap.size_push, a4]
  have c5 : (zg5 u v h l m).get? (zg4 u v h l m).objs.size = some _ := Heap.get?_push_size _ rfl
  have c4 : (zg5 u v h l m).get? (zg3 u v h l m).objs.size = some _ := Heap.get?_push_of_some _ (Heap.get?_push_size _ rfl)
  have c3 : (zg5 u v h l m).get? (zg1 v (zg1 u h l) m).objs.size = some _ := Heap.get?_push_of_some _ (Heap.get?_push_of_some _ (Heap.get?_push_size _ rfl))
  have c2 : (zg5 u v h l m).get? (zg1 u h l).objs.size = some _ := Heap.get?_push_of_some _ (Heap.get?_push_of_some _ (Heap.get?_push_of_some _ (Heap.get?_push_size _ rfl)))
  have c1 : (zg5 u v h l m).get? h.objs.size = some _ := Heap.get?_push_of_some _ (Heap.get?_push_of_some _ (Heap.get?_push_of_some _ (Heap.get?_push_of_some _ (Heap.get?_push_size _ rfl))))
  rw [a2, a3, a4] at c5
  rw [a1, a2] at c3
  rw [a3] at c4
  rw [a1] at c2
  exact ⟨a5, a4, c5, c3, c4, ⟨_, c1, rfl, rfl⟩, ⟨_, c2, rfl, rfl⟩, fun c o x => Heap.get?_push_of_some _ (Heap.get?_push_of_some _ (Heap.get?_push_of_some _ (Heap.get?_push_of_some _ (Heap.get?_push_of_some _ x))))⟩
section
variable {prog : Program} {w : World} {A : Around} {E : Value → Shared → Prop} {s : Shared}
theorem call_zg {l m : Addr} {xs ys : Array Value} {Q : Value → Shared → Prop} : ∀ {q1 q2 : Bool}, SeB q1 s.heap l xs → SeB q2 s.heap m ys →
    (∀ g, IsZip g (s.heap.objs.size + 4) (s.heap.objs.size + 2) (s.heap.objs.size + 3) .none → IsPair g (s.heap.objs.size + 2) (.ref s.heap.objs.size) (.ref (s.heap.objs.size + 1)) →
      IsPair g (s.heap.objs.size + 3) .none .none → ItB q1 g s.heap.objs.size l 0 → ItB q2 g (s.heap.objs.size + 1) m 0 → (∀ c o, s.heap.get? c = some o → g.get? c = some o) → Q (.ref (s.heap.objs.size + 4)) { s with heap := g }) →
    wpAny (model prog w) A (call (.type "zip") [.ref l, .ref m]) Q E s
  | true, true, e1, e2, f => call_zip_2 e1 e2 fun g c1 c2 c3 c4 c5 _ c7 => f g c1 c2 c3 c4 c5 c7
  | false, false, e1, e2, f => RZ.call_zipT e1 e2 fun g c1 c2 c3 c4 c5 _ c7 => f g c1 c2 c3 c4 c5 c7
  | true, false, e1, e2, f => by
    refine callType_new F.called_zip (by decide) (F.typeCall_zip_2 _ _) (F.newCall_zip_2 _ _) (fun obj => F.args_object_init_3 obj _ _) F.entry_zip_new (new_zgLT l m xs ys) ⟨e1, e2, ?_⟩
    obtain ⟨n5, n4, c1, c2, c3, c4, c5, c6⟩ := zg5_has "list_iterator" "tuple_iterator" s.heap l m
    show _ ∧ _
    rw [n4]
    exact ⟨⟨_, c1, rfl⟩, f _ c1 c2 c3 c4 c5 c6⟩
  | false, true, e1, e2, f => by
    refine callType_new F.called_zip (by decide) (F.typeCall_zip_2 _ _) (F.newCall_zip_2 _ _) (fun obj => F.args_object_init_3 obj _ _) F.entry_zip_new (new_zgTL l m xs ys) ⟨e1, e2, ?_⟩
    obtain ⟨n5, n4, c1, c2, c3, c4, c5, c6⟩ := zg5_has "tuple_iterator" "list_iterator" s.heap l m
    show _ ∧ _
    rw [n4]
    exact ⟨⟨_, c1, rfl⟩, f _ c1 c2 c3 c4 c5 c6⟩
end
/-! ### the walk, as the hand layer tells one -/
def SqB (K : PySem.W.Frag) : Bool → Hp → Addr → List V → Prop
  | true, H, a, xs => SqL K H a xs
  | false, H, a, xs => SqT K H a xs
theorem SqB.get {X : Cx} {pins : List (Addr × Obj)} {σ : L2.St} {H : Hp} {s : Shared} {a : Addr} {xs : List V} (I : Inv X pins σ H s) : ∀ {q : Bool}, SqB X.K q H a xs → ∃ us, Vals xs us ∧ SeB q s.heap a us.toArray ∧ a < s.heap.objs.size
  | true, h => by
    obtain ⟨us, r, p, _⟩ := I.list h
    exact ⟨us, r, p.isList, p.lt⟩
  | false, h => by
    obtain ⟨us, r, p, _⟩ := I.tuple h
    obtain ⟨o, ho, _⟩ := id p
    exact ⟨us, r, p, Heap.lt_size ho⟩
theorem SqB.inj {X : Cx} {pins : List (Addr × Obj)} {σ : L2.St} {H : Hp} {s : Shared} {a : Addr} {xs ys : List V} (I : Inv X pins σ H s) : ∀ {q : Bool}, SqB X.K q H a xs → SqB X.K q H a ys → xs = ys
  | true, h, k => I.list_inj h k
  | false, h, k => I.tuple_inj h k
/-- zip of the things at a and b (lists or tuples, as told), each turn's items in a new pair -/
def Itzg (K : PySem.W.Frag) (q r : Bool) (a b : Addr) : It :=
  ⟨fun i H => ∃ (xs ys : List V) (x y : V), SqB K q H a xs ∧ SqB K r H b ys ∧ xs[i]? = some x ∧ ys[i]? = some y,
    fun i H v H' => ∃ T x y, v = .ref T ∧ H T = none ∧ H' = upd H T (.tup [x, y]) ∧ (∀ xs, SqB K q H a xs → xs[i]? = some x) ∧ ∀ ys, SqB K r H b ys → ys[i]? = some y,
    fun i H => ∃ xs ys : List V, SqB K q H a xs ∧ SqB K r H b ys ∧ (xs.length ≤ i ∨ ys.length ≤ i)⟩
theorem mem5 {c z t o i j : Addr} (h : c ∈ [z, t, o, i, j]) : c = z ∨ c = t ∨ c = o ∨ c = i ∨ c = j := by simpa using h
theorem turn_zg {P : Program} {w : World} {K : PySem.W.Frag} {es : List Expr} {kk : Nat} {tp : Pos} {q r : Bool} {a b z ti ot i j : Addr} (Ap : ZipApart z ti ot i j a b) :
    Turn P w K (.Tuple es kk tp) (Itzg K q r a b) [z, ti, ot, i, j] z (fun n h => IsZip h z ti ot .none ∧ IsPair h ti (.ref i) (.ref j) ∧ (∃ x y, IsPair h ot x y) ∧ ItB q h i a n ∧ ItB r h j b n) where
  mem := by simp
  obj := fun n h st c hc => by
    obtain ⟨hz, hT, ⟨x, y, hO⟩, w1, w2⟩ := st
    obtain ⟨o1, e1, d1⟩ := w1.obj
    obtain ⟨o2, e2, d2⟩ := w2.obj
    rcases mem5 hc with rfl | rfl | rfl | rfl | rfl
    · exact ⟨_, hz, fun v q => nomatch q⟩
    · exact ⟨_, hT, fun v q => nomatch q⟩
    · exact ⟨_, hO, fun v q => nomatch q⟩
    · exact ⟨o1, e1, fun v q => by rw [d1] at q; cases q⟩
    · exact ⟨o2, e2, fun v q => by rw [d2] at q; cases q⟩
  keep := fun n h h' st k => by
    obtain ⟨hz, hT, ⟨x, y, hO⟩, w1, w2⟩ := st
    exact ⟨k z (by simp) _ hz, k ti (by simp) _ hT, ⟨x, y, k ot (by simp) _ hO⟩, w1.on fun o q => k i (by simp) o q, w2.on fun o q => k j (by simp) o q⟩
  item := by
    intro X hP hw hK hc n pins s σ H E I hf st hg
    subst hP hw hK
    obtain ⟨hz, hT, ⟨x0, y0, hO⟩, w1, w2⟩ := st
    obtain ⟨xs, ys, x, y, gx, gy, hx, hy⟩ := hg
    obtain ⟨us, rv, p, _⟩ := SqB.get I gx
    obtain ⟨us2, rv2, p2, _⟩ := SqB.get I gy
    obtain ⟨u, hu, ru⟩ := rv.get hx
    obtain ⟨u2, hu2, ru2⟩ := rv2.get hy
    have zl : z < s.heap.objs.size := Heap.lt_size hz
    refine nx_zgI Ap hz hT hO ⟨w1, p⟩ ⟨w2, p2⟩ (x := u) (y := u2) (by simpa using hu) (by simpa using hu2) fun g z' O' v1 v2 hN sz kp => ?_
    refine ⟨_, rfl, wpAny_letOwnedTupleGo_zip (s := { s with heap := g }) z' fun g2 z2 sb => ?_⟩
    have N2 : g2.get? s.heap.objs.size = some { cls := .type "tuple", data := .seq #[u, u2] } := (sb.2 _ (Nat.ne_of_gt zl)).trans hN
    have nw : ObjOk X.prog X.w (upd H s.heap.objs.size (.tup [x, y])) g2 s.heap.objs.size (.tup [x, y]) :=
      ⟨by show 2 ≤ sizeLine; decide, [u, u2], .cons ru (.cons ru2 .nil), ⟨_, N2, rfl, _, rfl⟩⟩
    have I1 : Inv X pins σ (upd H s.heap.objs.size (.tup [x, y])) { s with heap := g2 } := I.turnedNew (t' := s.toks) (ch := [z, ti, ot, i, j])
      (fun c o nm e => by
        have k : c ≠ z ∧ c ≠ ti ∧ c ≠ ot ∧ c ≠ i ∧ c ≠ j := by simpa using nm
        exact (sb.2 c k.1).trans (kp c o k.1 k.2.2.1 k.2.2.2.1 k.2.2.2.2 e)) hf (Nat.le_refl _) nw
    refine ⟨.ref s.heap.objs.size, _, I1, rfl, ⟨_, x, y, rfl, I.hok.fresh (Nat.le_refl _), rfl, fun l hl => SqB.inj I hl gx ▸ hx, fun l hl => SqB.inj I hl gy ▸ hy⟩, ⟨z2, (sb.2 _ Ap.TIz).trans (kp _ _ Ap.TIz Ap.TITO Ap.TIi1 Ap.TIi2 hT), ⟨u, u2, (sb.2 _ Ap.TOz).trans O'⟩, v1.1.on fun o e => (sb.2 _ Ap.i1z).trans e, v2.1.on fun o e => (sb.2 _ Ap.i2z).trans e⟩, fun c hm => ?_⟩
    obtain ⟨o1, e1, _⟩ := w1.obj
    obtain ⟨o2, e2, _⟩ := w2.obj
    have lt : c < s.heap.objs.size := by
      rcases mem5 hm with rfl | rfl | rfl | rfl | rfl
      · exact zl
      · exact Heap.lt_size hT
      · exact Heap.lt_size hO
      · exact Heap.lt_size e1
      · exact Heap.lt_size e2
    rw [upd_ne (Nat.ne_of_lt lt)]
    exact (hf c hm).1
  done := by
    intro X hP hw hK hc n pins s σ H E I hf st hg
    subst hP hw hK
    obtain ⟨hz, hT, ⟨x0, y0, hO⟩, w1, w2⟩ := st
    obtain ⟨xs, ys, gx, gy, no⟩ := hg
    obtain ⟨us, rv, p, _⟩ := SqB.get I gx
    obtain ⟨us2, rv2, p2, _⟩ := SqB.get I gy
    have l1 := rv.length
    have l2 := rv2.length
    have no2 : us.toArray[n]? = none ∨ us2.toArray[n]? = none := by
      rcases no with q | q
      · exact .inl (by simp; omega)
      · exact .inr (by simp; omega)
    exact nx_zgE (I.ok.hd hc) Ap hz hT hO ⟨w1, p⟩ ⟨w2, p2⟩ no2 fun g kp => ⟨rfl, I.turnedL (t' := s.toks) (ch := [z, ti, ot, i, j]) (fun c o nm e => by
        have k : c ≠ z ∧ c ≠ ti ∧ c ≠ ot ∧ c ≠ i ∧ c ≠ j := by simpa using nm
        exact kp c o k.1 k.2.2.1 k.2.2.2.1 k.2.2.2.2 e) hf⟩
  self := fun A n s Q E st h => wpAny_pyIter_zip st.1 h
def iZipG (K : PySem.W.Frag) (ta : TA) : TI := fun σ H R => ta σ H fun vs H1 => ∃ a b xs ys q r, vs = [.ref a, .ref b] ∧ SqB K q H1 a xs ∧ SqB K r H1 b ys ∧ R (Itzg K q r a b) H1
theorem pi_zipG {X : Cx} {e e2 : Expr} {ta : TA} {p pos tp : Pos} {es : List Expr} {kk : Nat} (hg : Gl X "zip") (hm : X.mg "zip" = none) (ha : PA X [e, e2] ta)
    (hs : starEach [e, e2] X.env = (false, eval e X.env) :: starEach [e2] X.env) (hpl : (backTo pos (starEach [e2] X.env)).any (·.1) = false) :
    PI X (.Tuple es kk tp) (.Call (.Name "zip" p) [e, e2] [] pos) (iZipG X.K ta) := by
  refine ⟨fun pins s σ H R I h => ?_⟩
  refine Call_ (ld_blt I hg hm PyProof.Rows.boot_zip (PyProof.Rows.callWith_type1 (thn (ha.run pos pins s σ H _ I h) fun us s1 q => ?_) hs hpl))
  obtain ⟨vs, H1, I1, r1, a, b, xs, ys, q, r, rfl, gx, gy, k⟩ := q
  obtain ⟨us1, rv, p1, n1⟩ := SqB.get I1 gx
  obtain ⟨us2, rv2, p2, n2⟩ := SqB.get I1 gy
  cases r1 with
  | cons ra rr =>
    cases rr with
    | cons rb rr =>
      cases rr
      cases ra
      cases rb
      have fp : ∀ c, c ∈ [s1.heap.objs.size + 4, s1.heap.objs.size + 2, s1.heap.objs.size + 3, s1.heap.objs.size, s1.heap.objs.size + 1] → FpOk X pins H1 c := fun c hc => by
        have le : s1.heap.objs.size ≤ c := by rcases mem5 hc with rfl | rfl | rfl | rfl | rfl <;> omega
        exact I1.fpOk le (I1.hok.fresh le)
      refine call_zg p1 p2 fun g c1 c2 c3 c4 c5 kp => wpAny_pyIter_zip c1 ?_
      have I2 : Inv X pins σ H1 { s1 with heap := g } := I1.kept (t' := s1.toks) kp
      exact ⟨s1.heap.objs.size + 4, [s1.heap.objs.size + 4, s1.heap.objs.size + 2, s1.heap.objs.size + 3, s1.heap.objs.size, s1.heap.objs.size + 1], _, _, H1, rfl, I2, turn_zg (PySem.W.ktu_apart s1.heap.objs.size a b n1 n2), ⟨c1, c2, ⟨_, _, c3⟩, c4, c5⟩, fp, k⟩
end KN

set_option maxRecDepth 100000
set_option maxHeartbeats 4000000
namespace KN
open PySem PySem.W PySem.Calls PyProof.Rows

/-! ### an error of one's own whose first deed is super's, made -/
abbrev iniBody (y fld sf : Str) (p0 p1 p2 p3 p4 p5 p6 p7 p8 p9 : Pos) : List Stmt :=
  [.Expr (.Call (.Attribute (.Call (.Name "super" p0) [] [] p1) "__init__" p2) [.Name y p3] [] p4) p5, .Assign [.Attribute (.Name sf p6) fld p7] (.Name y p8) p9]

/-- what the written part says of the class and its first def -/
structure IniC (prog : Program) (K : Frag) (C fI : Addr) (fld : Str) (B newId initId : String) (bmB : List Value) (cda cc : Addr) (nm qual : Str) (params : Arguments) (scope : Scope) (y sf : Str) : Prop where
  FB : ExcBaseFacts B newId initId bmB
  KF : KxsFacts B initId
  SF : StoreFacts B bmB "object.__setattr__" "object"
  q : excInitIn K C bmB newId = true
  iC : findIn K (.ref C) "__init__" = some (some (.ref fI))
  fn : ∃ oc od osl dV kV doc pm an ct p0 p1 p2 p3 p4 p5 p6 p7 p8 p9, oc = Value.type "function" ∧ (p2.endLine == p4.line) = true ∧ K.lookup fI = some ⟨oc, od, .func (ksFn nm qual params (iniBody y fld sf p0 p1 p2 p3 p4 p5 p6 p7 p8 p9) scope dV kV doc pm an (.ref cda) ct cc), osl⟩ ∧
    ∀ (u v : Value), bindArgs (ksFn nm qual params (iniBody y fld sf p0 p1 p2 p3 p4 p5 p6 p7 p8 p9) scope dV kV doc pm an (.ref cda) ct cc) ⟨[u, v], []⟩ = pure [(sf, u), (y, v)]
  hcd : codeIn K (.ref cda) qual = true
  code : ∃ ccl cdd vs ccs file tf, K.lookup cda = some ⟨ccl, cdd, .fields vs, ccs⟩ ∧ vs[2]? = some (.str file tf) ∧ ((prog.main.file : Str) == file) = true
  cell : ∃ cl cld csl, K.lookup cc = some ⟨cl, cld, .cell (some (.ref C)), csl⟩
  sub : mroIn K C (.ref C) = some true
  htop : (prog.main.scope.names.lookup ("super" : Str)).isSome = false
  hopq : nsIn K cStatics "thirdparty.any" = some none
  hm : ks_superIn K C C "__init__" = some (some (.builtin initId))
  hB : subIn K (.ref C) (.type B) = some true
  tk : takerIn K C fld = some none
  sa : findIn K (.ref C) "__setattr__" = some (some (.builtin "object.__setattr__"))
  over : excOver K C bmB = true
  hd : hasDictIn K C = true
  par : (params.posonlyargs ++ params.args).head?.map (·.arg) = some sf
  ks : scope.names.lookup ("super" : Str) = some .globalImplicit
  kc : scope.names.lookup ("__class__" : Str) = some .free
  ksf : scope.names.lookup sf = some .local
  ky : scope.names.lookup y = some .local
  ne : y ≠ sf
  kind : scope.kind = .function
  nc : ∀ x ∈ scope.names, x.2 ≠ .cell
  co : scope.isCoroutine = false
  gen : scope.isGenerator = false
  dy : (y == ("__debug__" : Str)) = false
  ds : (sf == ("__debug__" : Str)) = false

theorem call_line {o : Expr} {m : Str} {ap cp : Pos} {e : Expr} {env : PySem.Env} (hl : (ap.endLine == cp.line) = true) (he : starEach [e] env = [(false, eval e env)] := by rfl) :
    eval (.Call (.Attribute o m ap) [e] [] cp) env = (do
      let ov ← attributeBase o m env (eval o env)
      standAt ap.atName
      let (f, first) ← holding [ov] (getMethod ov m (do return (← importBound o env).getD true))
      callWith cp f first (backTo cp (starEach [e] env)) []) := by
  have e0 : methodCallPos true o env ap cp = pure cp := by unfold methodCallPos; rw [hl]; rfl
  have e1 : methodCallForm 1 (backTo cp (starEach [e] env)) [] = true := by rw [he]; rfl
  show (do
    let ov ← attributeBase o m env (eval o env)
    standAt ap.atName
    methodCall o m ap cp env ov 1 (backTo cp (starEach [e] env)) []) = _
  unfold methodCall
  simp only [e1, e0, calleeOf, if_true, pure_bind]
section
variable {prog : Program} {w : World} {K : Frag} {C fI : Addr} {fld : Str} {B newId initId : String} {bmB : List Value} {cda cc : Addr} {nm qual : Str} {params : Arguments} {scope : Scope} {y sf : Str}
/-- self.f = v, the dict is made -/
theorem ini_store {A : Around} {hp : Heap} {g : Array GenState} {d : Drawn} {t : Nat} {os : OsState} {E : Value → Shared → Prop} {Q : Unit → Shared → Prop} {v : Value} {x t1 : Addr}
    (T : IniC prog K C fI fld B newId initId bmB cda cc nm qual params scope y sf) (X : K.In hp) (hx : hp.get? x = some (excObj C t1 none .none))
    (hq : ∀ h' tk' dx, (∀ b o, b ≠ x → hp.get? b = some o → h'.get? b = some o) → hp.objs.size ≤ dx → dx ≠ x → h'.get? x = some (excObj C t1 (some dx) .none) → h'.Ns1 dx (fun z => if z = fld then some v else none) → Q () ⟨h', g, d, tk', os⟩) :
    wpAny (model prog w) A (setAttr (.ref x) fld v) Q E ⟨hp, g, d, t, os⟩ := by
  have I : InstAt hp x (excObj C t1 none .none) C none := ⟨hx, rfl, rfl, trivial⟩
  have hxs : x ≠ hp.objs.size := Nat.ne_of_lt (Heap.lt_size hx)
  refine set_plain (s := ⟨hp, g, d, t, os⟩) X I T.sa (osa_openX (s := ⟨hp, g, d, t + 1, os⟩) T.SF X I T.over T.tk fun b => ?_)
  obtain ⟨cd, hc, hdd⟩ := any_some T.hd
  have Lc : Looks (model prog w) hp (classData C) cd := looks_clsIn X hc
  obtain ⟨n1, bs, mro, ns, qn, hd, sn, sb, ab, col, del⟩ := cd
  dsimp only at hdd
  subst hdd
  show wpAny _ _ (Builtin.ObjectAttr.storeInOwnDict (.ref x) (.ref C) (.str fld t) fld v b) _ _ _
  unfold Builtin.ObjectAttr.storeInOwnDict Builtin.ObjectAttr.ownDictForStores
  repeat (first | with_reducible refine HandSPX.store_in_new ?_ ?_ | with_reducible refine wpAny_loadPart_at hx ?_ | with_reducible refine Lc.at ?_ | wp_step)
  · exact ⟨_, #[], _, (Heap.get?_update_ne _ _ _ _ hxs.symm).trans (Heap.get?_push_at rfl rfl), rfl, fun e he => absurd he (by simp), fun _ => rfl⟩
  · intro h' tk' hn' hs
    have hx₁ : (hp.push { cls := .type "dict", data := .dict #[] }).get? x = some (excObj C t1 none .none) := Heap.get?_push_of_some _ hx
    refine hq h' tk' hp.objs.size (fun b o hb ho => ?_) (Nat.le_refl _) hxs.symm ?_ hn'
    · exact (hs.2 b (Nat.ne_of_lt (Heap.lt_size ho))).trans ((Heap.get?_update_ne _ _ _ _ hb).trans (Heap.get?_push_of_some _ ho))
    · exact (hs.2 x hxs).trans (Heap.get?_update_self _ hx₁ rfl)

/-- super().__init__(v): the tuple of what it tells is laid anew -/
theorem ini_super {A : Around} {hp : Heap} {g : Array GenState} {d : Drawn} {t : Nat} {os : OsState} {E : Value → Shared → Prop} {Q : Value → Shared → Prop} {rest : List Value} {x t1 u : Addr}
    (T : IniC prog K C fI fld B newId initId bmB cda cc nm qual params scope y sf) (X : K.In hp) (hx : hp.get? x = some (excObj C t1 none .none)) (hu : hp.get? u = some (kxs_mw initId x)) (hz : rest.length ≤ sizeLine)
    (hq : ∀ h' t2, (∀ b o, b ≠ x → hp.get? b = some o → h'.get? b = some o) → h'.get? x = some (excObj C t2 none .none) → Q .none ⟨h', g, d, t, os⟩) :
    wpAny (model prog w) A (call (.ref u) rest) Q E ⟨hp, g, d, t, os⟩ := by
  obtain ⟨n1, N', qn, bs, bm, hdct, sn, sub, ab, col, dd, k0, k1, k2, k3, k5, hC, hT⟩ := excInit_of X T.q
  refine wpAny_call (codeAny_of_tree ?_)
  show wpAny _ A.in1 (callAny (.ref u) ⟨rest, []⟩) _ _ _
  simp only [callAny]
  refine wpAny_bind (wpAny_load hu ?_)
  simp only [kxs_mw, show (Value.type "method-wrapper" == Value.type "method" || Value.type "method-wrapper" == Value.type "builtin_function_or_method" || Value.type "method-wrapper" == Value.type "method-wrapper") = true by decide, if_true]
  refine KFB.if_so (by decide) ?_
  refine wpAny_bind (check_bound_init T.FB.toExcCallFacts hC hx rfl ?_)
  refine wpAny_bind (wpAny_pure (wpAny_pure ?_))
  refine ⟨plainId_quiet T.FB.init.plain _, codeAny_builtin T.FB.initEntry ?_⟩
  exact exc_init_tree (cls := .ref C) (t0 := t1) (dv := none) (c2 := .none) (c3 := .none) (b4 := .bool false) hx hz fun h' k e _ => hq h' _ k e

/-- the first def runs -/
theorem ini_run {A : Around} {hp : Heap} {g : Array GenState} {d : Drawn} {t : Nat} {os : OsState} {R : Result → Shared → Prop} {v : Value} {x t1 : Addr} {mg mb : Str → Option Value}
    (T : IniC prog K C fI fld B newId initId bmB cda cc nm qual params scope y sf) (X : K.In hp) (hx : hp.get? x = some (excObj C t1 none .none)) (nx : K.lookup x = none) (hroom : A.depth < recursionLimit) (hlim : hp.NoLimit)
    (hg : hp.Ns mainGlobals mg) (hsu : mg "super" = none) (hb : hp.Ns builtinsNs mb) (hbu : mb "super" = some (.type "super"))
    (hq : ∀ h' tk' dx t2, (∀ b o, b ≠ x → hp.get? b = some o → h'.get? b = some o) → hp.objs.size ≤ dx → dx ≠ x → h'.get? x = some (excObj C t2 (some dx) .none) → h'.Ns1 dx (fun z => if z = fld then some v else none) → R (.ok (.ret .none)) ⟨h', g, d, tk', os⟩) :
    codeAny (model prog w) A (.call (.ref fI) ⟨[.ref x, v], []⟩) R ⟨hp, g, d, t, os⟩ := by
  obtain ⟨sk, snm, sg, sco, smo⟩ := scope
  have hsk : sk = .function := T.kind
  subst hsk
  obtain ⟨oc, od, osl, dV, kV, doc, pm, an, ct, p0, p1, p2, p3, p4, p5, p6, p7, p8, p9, hoc, hl, lk, bnd⟩ := T.fn
  obtain ⟨ccl, cdd, vs, ccs, file, tf, hcode, hvs, hfile⟩ := T.code
  obtain ⟨cl, cld, csl, hcell⟩ := T.cell
  obtain ⟨ar, hpa, har⟩ := Option.map_eq_some_iff.mp T.par
  refine ks_codeAny_call_defAt (s := ⟨hp, g, d, t, os⟩) (binds := [(sf, .ref x), (y, v)]) hroom (X _ _ lk) rfl hlim (codeRec_of X T.hcd) rfl (.of_eq (bnd _ _)) T.nc (fun z hz => ?_) (fun h1 hns k1 => ?_) T.co T.gen T.kind
  · simp only [List.mem_cons, List.not_mem_nil, or_false] at hz
    rcases hz with rfl | rfl
    · exact T.ksf
    · exact T.ky
  · have msf : ([(sf, Value.ref x), (y, v)] : List (Str × Value)).reverse.lookup sf = some (.ref x) := by
      have e : (sf == y) = false := by simpa using T.ne.symm
      simp [List.lookup, e]
    have my : ([(sf, Value.ref x), (y, v)] : List (Str × Value)).reverse.lookup y = some v := by simp [List.lookup]
    generalize hL : hp.objs.size = L at hns
    have X1 : K.In h1 := X.keeps k1
    have hx1 := k1 _ _ hx
    have xL : x < L := by rw [← hL]; exact Heap.lt_size hx
    obtain ⟨n1, N', qn, bs, bm, hdct, sn, sub, ab, col, dd, k0, kk1, k2, k3, k5, hC, hT⟩ := excInit_of X1 T.q
    refine ks_wpAt_execs_cons (ks_wpAt_Expr_any (ks_wpAt_MethodCall (ks_wpAt_super_base T.ks T.kc rfl rfl (X1 _ _ lk) rfl hpa rfl (X1 _ _ hcode) rfl hvs hfile T.htop ?_) (call_line hl)))
    refine ks_loadName_global T.kind T.ks (loadGlobal_builtin (hg.keeps k1) hsu (hb.keeps k1) hbu ⟨rfl, ?_⟩)
    refine wpAny_loadName_free T.kind T.kc rfl ⟨_, X1 _ _ hcell, rfl⟩ ?_
    rw [har]
    refine wpAny_loadName_local T.kind T.ksf hns msf ?_
    refine ks_wpAny_isType_cls hC rfl ⟨rfl, ?_⟩
    refine ks_wpAny_call_super hC rfl hx1 rfl (fun c e => by cases e) (looks_mroIn X1 T.sub) (fun h2 so2 k2 => ?_)
    have X2 : K.In h2 := X1.keeps k2
    have hx2 := k2 _ _ hx1
    have I2 : InstAt h2 x (excObj C t1 none .none) C none := ⟨hx2, rfl, rfl, trivial⟩
    obtain ⟨cd, hcd, hal⟩ := Option.bind_eq_some_iff.mp T.hm
    have mro2 : Looks (model prog w) h2 (mroOf (.ref C)) cd.mro := (looks_clsIn X2 hcd).andThen .now
    have hin2 : Looks (model prog w) h2 (isInstance (.ref x) (.type B)) true := I2.type.andThen (looks_subIn X2 T.hB)
    refine kxs_getMethod T.KF so2 (looks_opaque X2 T.hopq) mro2 rfl X2 hal hin2 (ks_ne X2 I2 hcd) rfl ?_
    have X3 : K.In (h2.push (kxs_mw initId x)) := X2.keeps fun b o e => Heap.get?_push_of_some _ e
    have mw3 : (h2.push (kxs_mw initId x)).get? h2.objs.size = some (kxs_mw initId x) := Heap.get?_push_at rfl rfl
    have hx3 : (h2.push (kxs_mw initId x)).get? x = some (excObj C t1 none .none) := Heap.get?_push_of_some _ hx2
    refine kxs_callWith (i := initId) (x := x) rfl ?_
    refine evalArgs_plain ?_
    have ns3 : ∀ h' : Heap, (∀ b o, b ≠ x → (h2.push (kxs_mw initId x)).get? b = some o → h'.get? b = some o) → h'.Ns L (fun z => ([(sf, Value.ref x), (y, v)] : List (Str × Value)).reverse.lookup z) := fun h' k => by
      obtain ⟨oL, es, ep, e1, e2⟩ := hns
      exact ⟨oL, es, ep, k _ _ (Nat.ne_of_gt xL) (Heap.get?_push_of_some _ (k2 _ _ e1)), e2⟩
    refine spliced_more (e := .Name y p3) (rest := []) ?_
    refine wpAny_Name (wpAny_loadName_local T.kind T.ky (ns3 _ fun _ _ _ e => e) my ?_) T.dy
    refine spliced_none ⟨mw3, ?_⟩
    refine ini_super T X3 hx3 mw3 (by show 1 ≤ sizeLine; rw [sizeLine_eq]; decide) fun h4 t2 k4 hx4 => ?_
    have X4 : K.In h4 := fun b o e => k4 b o (fun q => by rw [q, nx] at e; cases e) (X3 b o e)
    refine ks_wpAt_execs_cons (ks_wpAt_Assign_Attr (wpAt_of_wpAny (wpAny_Name (wpAny_loadName_local T.kind T.ky (ns3 _ k4) my ?_) T.dy)))
    refine wpAny_Name (wpAny_loadName_local T.kind T.ksf (ns3 _ k4) msf ?_) T.ds
    refine ini_store T X4 hx4 fun h5 tk5 dx k5 z5 dn hx5 ns5 => ?_
    have kk : ∀ b o, b ≠ x → hp.get? b = some o → h5.get? b = some o := fun b o hb e => k5 b o hb (k4 b o hb (Heap.get?_push_of_some _ (k2 _ _ (k1 _ _ e))))
    refine wpAt_of_wpAny (wpAny_execs_nil ?_)
    refine hq h5 tk5 dx t2 kk ?_ dn hx5 ns5
    obtain ⟨oL, _, _, e1, _⟩ := ns3 _ k4
    have lt := Heap.lt_size e1
    exact Nat.le_of_lt (Nat.lt_of_lt_of_le (hL ▸ lt) z5)

/-- the class is called -/
theorem ini_call {A : Around} {hp : Heap} {g : Array GenState} {d : Drawn} {t : Nat} {os : OsState} {E : Value → Shared → Prop} {Q : Value → Shared → Prop} {v : Value} {mg mb : Str → Option Value}
    (T : IniC prog K C fI fld B newId initId bmB cda cc nm qual params scope y sf) (X : K.In hp) (hroom : (A.under (.builtin "type.__call__" ⟨[.ref C, v], []⟩)).depth < recursionLimit) (hlim : hp.NoLimit)
    (hg : hp.Ns mainGlobals mg) (hsu : mg "super" = none) (hb : hp.Ns builtinsNs mb) (hbu : mb "super" = some (.type "super"))
    (hq : ∀ h' tk' a dx t2, (∀ b o, hp.get? b = some o → h'.get? b = some o) → hp.objs.size ≤ a → hp.objs.size ≤ dx → dx ≠ a → h'.get? a = some (excObj C t2 (some dx) .none) → h'.Ns1 dx (fun z => if z = fld then some v else none) → Q (.ref a) ⟨h', g, d, tk', os⟩) :
    wpAny (model prog w) A (call (.ref C) [v]) Q E ⟨hp, g, d, t, os⟩ := by
  obtain ⟨n1, N', qn, bs, bm, hdct, sn, sub, ab, col, dd, k0, kk1, k2, k3, k5, hC, hT⟩ := excInit_of X T.q
  have kk : ∀ b o, hp.get? b = some o → ((hp.push (kdv_tup [v])).push (HandSPX.excO C hp.objs.size)).get? b = some o := fun b o e => Heap.get?_push_of_some _ (Heap.get?_push_of_some _ e)
  have tI : typeIn K (.ref fI) = some (.type "function") := by
    obtain ⟨oc, od, osl, dV, kV, doc, pm, an, ct, p0, p1, p2, p3, p4, p5, p6, p7, p8, p9, hoc, hl, lk, bnd⟩ := T.fn
    show (K.lookup fI).map (·.cls) = _
    rw [lk, hoc]
    rfl
  have nx : K.lookup (hp.objs.size + 1) = none := by
    cases e : K.lookup (hp.objs.size + 1) with
    | none => rfl
    | some o =>
      exact absurd (Nat.lt_of_succ_lt (Heap.lt_size (X _ _ e))) (Nat.lt_irrefl _)
  have hx : ((hp.push (kdv_tup [v])).push (HandSPX.excO C hp.objs.size)).get? (hp.objs.size + 1) = some (HandSPX.excO C hp.objs.size) := by heap_get
  refine wpAny_call (HandSPX.call_own T.FB hT hC (looks_findIn X T.iC) (fun self => bind_fn X self tI) (by show 1 ≤ sizeLine; rw [sizeLine_eq]; decide)
    (codeAny_mono (ini_run (R := fun r s' => r = .ok (.ret .none) ∧ Q (.ref (hp.objs.size + 1)) s') T (X.keeps kk) hx nx hroom (hlim.keeps kk) (hg.keeps kk) hsu (hb.keeps kk) hbu fun h' tk' dx t2 k z dn hx' ns' => ?_) fun r s' hq' => ?_))
  · have sz : ((hp.push (kdv_tup [v])).push (HandSPX.excO C hp.objs.size)).objs.size = hp.objs.size + 2 := by simp [Heap.push]
    refine ⟨rfl, hq h' tk' (hp.objs.size + 1) dx t2 (fun b o e => k b o (Nat.ne_of_lt (Nat.lt_succ_of_lt (Heap.lt_size e))) (kk b o e)) (Nat.le_succ _) (by omega) dn hx' ns'⟩
  · obtain ⟨rfl, q⟩ := hq'
    exact ⟨rfl, q⟩
end

/-! ### the same, as the hand layer makes an error -/
open L2
section
variable {X : Cx} {C fI : Addr} {fld : Str} {B newId initId : String} {bmB : List Value} {cda cc : Addr} {nm qual : Str} {params : Arguments} {scope : Scope} {y sf : Str}
def tIni (C : Addr) (fld : Str) (ta : TA) : L2.St → Hp → XK → Prop := fun σ H Q => ta σ H fun vs H1 => ∃ v, vs = [v] ∧ ∀ d, H1 d = none → Q (.ref C) (some d) (upd H1 d (.xd [(fld, v)]))
theorem pmk_ini {x : Str} {e : Expr} {ta : TA} {p pos : Pos} {k : Nat} (T : IniC X.prog X.K C fI fld B newId initId bmB cda cc nm qual params scope y sf) (hr : Room k X.A) (r : Raises X (.ref C)) (hsu : X.mg "super" = none) (hg : Gl X x) (hm : X.mg x = some (.ref C)) (kC : keepIn X.K (.ref C) = true) (ha : PA X [e] ta)
    (hdb : (x == ("__debug__" : Str)) = false := by decide) (he : starEach [e] X.env = (false, eval e X.env) :: starEach [] X.env := by rfl) : PMk X (.Call (.Name x p) [e] [] pos) (tIni C fld ta) := by
  intro pins s σ H Q I h
  refine wpAny_Call_Name_kw (ld_glob I hg hm ?_ hdb)
  refine callWith_K (h₀ := X.base) I.ok.mod.kin kC (thn (ha.run pos pins s σ H _ I h) fun us s1 ⟨vs, H1, I1, r1, v, ev, q1⟩ => ⟨I1.kIn, ?_⟩) he rfl
  subst ev
  cases r1 with
  | @cons _ u _ ur ru rr =>
    cases rr
    obtain ⟨mb, hb1, hb2⟩ := I1.mod.blt
    obtain ⟨hp, g, dr, tk, os⟩ := s1
    refine ini_call T I1.kIn ?_ I1.nolimit (I1.mod.glob.keeps I1.bk) hsu (hb1.keeps I1.bk) ((hb2 "super" (by decide)).trans (by decide +kernel)) fun h' tk' a dx t2 kk sa sd dn hx ns => ?_
    · have := hr.dp
      rw [make_depth]
      omega
    · obtain ⟨G, g1, g2⟩ := restrict h' fun b => decide (b ≠ a)
      have gk : ∀ b, b ≠ a → G.get? b = h'.get? b := fun b hb => g1 b (decide_eq_true hb)
      have ga : G.get? a = none := g2 a (by simp)
      have na : ∀ b o, hp.get? b = some o → b ≠ a := fun b o z => Nat.ne_of_lt (Nat.lt_of_lt_of_le (Heap.lt_size z) sa)
      have kG : ∀ b o, hp.get? b = some o → G.get? b = some o := fun b o z => (gk b (na b o z)).trans (kk b o z)
      have kB : ∀ b o, G.get? b = some o → h'.get? b = some o := fun b o z => by
        by_cases hb : b = a
        · rw [hb, ga] at z
          cases z
        · exact (gk b hb).symm.trans z
      have xd : ObjOk X.prog X.w (upd H1 dx (.xd [(fld, v)])) G dx (.xd [(fld, v)]) := ⟨_, ns.at fun o z => (gk dx dn).trans z, fun z => by
        by_cases hz : z = fld
        · subst hz
          have q : RelO (some v) (some u) := ru
          simpa [List.lookup] using q
        · have e : (z == fld) = false := by simpa using hz
          have q : RelO none none := True.intro
          simpa [List.lookup, e, hz] using q⟩
      have J : Inv X pins σ (upd H1 dx (.xd [(fld, v)])) ⟨G, g, dr, tk', os⟩ := I1.laid (t' := tk') (a := dx) kG sd xd
      have hn : H1 a = none := I1.hok.fresh sa
      exact ⟨a, _, _, ⟨G, g, dr, tk', os⟩, _, .ref C, some dx, rfl, J, kB, ga, hx, ⟨rfl, rfl⟩, rfl, rfl, by rw [upd_ne (Ne.symm dn)]; exact hn, rfl, J.bare, r, q1 dx (I1.hok.fresh sd)⟩
end
end KN

set_option maxRecDepth 100000
set_option maxHeartbeats 4000000
namespace KN
open PySem PySem.Spec L2 PyProof.Rows

/-- C(), a class without a first def of its own -/
theorem pmk_bare {X : Cx} {C : Addr} {bmB : List Value} {B newId initId : String} {x : Str} {p pos : Pos} (F : ExcBaseFacts B newId initId bmB) (q : PySem.W.excIn X.K C bmB newId = true) (gC : X.mg x = some (.ref C)) (kC : PySem.W.keepIn X.K (.ref C) = true) (r : Raises X (.ref C)) (hg : Gl X x)
    (hdb : (x == ("__debug__" : Str)) = false) : PMk X (.Call (.Name x p) [] [] pos) (fun _ H Q => Q (.ref C) none H) := by
  intro pins s σ H Q I h
  refine wpAny_Call_Name_kw (ld_glob I hg gC ?_ hdb)
  refine PySem.W.callWith_K0 I.kIn kC ?_
  obtain ⟨bm, N, nm, qn, bs, hdct, sn, sub, ab, col, dd, k0, k1, k2, k3, k5, mN, hC, hN, hni, T⟩ := exc_obj I.kIn q
  exact wpAny_call_exc_subT F T hC hN hni (fun h' e hm => mk_of I hm r h (I.hok.gone hm.new)) (Nat.zero_le _)

/-- isinstance of the error that is held, with or without a dict -/
def rIsX (K : PySem.W.Frag) (D a : Addr) (d : Option Addr) : List V → Hp → VK → Prop := fun xs H Q => ∃ (c : V) (cv : Value) (b : Bool), xs = [.ref a, c] ∧ (∀ u, RelV c u → u = cv) ∧ PySem.W.kitOne K (.ref D) cv = some b ∧
  (∀ dd, d = some dd → ∃ fs, H dd = some (.xd fs)) ∧ Q (.bl b) H
theorem call_isX {X : Cx} {a D : Addr} {oe : Obj} {d : Option Addr} {pn : List (Addr × Obj)} (C : ExcC X.K D) (hz : Zc (.ref D) d oe) (hf : ∃ vs, oe.data = .fields vs) : CallR (X.suite a ((a, oe) :: pn)) (.builtin "isinstance") (rIsX X.K D a d) := by
  intro pins s σ H xs us Q I r h
  obtain ⟨c, cv, b, rfl, hcv, e, hd, q⟩ := h
  cases r with
  | cons rx rr =>
    cases rr with
    | cons rt rr =>
      cases rr
      cases rx
      have ec := hcv _ rt
      subst ec
      have hget := (I.pin (a, oe) (List.mem_append.mpr (.inl List.mem_cons_self))).1
      obtain ⟨vs, hv⟩ := hf
      have hcl : (PySem.W.clsIn X.K D).isSome = true := by
        obtain ⟨cd, h1, _⟩ := PySem.W.any_some C.hd
        rw [h1]
        rfl
      have fin : ∀ od : Option Obj, PySem.W.InstAt s.heap a oe D od → wpAny (model X.prog X.w) (X.A.mark (some (.ref a))) (call (.builtin "isinstance") [.ref a, _]) (EP (X.suite a ((a, oe) :: pn)) pins σ Q) (X.suite a ((a, oe) :: pn)).xe s := fun od J =>
        PySem.W.kia_one (PySem.W.kitx_exc hcl C.hg C.hk C.hs C.ha C.hn C.ht C.hm) I.kIn J e (fun z => nomatch z) fun tk => ⟨.bl b, H, I.kept (t' := tk) fun _ _ z => z, rfl, q⟩
      obtain ⟨h1, h2⟩ := hz
      cases d with
      | none => exact fin none ⟨hget, h1, by unfold PySem.W.notCls; rw [hv] <;> rfl, by rw [h2]; trivial⟩
      | some dd =>
        obtain ⟨fs, hfs⟩ := hd dd rfl
        obtain ⟨od, ho⟩ := objOk_get (I.hok dd _ hfs)
        exact fin (some od) ⟨hget, h1, by unfold PySem.W.notCls; rw [hv] <;> rfl, by rw [h2]; exact ho⟩

/-! ### try with several clauses, with or without a name -/
abbrev HX := Value × Option Nat × (Addr → Value → Option Addr → TS)
def offD : Option Nat → Ends → Ends
  | none, D => D
  | some i, D => { nx := fun σ H => D.nx (σ.set i none) H, rt := D.rt, bk := fun σ H => D.bk (σ.set i none) H, ct := fun σ H => D.ct (σ.set i none) H }
def onS : Option Nat → Addr → L2.St → L2.St
  | none, _, σ => σ
  | some i, a, σ => σ.set i (some (.ref a))
def wX (K : PySem.W.Frag) (Wout : WX) (D : Ends) : List HX → WX
  | [] => Wout
  | (c, i, ts) :: r => fun cls d σ H => ∃ b, PySem.W.exmOne K cls c = some b ∧ (b = true → ∀ a, H a = none → ts a cls d (offD i D) (onS i a σ) H) ∧ (b = false → wX K Wout D r cls d σ H)
inductive HdX (X : Cx) : List ExceptHandler → List HX → Prop
  | nil : HdX X [] []
  | only {x : Str} {c : Value} {ts : Addr → Value → Option Addr → TS} {b₀ : Stmt} {suite : List Stmt} {np hp : Pos} {hds : List ExceptHandler} {l : List HX} (hc : Names X x c)
      (hsu : ∀ (a : Addr) (oe : Obj) (cls : Value) (d : Option Addr) (pn : List (Addr × Obj)), Zc cls d oe → (∃ vs, oe.data = .fields vs) → PSs (X.suite a ((a, oe) :: pn)) (b₀ :: suite) (ts a cls d)) (r : HdX X hds l) :
      HdX X (.ExceptHandler (some (.Name x np)) none (b₀ :: suite) hp :: hds) ((c, none, ts) :: l)
  | named {x n : Str} {i : Nat} {c : Value} {ts : Addr → Value → Option Addr → TS} {b₀ : Stmt} {suite : List Stmt} {np hp : Pos} {hds : List ExceptHandler} {l : List HX} (hc : Names X x c) (hi : X.N[i]? = some n) (hln : X.env.kindOf n = some .local)
      (hsu : ∀ (a : Addr) (oe : Obj) (cls : Value) (d : Option Addr) (pn : List (Addr × Obj)), Zc cls d oe → (∃ vs, oe.data = .fields vs) → PSs (X.suite a ((a, oe) :: pn)) (b₀ :: suite) (ts a cls d)) (r : HdX X hds l) :
      HdX X (.ExceptHandler (some (.Name x np)) (some n) (b₀ :: suite) hp :: hds) ((c, some i, ts) :: l)
section
variable {X : Cx} {body : List Stmt} {h₀ : ExceptHandler} {hds : List ExceptHandler} {l : List HX} {pos : Pos} {tb : WX → TS} {Wout : WX}
theorem ps_tryX (hs : X.stack = X.env :: X.outer) (hf : X.env.frame = some X.env.locals) (hN : X.N.Nodup) (tk : Takes X Wout)
    (hb : ∀ (W : WX) (pn : List (Addr × Obj)) (xe : Value → Shared → Prop), Takes (X.tr pn xe) W → PassesOwn (model X.prog X.w) X.A X.env xe → PSs (X.tr pn xe) body (tb W))
    (hh : HdX X (h₀ :: hds) l) : PS X (.Try body (h₀ :: hds) [] [] pos) (fun D σ H => tb (wX X.K Wout D l) D σ H) := by
  refine ⟨fun pins s σ H D I h => ?_⟩
  have ok := I.ok
  have hfr : X.A.frames = some (X.env :: X.outer) := ok.frames.trans (congrArg some hs)
  refine wpAny_Try_except ?_
  refine wpAny_mono ((hb (wX X.K Wout D l) (X.pn ++ pins) (fun e s₁ => wpAny (model X.prog X.w) X.A (noteFrame e X.env) (fun _ s₂ => wpAny (model X.prog X.w) X.A (setFlight e none) (fun _ s₃ =>
    wpAny (model X.prog X.w) X.A (handleBy e X.env (h₀ :: hds)) (SP X pins D) X.xe s₃) X.xe s₂) X.xe s₁) (fun u s' xx => ?_) PassesOwn.looking).run [] s σ H D (I.toTry _) h) (fun f s1 hsp => ?_) (fun e s1 he => he)
  · obtain ⟨a, B, sI, pins', σ', H', cls, d, rfl, J', nb, up, sky, na, os, ag, w⟩ := xx
    have J : Inv X pins σ' H' sI := J'.ofTry ok
    have sky2 : Sky B (X.env :: X.outer) a (Zc cls d) X.env.locals s'.heap := hs ▸ sky
    show wpAny (model X.prog X.w) X.A (noteFrame (.ref a) X.env) _ _ _
    refine Sky.land Zc.steady hfr hf sky2 fun h3 fl3 up3 => ?_
    have J3 : Inv X pins σ' H' { s' with heap := h3 } := J.landed nb fl3.1 (up.trans up3) os ag
    obtain ⟨oe3, vs3, he3, hz3, hd3⟩ := fl3.there
    have nfr : a ∉ frs (X.env :: X.outer) := fun hm => by
      obtain ⟨_, o', e', hnf⟩ := fl3.2.2.1.mem hm
      rw [he3] at e'
      cases e'
      exact hnf _ hd3
    have nL : a ≠ X.env.locals := fun z => nfr (List.mem_filterMap.mpr ⟨X.env, List.mem_cons_self, hf.trans (congrArg some z.symm)⟩)
    have nF : a ∉ X.fs := fun hm => by
      obtain ⟨e, he, q⟩ := List.mem_filterMap.mp hm
      exact nfr (List.mem_filterMap.mpr ⟨e, .tail _ he, q⟩)
    have S3 := J3.suite he3 hd3 na nL nF
    have LT : PySem.W.Looks (model X.prog X.w) h3 (typeOf (.ref a)) cls := fun A Q E s k q => wpAny_typeOf_ref (k _ _ he3) (hz3.1.symm ▸ q)
    have test : ∀ {x : Str} {np : Pos} {c : Value} {Q : Value → Shared → Prop} {E : Value → Shared → Prop}, Names X x c → Q c { s' with heap := h3 } → wpAny (model X.prog X.w) (X.A.mark (some (.ref a))) (eval (.Name x np) X.env) Q E { s' with heap := h3 } := fun {x np c Q E} hc q => by
      obtain ⟨hg, hdbg, hm | ⟨hm, hv, hnn⟩⟩ := hc
      · exact ld_glob (X := X.suite a ((a, oe3) :: (X.pn ++ pins))) S3 hg hm q hdbg
      · exact ld_blt (X := X.suite a ((a, oe3) :: (X.pn ++ pins))) S3 hg hm hv q hnn hdbg
    have go : ∀ {hds' : List ExceptHandler} {l' : List HX}, HdX X hds' l' → wX X.K Wout D l' cls d σ' H' → wpAny (model X.prog X.w) X.A (handleBy (.ref a) X.env hds') (SP X pins D) X.xe { s' with heap := h3 } := by
      intro hds' l' hk
      induction hk with
      | nil =>
        intro w
        refine wpAny_handleBy_nil ?_
        obtain ⟨k1, k2, k3, oe, vs, T, oT, ts', he, hz, hd, h1, hr⟩ := id fl3
        unfold PySem.passOn
        refine wpAny_bind (wpAny_field he hd h1 ?_)
        rw [if_neg (show ¬ ((Value.ref T == Value.none) = true) from by simp)]
        have fin : wpAny (model X.prog X.w) X.A (setFlight (.ref a) X.env.frame) (fun _ s4 => wpAny (model X.prog X.w) X.A (throw (.ref a) : Sem Flow) (SP X pins D) X.xe s4) X.xe { s' with heap := h3 } := by
          rw [hf]
          refine HandSPX.setFlight_upZ fl3 fun h4 hh4 up4 => wpAny_throw (tk _ _ ?_)
          exact ⟨a, B, sI, pins, σ', H', cls, d, rfl, J, nb, (up.trans up3).trans up4, .inr (.inr (hs.symm ▸ hh4)), na, os, ag, w⟩
        first | exact wpAny_bind (wpAny_pure (wpAny_bind fin)) | exact wpAny_bind fin
      | @only x c ts b₀ suite np hp hds2 l2 hc hsu r ih =>
        intro w
        obtain ⟨b, hb1, hyes, hno⟩ := w
        refine wpAny_handleBy_cons (codeAny_handlers_test ?_) (by intro q; cases q)
        have LM := PySem.W.exm_one (M := model X.prog X.w) J3.kIn LT hb1
        refine test hc (LM.here ?_)
        cases b with
        | true =>
          refine codeAny_handlers_suite ?_
          refine HandSPX.lands_againZ fl3 fun h4 fl4 up4 => ?_
          have J4 : Inv X pins σ' H' { s' with heap := h4 } := J.landed nb fl4.1 ((up.trans up3).trans up4) os ag
          obtain ⟨oe4, vs4, he4, hz4, hd4⟩ := fl4.there
          have S4 := J4.suite he4 hd4 na nL nF
          refine wpAny_mono ((hsu a oe4 cls d (X.pn ++ pins) hz4 ⟨_, hd4⟩).run [] _ _ H' _ S4 (hyes rfl a na)) (fun f s6 hsp => ?_) (fun _ _ z => False.elim z)
          cases f with
          | ret u =>
            obtain ⟨v6, σ6, H6, S6, r6, q6⟩ := hsp
            exact ⟨_, _, _, S6.unsuite ok, r6, q6⟩
          | _ =>
            obtain ⟨σ6, H6, S6, q6⟩ := hsp
            exact ⟨_, _, S6.unsuite ok, q6⟩
        | false => exact ih (hno rfl)
      | @named x n i c ts b₀ suite np hp hds2 l2 hc hi hln hsu r ih =>
        intro w
        obtain ⟨b, hb1, hyes, hno⟩ := w
        refine wpAny_handleBy_cons (codeAny_handlers_test ?_) (by intro q; cases q)
        have LM := PySem.W.exm_one (M := model X.prog X.w) J3.kIn LT hb1
        refine test hc (LM.here ?_)
        cases b with
        | true =>
          refine codeAny_handlers_suite_as ?_
          refine HandSPX.lands_againZ fl3 fun h4 fl4 up4 => ?_
          have J4 : Inv X pins σ' H' { s' with heap := h4 } := J.landed nb fl4.1 ((up.trans up3).trans up4) os ag
          obtain ⟨oe4, vs4, he4, hz4, hd4⟩ := fl4.there
          have S4 := J4.suite he4 hd4 na nL nF
          refine store_ok (X := X.suite a ((a, oe4) :: (X.pn ++ pins))) (v := .ref a) S4 hN hi (.inl hln) rfl (fun s5 S5 => ?_) (.inr hln)
          refine wpAny_mono ((hsu a oe4 cls d (X.pn ++ pins) hz4 ⟨_, hd4⟩).run [] s5 _ H' _ S5 (hyes rfl a na)) (fun f s6 hsp => ?_) (fun _ _ z => False.elim z)
          have away : ∀ {σ6 : L2.St} {H6 : Hp} {Q : Shared → Prop}, Inv (X.suite a ((a, oe4) :: (X.pn ++ pins))) [] σ6 H6 s6 → (∀ s7, Inv X pins (σ6.set i none) H6 s7 → Q s7) →
              wpAny (model X.prog X.w) X.A (do bindName X.env n .none; unbindBehindTheSuite X.env n hp) (fun _ s7 => Q s7) X.xe s6 := fun {σ6 H6 Q} S6 hq => gone_ok (S6.unsuite ok) hN hi hln hq
          cases f with
          | ret u =>
            obtain ⟨v6, σ6, H6, S6, r6, q6⟩ := hsp
            exact away S6 fun s7 J7 => ⟨_, _, _, J7, r6, q6⟩
          | _ =>
            obtain ⟨σ6, H6, S6, q6⟩ := hsp
            exact away S6 fun s7 J7 => ⟨_, _, J7, q6⟩
        | false => exact ih (hno rfl)
    exact go hh w
  · cases f with
    | next =>
      obtain ⟨σ', H', J', q⟩ := hsp
      exact wpAny_execs_nil ⟨σ', H', J'.ofTry ok, q⟩
    | ret u =>
      obtain ⟨v, σ', H', J', r, q⟩ := hsp
      exact ⟨v, σ', H', J'.ofTry ok, r, q⟩
    | _ =>
      obtain ⟨σ', H', J', q⟩ := hsp
      exact ⟨σ', H', J'.ofTry ok, q⟩
end
end KN

set_option maxRecDepth 100000
namespace KN
open PySem L2

/-! ### the texts: expressions, statements (a def's own names by their slots) -/
abbrev D := PyData

inductive Bi where
  | len | list | tuple | int | abs | sum | max | min | all | any | sorted | dict
  deriving DecidableEq

/-- what a for walks: a value, a range, enumerate, zip -/
inductive IK where
  | ex | range | enum | zip | items | vals
  deriving DecidableEq

/-- a target: one name, a tuple of names -/
inductive Tg where
  | nm (i : Nat) | tup (is : List Nat)
  deriving DecidableEq

inductive E where
  | var (i : Nat) | peek (i : Nat)
  | non | bl (b : Bool) | int (i : Int) | str (x : Str)
  | glob (x : Str) (d : D)
  | bin (op : Operator) (a b : E) | cmp (op : CmpOp) (a b : E) | chain (o1 o2 : CmpOp) (a b c : E)
  | neg (a : E) | not (a : E) | and (a b : E) | or (a b : E)
  | ite (c a b : E)
  | bi (f : Bi) (es : List E)
  | isi (a : E) (ts : List String) (tup : Bool)
  | tget (i : Nat) (b : E) | get (a b : E) | slice (a lo hi : E) | rev (a : E) | sset (a : E) | lrg (es : List E)
  | lst (es : List E) | tup (es : List E) | star (e : E) | dic0 | dic1 (a b : E)
  | dget (a k x : E) | sitm (a : E) | idx (a b : E)
  | call (f : Nat) (es : List E)
  | callN (f : Nat) (es : List E)
  | callK (f : Nat) (perm : List Nat) (es ks : List E)
  | callT (f : Nat) (i : Nat) (es : List E)
  | callR (f : Nat) (e : E) (es : List E)
  | callI (fs : List Nat) (ix : E) (es : List E)
  | comp (elt : E) (tg : Tg) (ik : IK) (src : List E) (cond : E)
  | comp2 (elt : E) (tg : Tg) (ik : IK) (src : List E) (cond : E) (tg1 : Tg) (ik1 : IK) (src1 : List E) (cond1 : E)
  | dcomp (ke ve : E) (tg : Tg) (ik : IK) (src : List E) (cond : E)
  | absent

/-! ### errors -/
structure Xc where
  name : Str
  fld : Option Str
  base : String
  deriving DecidableEq
/-- the errors that a text may know, each by its place -/
def xcs : List Xc := [⟨"NoName", some "name", "LookupError"⟩, ⟨"NoNumber", some "number", "LookupError"⟩, ⟨"NothingDone", none, "LookupError"⟩, ⟨"Twice", some "name", "ValueError"⟩,
  ⟨"NoOrder", none, "ValueError"⟩, ⟨"NoPaper", none, "ValueError"⟩, ⟨"BadText", none, "ValueError"⟩, ⟨"BadLine", some "number", "ValueError"⟩]
/-- an error: its class, what it tells -/
structure Exn where
  c : Nat
  v : D
def Exn.enc (x : Exn) : D := .tuple [.int x.c, x.v]
def exDec : D → Option Exn
  | .tuple [.int c, v] => some ⟨c.toNat, v⟩
  | _ => none
def mkX (c : Nat) (ds : List D) : Option Exn := match xcs[c]?, ds with
  | some ⟨_, some _, _⟩, [v] => some ⟨c, v⟩
  | some ⟨_, none, _⟩, [] => some ⟨c, .none⟩
  | _, _ => none
def isX (c : Nat) (T : String) : Bool := match xcs[c]? with
  | some k => k.base == T
  | none => false
/-- what a clause writes down -/
inductive HA where
  | str (x : Str) | bl (b : Bool) | non | int (i : Int) | fld | isi (T : String)
  deriving DecidableEq
inductive HE where
  | one (a : HA) | lst (as : List HA)
  deriving DecidableEq
def HA.toE (x : Exn) : HA → E
  | .str z => .str z
  | .bl b => .bl b
  | .non => .non
  | .int i => .int i
  | .fld => .glob "" x.v
  | .isi T => .glob "" (.bool (isX x.c T))
def HE.toE (x : Exn) : HE → E
  | .one a => a.toE x
  | .lst as => .lst (as.map (HA.toE x))
/-- a clause: the class, the name's slot, whether it returns, the slot it writes, what -/
structure Hd where
  c : Nat
  slot : Option Nat
  ret : Bool
  tgt : Nat
  val : HE
  deriving DecidableEq
/-- where a def's errors are asked for -/
def XB : Nat := 1000000

inductive S where
  | asg (i : Nat) (e : E) | asgO (i : Nat) (e : E)
  | unp (is : List Nat) (e : E) | par (ts : List (Nat × Bool)) (es : List E)
  | sto (i : Nat) (ix e : E) | stoT (i : Nat) (ix e : E)
  | app (i : Nat) (e : E) | extd (i : Nat) (e : E) | pop (tg : Tg) (i : Nat) | rais (c : Nat) (es : List E) | tryx (body : List S) (hs : List Hd)
  | expr (e : E) | ret (e : E)
  | ite (c : E) (a b : List S)
  | loop (tg : Tg) (ik : IK) (src : List E) (body : List S)
  | while (n : Nat) (c : E) (body : List S)
  | cont | pass | frz (i : Nat)
  | ask2 (i f : Nat) (a : List S)

/-- what a slot holds: data that stays, a list of the def's own, the box of draws -/
inductive Od where
  | lst (ds : List D) | dic (kvs : List (D × D))
inductive Ent where
  | dat (d : D) | own (o : Od) | tin
def Od.data : Od → D
  | .lst ds => .list ds
  | .dic kvs => .dict kvs

abbrev En := List (Option Ent)
/-- a step: the box's content goes through -/
abbrev M (α : Type) := List D → Option (α × List D)
def M.ret {α : Type} (a : α) : M α := fun τ => some (a, τ)
def M.bnd {α β : Type} (x : M α) (f : α → M β) : M β := fun τ => match x τ with
  | none => none
  | some (a, τ') => f a τ'
def M.of {α : Type} (o : Option α) : M α := fun τ => match o with
  | none => none
  | some a => some (a, τ)
def M.fail {α : Type} : M α := fun _ => none

/-! ### operations on data -/
open PySem.W (dataLt alike)
def isKey : D → Bool
  | .int _ | .str _ => true
  | _ => false
def eqK : D → D → Bool
  | .int a, .int b => decide (a = b)
  | .str a, .str b => decide (a = b)
  | _, _ => false
def lookK : List (D × D) → D → Option D
  | [], _ => none
  | (k, v) :: r, x => if eqK k x then some v else lookK r x
def putKD (kvs : List (D × D)) (k v : D) : List (D × D) :=
  if (kvs.any fun p => eqK p.1 k) = true then kvs.map (fun p => if eqK p.1 k then (p.1, v) else p) else kvs ++ [(k, v)]
def hasK (kvs : List (D × D)) (x : D) : Bool := (lookK kvs x).isSome
/-- pairs one behind another -/
def mergeKD : List (D × D) → List (D × D) → List (D × D)
  | acc, [] => acc
  | acc, (k, v) :: r => mergeKD (putKD acc k v) r
def pairD : D → Option (D × D)
  | .tuple [k, v] => if isKey k then some (k, v) else none
  | _ => none
def pairsD : List D → Option (List (D × D))
  | [] => some []
  | x :: r => match pairD x, pairsD r with
    | some p, some l => some (p :: l)
    | _, _ => none
/-- no list, no dict -/
def still : D → Bool
  | .list _ | .dict _ => false
  | _ => true
def ordD : D → Bool
  | .none | .dict _ => false
  | _ => true
def ltD (a b : D) : Option Bool := if alike a b && ordD a && (SeqAt.shaped a && SeqAt.shaped b) then some (dataLt a b) else none
def allAlike (xs : List D) : Bool := xs.all fun x => ordD x && (x.canLay0 && decide (x.depth ≤ 40)) && xs.all fun y => alike x y
def insD (x : D) : List D → List D
  | [] => [x]
  | y :: r => if dataLt y x then y :: insD x r else x :: y :: r
def sortD : List D → List D
  | [] => []
  | x :: r => insD x (sortD r)
def minD : D → List D → D
  | m, [] => m
  | m, x :: r => minD (if dataLt x m then x else m) r
def maxD : D → List D → D
  | m, [] => m
  | m, x :: r => maxD (if dataLt m x then x else m) r
def lineOk (n : Nat) : Bool := decide (n ≤ 16777216)
def mulOk (i j : Int) : Bool := (decide (-(2 ^ 64) < i) && decide (i < 2 ^ 64)) || (decide (-(2 ^ 64) < j) && decide (j < 2 ^ 64))

def binD : Operator → D → D → Option D
  | .Add, .int a, .int b => some (.int (a + b))
  | .Add, .str a, .str b => if lineOk (a.length + b.length) then some (.str (a ++ b)) else none
  | .Add, .list a, .list b => if lineOk (a.length + b.length) then some (.list (a ++ b)) else none
  | .Add, .tuple a, .tuple b => if lineOk (a.length + b.length) then some (.tuple (a ++ b)) else none
  | .Sub, .int a, .int b => some (.int (a - b))
  | .Mult, .int a, .int b => if mulOk a b then some (.int (a * b)) else none
  | .Mult, .list a, .int k => if decide (-(2 ^ 63) ≤ k) && decide (k < 2 ^ 63) && lineOk (a.length * k.toNat) then some (.list (List.replicate k.toNat a).flatten) else none
  | .Mult, .tuple a, .int k => if !a.isEmpty && decide (2 ≤ k) && decide (k ≤ 1000) && decide (a.length ≤ 1000) then some (.tuple (List.replicate k.toNat a).flatten) else none
  | .Mod, .int a, .int b => if 0 < b then some (.int (a % b)) else none
  | .FloorDiv, .int a, .int b => if decide (0 < b) && decide (b < 1073741824) then some (.int (a / b)) else none
  | .Pow, .int a, .int b => if decide (0 ≤ b) && decide (b ≤ 1000000) && decide (a.natAbs < 2 ^ 64) then some (.int (a ^ b.toNat)) else none
  | .LShift, .int a, .int b => if decide (0 ≤ b) && decide (b ≤ 1000000) && decide (a.natAbs < 2 ^ 64) then some (.int (a * 2 ^ b.toNat)) else none
  | .BitAnd, .int a, .int b => some (.int (Builtin.bitAnd a b))
  | .BitOr, .int a, .int b => some (.int (Builtin.bitOr a b))
  | _, _, _ => none

/-- flat: what stands in a list whose members are looked for -/
def flatD : D → Bool
  | .none | .bool _ | .int _ | .str _ => true
  | _ => false
def inD (x : D) (xs : List D) : Bool := xs.any fun y => PyData.eqv y x
def inSeq (neg : Bool) (x : D) (xs : List D) : Option D :=
  if x.canLay0 && decide (x.depth ≤ 40) && PyData.canLayAll0 xs then some (.bool (if neg then !inD x xs else inD x xs)) else none
def strOne (x : Str) : Option Nat := match x.cps.toList with
  | [c] => some c
  | _ => none
def isNone : D → Bool
  | .none => true
  | _ => false
def cmpD : CmpOp → D → D → Option D
  | .Eq, a, b => if SeqAt.shaped a && SeqAt.shaped b then some (.bool (PyData.eqv a b)) else none
  | .NotEq, a, b => if SeqAt.shaped a && SeqAt.shaped b then some (.bool (!PyData.eqv a b)) else none
  | .Lt, a, b => (ltD a b).map .bool
  | .LtE, a, b => (ltD b a).map fun k => .bool !k
  | .Gt, a, b => (ltD b a).map .bool
  | .GtE, a, b => (ltD a b).map fun k => .bool !k
  | .Is, a, .none => some (.bool (isNone a))
  | .IsNot, a, .none => some (.bool (!isNone a))
  | .In, x, .list xs => inSeq false x xs
  | .In, x, .tuple xs => inSeq false x xs
  | .NotIn, x, .list xs => inSeq true x xs
  | .NotIn, x, .tuple xs => inSeq true x xs
  | .In, x, .dict kvs => if isKey x then some (.bool (hasK kvs x)) else none
  | .NotIn, x, .dict kvs => if isKey x then some (.bool (!hasK kvs x)) else none
  | .In, .str a, .str b => match strOne a with
    | some c => some (.bool (decide (c ∈ b.cps.toList)))
    | none => none
  | .NotIn, .str a, .str b => match strOne a with
    | some c => some (.bool (!decide (c ∈ b.cps.toList)))
    | none => none
  | _, _, _ => none

def truD : D → Option Bool
  | .none => some false
  | .bool b => some b
  | .int i => some (i != 0)
  | .str x => if lineOk x.length then some ((x.length : Int) != 0) else none
  | .list xs => some (!xs.isEmpty)
  | .tuple xs => some (!xs.isEmpty)
  | .dict _ => none

def intsOf : List D → Option (List Int)
  | [] => some []
  | .int i :: r => match intsOf r with
    | some l => some (i :: l)
    | none => none
  | _ :: _ => none
def strsOf : List D → Option (List Str)
  | [] => some []
  | .str i :: r => match strsOf r with
    | some l => some (i :: l)
    | none => none
  | _ :: _ => none
def blsOf : List D → Option (List Bool)
  | [] => some []
  | .bool i :: r => match blsOf r with
    | some l => some (i :: l)
    | none => none
  | _ :: _ => none
def dedD : List D → List D
  | [] => []
  | x :: r => if r.any (fun y => eqK y x) then dedD r else x :: dedD r
def keysOk (xs : List D) : Bool := decide (xs.length < 64) && ((intsOf xs).isSome || (strsOf xs).isSome)
def setOk (xs : List D) : Bool := decide (xs.length ≤ 4000) && decide ((dedD xs).length < 64) && ((intsOf xs).isSome || (strsOf xs).isSome)
/-- sorted, each once -/
def ssetL (xs : List D) : Option D := if setOk xs then some (.list (sortD (dedD xs))) else none
def ssetD : D → Option D
  | .list xs => ssetL xs
  | .tuple xs => ssetL xs
  | _ => none
def sortL (xs : List D) : Option D := if allAlike xs && lineOk xs.length then some (.list (sortD xs)) else none
def biD : Bi → List D → Option D
  | .len, [.list xs] => some (.int xs.length)
  | .len, [.tuple xs] => some (.int xs.length)
  | .len, [.dict kvs] => some (.int kvs.length)
  | .len, [.str x] => if lineOk x.length then some (.int x.length) else none
  | .list, [.list xs] => some (.list xs)
  | .list, [.tuple xs] => some (.list xs)
  | .list, [.dict kvs] => some (.list (kvs.map (·.1)))
  | .list, [.str z] => if lineOk z.length then some (.list (z.cps.toList.map fun c => .str ⟨#[c]⟩)) else none
  | .tuple, [.list xs] => some (.tuple xs)
  | .tuple, [.tuple xs] => some (.tuple xs)
  | .tuple, [.str z] => if lineOk z.length then some (.tuple (z.cps.toList.map fun c => .str ⟨#[c]⟩)) else none
  | .int, [.int i] => some (.int i)
  | .int, [.bool k] => some (.int (if k then 1 else 0))
  | .abs, [.int i] => some (.int (if i < 0 then -i else i))
  | .sum, [.list xs] => match intsOf xs with
    | some ns => some (.int ns.sum)
    | none => none
  | .sum, [.tuple xs] => match intsOf xs with
    | some ns => some (.int ns.sum)
    | none => none
  | .max, [.list (x :: xs)] => if allAlike (x :: xs) && (x :: xs).all still then some (maxD x xs) else none
  | .min, [.list (x :: xs)] => if allAlike (x :: xs) && (x :: xs).all still then some (minD x xs) else none
  | .max, [.tuple (x :: xs)] => if allAlike (x :: xs) && (x :: xs).all still then some (maxD x xs) else none
  | .min, [.tuple (x :: xs)] => if allAlike (x :: xs) && (x :: xs).all still then some (minD x xs) else none
  | .max, [.int i, .int j] => some (.int (if j > i then j else i))
  | .min, [.int i, .int j] => some (.int (if j < i then j else i))
  | .all, [.list xs] => match blsOf xs with
    | some bs => some (.bool (bs.all id))
    | none => none
  | .any, [.list xs] => match blsOf xs with
    | some bs => some (.bool (bs.any id))
    | none => none
  | .sorted, [.list xs] => sortL xs
  | .sorted, [.tuple xs] => sortL xs
  | .sorted, [.dict kvs] => if keysOk (kvs.map (·.1)) then some (.list (sortD (kvs.map (·.1)))) else none
  | .dict, [.list xs] => match pairsD xs with
    | some kvs => some (.dict (mergeKD [] kvs))
    | none => none
  | .dict, [.tuple xs] => match pairsD xs with
    | some kvs => some (.dict (mergeKD [] kvs))
    | none => none
  | _, _ => none

def tyD : D → String
  | .none => "NoneType"
  | .bool _ => "bool"
  | .int _ => "int"
  | .str _ => "str"
  | .list _ => "list"
  | .tuple _ => "tuple"
  | .dict _ => "dict"
def kitAnyB (t : String) : List String → Option Bool
  | [] => some false
  | c :: cs => match kitB t c with
    | some true => some true
    | some false => kitAnyB t cs
    | none => none
def isiD (d : D) (ts : List String) : Option D := match kitAnyB (tyD d) ts with
  | some b => some (.bool b)
  | none => none

def getD : D → D → Option D
  | .list xs, .int i => atI xs i
  | .tuple xs, .int i => atI xs i
  | .str z, .int i => if lineOk z.length then (match atI z.cps.toList i with
    | some c => some (.str ⟨#[c]⟩)
    | none => none) else none
  | .dict kvs, k => if isKey k then lookK kvs k else none
  | _, _ => none
def dgetD : D → D → D → Option D
  | .dict kvs, k, x => if isKey k then some ((lookK kvs k).getD x) else none
  | _, _, _ => none
def cutL {α : Type} (xs : List α) (lo hi : Option Int) : List α := (xs.drop (HT.sIx xs.length 0 lo)).take (HT.sIx xs.length xs.length hi - HT.sIx xs.length 0 lo)
def sliceD : D → Option Int → Option Int → Option D
  | .list xs, lo, hi => some (.list (cutL xs lo hi))
  | .tuple xs, lo, hi => some (.tuple (cutL xs lo hi))
  | .str z, lo, hi => if lineOk z.length then some (.str (cutS z lo hi)) else none
  | _, _, _ => none
def revD : D → Option D
  | .list xs => some (.list xs.reverse)
  | _ => none
def lstD : D → Option (List D)
  | .list xs => some xs
  | _ => none
/-- the members of what a star, a for takes -/
def seqD : D → Option (List D)
  | .list xs => some xs
  | .tuple xs => some xs
  | _ => none
def itemsD : D → Option (List D)
  | .list xs => some xs
  | .tuple xs => some xs
  | .str z => some (z.cps.toList.map fun c => .str ⟨#[c]⟩)
  | .dict kvs => some (kvs.map (·.1))
  | _ => none
def itmD (kvs : List (D × D)) : List D := kvs.map fun p => .tuple [p.1, p.2]
def sitmD : D → Option D
  | .dict kvs => sortL (itmD kvs)
  | _ => none
/-- the first place of an equal one -/
def idxL : List D → D → Option Nat
  | [], _ => none
  | x :: r, y => if PyData.eqv x y = true then some 0 else (match idxL r y with
    | some i => some (i + 1)
    | none => none)
def idxD : D → D → Option D
  | .list ds, y => if PyData.canLayAll0 ds && y.canLay0 && decide (y.depth ≤ 40) then (match idxL ds y with
    | some j => some (.int (j : Nat))
    | none => none) else none
  | _, _ => none
def seqOrStr : D → Option (List D)
  | .list xs => some xs
  | .tuple xs => some xs
  | .str z => some (z.cps.toList.map fun c => .str ⟨#[c]⟩)
  | _ => none
def enumFrom : Nat → List D → List D
  | _, [] => []
  | n, d :: r => .tuple [.int n, d] :: enumFrom (n + 1) r
def zipD : List D → List D → List D
  | a :: r, b :: q => .tuple [a, b] :: zipD r q
  | _, _ => []
def rangeD (lo : Int) : Nat → List D
  | 0 => []
  | n + 1 => .int lo :: rangeD (lo + 1) n
def near62 (i : Int) : Bool := decide (-(2 ^ 62) ≤ i) && decide (i < 2 ^ 62)
def walkD : IK → List D → Option (List D)
  | .ex, [d] => itemsD d
  | .range, [.int j] => if near62 j && lineOk j.toNat then some (rangeD 0 j.toNat) else none
  | .range, [.int i, .int j] => if near62 i && near62 j && lineOk (j - i).toNat then some (rangeD i (j - i).toNat) else none
  | .enum, [d] => match seqOrStr d with
    | some xs => some (enumFrom 0 xs)
    | none => none
  | .zip, [.list xs, .list ys] => some (zipD xs ys)
  | .zip, [.tuple xs, .tuple ys] => some (zipD xs ys)
  | .zip, [.list xs, .tuple ys] => some (zipD xs ys)
  | .zip, [.tuple xs, .list ys] => some (zipD xs ys)
  | .items, [.dict kvs] => some (itmD kvs)
  | .vals, [.dict kvs] => some (kvs.map (·.2))
  | _, _ => none

def walkC (ik : IK) (xs : List D) : Option (List D) := match walkD ik xs with
  | some items => if lineOk items.length then some items else none
  | none => none
/-- list(range(..)) -/
def lrgD (xs : List D) : Option D := match walkC .range xs with
  | some items => some (.list items)
  | none => none
instance : Inhabited PyData := ⟨.none⟩
/-! ### slots -/
def setDs : List Nat → List D → En → Option En
  | [], [], ρ => some ρ
  | i :: is, d :: ds, ρ => setDs is ds (ρ.set i (some (.dat d)))
  | _, _, _ => none
def odP : D → Option Od
  | .list ds => some (.lst ds)
  | .dict kvs => some (.dic kvs)
  | _ => none
def setPar : List (Nat × Bool) → List D → En → Option En
  | [], [], ρ => some ρ
  | (i, false) :: is, d :: ds, ρ => setPar is ds (ρ.set i (some (.dat d)))
  | (i, true) :: is, d :: ds, ρ => match odP d with
    | some o => setPar is ds (ρ.set i (some (.own o)))
    | none => none
  | _, _, _ => none
def setTg : Tg → D → En → Option En
  | .nm i, d, ρ => some (ρ.set i (some (.dat d)))
  | .tup is, .tuple ds, ρ => setDs is ds ρ
  | _, _, _ => none
def Tg.slots : Tg → List Nat
  | .nm i => [i]
  | .tup is => is
def wipeE (ρ : En) : List Nat → En
  | [] => ρ
  | v :: vs => (wipeE ρ vs).set v none

/-! ### the evaluator -/
def E.gone : E → Bool
  | .absent => true
  | _ => false
def intP : D → M (Option Int)
  | .int i => .ret (some i)
  | _ => .fail
def isTin (ρ : En) (i : Nat) : Bool := match ρ[i]? with
  | some (some .tin) => true
  | _ => false
def permL {α : Type} [Inhabited α] (perm : List Nat) (l : List α) : List α := perm.map fun i => l.getD i default
/-- a comprehension's walk -/
def compL (f : D → M (Option D)) : List D → M (List D)
  | [] => .ret []
  | d :: ds => (f d).bnd fun o => (compL f ds).bnd fun r => .ret (match o with
    | some x => x :: r
    | none => r)

def comp2L (f : D → M (List D)) : List D → M (List D)
  | [] => .ret []
  | d :: ds => (f d).bnd fun x => (comp2L f ds).bnd fun r => .ret (x ++ r)

section
variable (C : Nat → List D → M D)
mutual
def evE : E → En → M D
  | .var i, ρ => fun τ => match ρ[i]? with
    | some (some (.dat d)) => some (d, τ)
    | _ => none
  | .peek i, ρ => fun τ => match ρ[i]? with
    | some (some (.own o)) => some (o.data, τ)
    | _ => none
  | .non, _ => .ret .none
  | .bl b, _ => .ret (.bool b)
  | .int i, _ => .ret (.int i)
  | .str x, _ => .ret (.str x)
  | .glob _ z, _ => .ret z
  | .bin op a b, ρ => (evE a ρ).bnd fun x => (evE b ρ).bnd fun y => .of (binD op x y)
  | .cmp op a b, ρ => (evE a ρ).bnd fun x => (evE b ρ).bnd fun y => .of (cmpD op x y)
  | .chain o1 o2 a b c, ρ => (evE a ρ).bnd fun x => (evE b ρ).bnd fun y => (M.of (cmpD o1 x y)).bnd fun r => match r with
    | .bool true => (evE c ρ).bnd fun z => .of (cmpD o2 y z)
    | .bool false => .ret (.bool false)
    | _ => .fail
  | .neg a, ρ => (evE a ρ).bnd fun x => match x with
    | .int i => .ret (.int (-i))
    | _ => .fail
  | .not a, ρ => (evE a ρ).bnd fun x => (M.of (truD x)).bnd fun k => .ret (.bool (!k))
  | .and a b, ρ => (evE a ρ).bnd fun x => (M.of (truD x)).bnd fun k => if k then evE b ρ else .ret x
  | .or a b, ρ => (evE a ρ).bnd fun x => (M.of (truD x)).bnd fun k => if k then .ret x else evE b ρ
  | .ite c a b, ρ => (evE c ρ).bnd fun x => (M.of (truD x)).bnd fun k => if k then evE a ρ else evE b ρ
  | .bi f es, ρ => (evEs es ρ).bnd fun ds => .of (biD f ds)
  | .isi a ts _, ρ => (evE a ρ).bnd fun x => .of (isiD x ts)
  | .get a b, ρ => (evE a ρ).bnd fun x => (evE b ρ).bnd fun y => .of (getD x y)
  | .tget i b, ρ => (evE b ρ).bnd fun y τ => if isTin ρ i then (match getD (.list τ) y with
    | some d => some (d, τ)
    | none => none) else none
  | .slice a lo hi, ρ => (evE a ρ).bnd fun x => (if lo.gone then .ret none else (evE lo ρ).bnd intP).bnd fun l => (if hi.gone then .ret none else (evE hi ρ).bnd intP).bnd fun h => .of (sliceD x l h)
  | .rev a, ρ => (evE a ρ).bnd fun x => .of (revD x)
  | .sset a, ρ => (evE a ρ).bnd fun x => .of (ssetD x)
  | .lrg es, ρ => (evEs es ρ).bnd fun xs => .of (lrgD xs)
  | .lst es, ρ => (evEs es ρ).bnd fun ds => if lineOk ds.length then .ret (.list ds) else .fail
  | .tup es, ρ => (evEs es ρ).bnd fun ds => if lineOk ds.length then .ret (.tuple ds) else .fail
  | .star _, _ => .fail
  | .dic0, _ => .ret (.dict [])
  | .dic1 a b, ρ => (evE a ρ).bnd fun y => (evE b ρ).bnd fun z => if isKey y then .ret (.dict [(y, z)]) else .fail
  | .dget a k x, ρ => (evE a ρ).bnd fun d => (evE k ρ).bnd fun y => (evE x ρ).bnd fun z => .of (dgetD d y z)
  | .sitm a, ρ => (evE a ρ).bnd fun x => .of (sitmD x)
  | .idx a b, ρ => (evE a ρ).bnd fun x => (evE b ρ).bnd fun y => .of (idxD x y)
  | .call f es, ρ => (evEs es ρ).bnd fun ds τ => match C f ds [] with
    | some (d, _) => some (d, τ)
    | none => none
  | .callN f es, ρ => (evEs es ρ).bnd fun ds τ => match C f ds [] with
    | some (d, _) => some (d, τ)
    | none => none
  | .callK f perm es ks, ρ => (evEs es ρ).bnd fun ds => (evEs ks ρ).bnd fun zs τ => match C f (permL perm (ds ++ zs)) [] with
    | some (d, _) => some (d, τ)
    | none => none
  | .callT f i es, ρ => (evEs es ρ).bnd fun ds τ => if isTin ρ i then C f ds τ else none
  | .callR f e es, ρ => (evE e ρ).bnd fun x => (evEs es ρ).bnd fun ds τ => match x with
    | .list τ0 => match C f ds τ0 with
      | some (d, _) => some (d, τ)
      | none => none
    | _ => none
  | .callI fs ix es, ρ => (evE ix ρ).bnd fun k => (evEs es ρ).bnd fun ds τ => match k with
    | .int j => (match atI fs j with
      | some f => (match C f ds [] with
        | some (d, _) => some (d, τ)
        | none => none)
      | none => none)
    | _ => none
  | .comp elt tg ik src cond, ρ => (evEs src ρ).bnd fun xs => (M.of (walkC ik xs)).bnd fun items =>
    (compL (fun d => (M.of (setTg tg d (wipeE ρ tg.slots))).bnd fun ρ' => (if cond.gone then .ret true else (evE cond ρ').bnd fun x => .of (truD x)).bnd fun k => if k then (evE elt ρ').bnd fun y => .ret (some y) else .ret none) items).bnd fun ys => .ret (.list ys)
  | .comp2 elt tg ik src cond tg1 ik1 src1 cond1, ρ => (evEs src ρ).bnd fun xs => (M.of (walkC ik xs)).bnd fun items =>
    (comp2L (fun d => (M.of (setTg tg d (wipeE ρ (tg.slots ++ tg1.slots)))).bnd fun ρ' => (if cond.gone then .ret true else (evE cond ρ').bnd fun x => .of (truD x)).bnd fun k => if k then
        (evEs src1 ρ').bnd fun xs => (M.of (walkC ik1 xs)).bnd fun items =>
          compL (fun d => (M.of (setTg tg1 d (wipeE ρ' tg1.slots))).bnd fun ρ'' => (if cond1.gone then .ret true else (evE cond1 ρ'').bnd fun x => .of (truD x)).bnd fun k => if k then (evE elt ρ'').bnd fun y => .ret (some y) else .ret none) items
      else .ret []) items).bnd fun ys => if lineOk ys.length then .ret (.list ys) else .fail
  | .dcomp ke ve tg ik src cond, ρ => (evEs src ρ).bnd fun xs => (M.of (walkC ik xs)).bnd fun items =>
    (compL (fun d => (M.of (setTg tg d (wipeE ρ tg.slots))).bnd fun ρ' => (if cond.gone then .ret true else (evE cond ρ').bnd fun x => .of (truD x)).bnd fun k => if k then (evE ke ρ').bnd fun y => (evE ve ρ').bnd fun z => .ret (some (.tuple [y, z])) else .ret none) items).bnd fun ys =>
      (M.of (pairsD ys)).bnd fun kvs => .ret (.dict (mergeKD [] kvs))
  | .absent, _ => .fail
def evEs : List E → En → M (List D)
  | [], _ => .ret []
  | .star e :: r, ρ => (evE e ρ).bnd fun x => (M.of (seqD x)).bnd fun xs => (evEs r ρ).bnd fun ys => .ret (xs ++ ys)
  | e :: r, ρ => (evE e ρ).bnd fun x => (evEs r ρ).bnd fun ys => .ret (x :: ys)
end
/-! ### expressions that end in an error -/
def callX (f : Nat) (ds : List D) : M Exn := fun τ => match C (XB + f) ds [] with
  | some (x, _) => (match exDec x with
    | some y => some (y, τ)
    | none => none)
  | none => none
def callXI (fs : List Nat) (k : D) (ds : List D) : M Exn := match k with
  | .int j => (match atI fs j with
    | some f => callX C f ds
    | none => .fail)
  | _ => .fail
def xE : E → En → M Exn
  | .call f es, ρ => (evEs C es ρ).bnd fun ds => callX C f ds
  | .callN f es, ρ => (evEs C es ρ).bnd fun ds => callX C f ds
  | .callI fs ix es, ρ => (evE C ix ρ).bnd fun k => (evEs C es ρ).bnd fun ds => callXI C fs k ds
  | .ite c a b, ρ => (evE C c ρ).bnd fun x => (M.of (truD x)).bnd fun k => if k then xE a ρ else xE b ρ
  | .cmp _ a _, ρ => xE a ρ
  | _, _ => .fail
/-! ### statements -/
inductive Out where
  | nx (ρ : En) | ct (ρ : En) | rt (d : D)
def loopL (f : D → En → M Out) : List D → En → M Out
  | [], ρ => .ret (.nx ρ)
  | d :: ds, ρ => (f d ρ).bnd fun o => match o with
    | .nx ρ' => loopL f ds ρ'
    | .ct ρ' => loopL f ds ρ'
    | .rt x => .ret (.rt x)
def whileL (c : En → M Bool) (f : En → M Out) : Nat → En → M Out
  | 0, _ => .fail
  | n + 1, ρ => (c ρ).bnd fun k => if k then (f ρ).bnd fun o => match o with
    | .nx ρ' => whileL c f n ρ'
    | .ct ρ' => whileL c f n ρ'
    | .rt x => .ret (.rt x) else .ret (.nx ρ)
def setO (i : Nat) (o : Ent) (ρ : En) : M Out := .ret (.nx (ρ.set i (some o)))
def ownAt (ρ : En) (i : Nat) : M Od := fun τ => match ρ[i]? with
  | some (some (.own o)) => some (o, τ)
  | _ => none
def lstAt (ρ : En) (i : Nat) : M (List D) := fun τ => match ρ[i]? with
  | some (some (.own (.lst ds))) => some (ds, τ)
  | _ => none
def stoD (ds : List D) : D → D → Option (List D)
  | .int k, d => match ixN ds.length k with
    | some j => some (ds.set j d)
    | none => none
  | _, _ => none
def stoO : Od → D → D → Option Od
  | .lst ds, k, d => (stoD ds k d).map .lst
  | .dic kvs, k, d => if isKey k && lineOk (kvs.length + 1) then some (.dic (putKD kvs k d)) else none
/-- a box of one's own, asked twice by the same def: whether one says no, and what is left -/
def askU (C : Nat → List D → M D) (f : Nat) (ds : List D) : Option (Bool × List D) := match C f [] ds with
  | some (.bool true, d1) => (match C f [] d1 with
    | some (.bool b, d2) => some (!b, d2)
    | _ => none)
  | some (.bool false, d1) => some (true, d1)
  | _ => none
def offE : Option Nat → En → En
  | none, ρ => ρ
  | some i, ρ => ρ.set i none
/-- a clause's deed -/
def handX (hs : List Hd) (x : Exn) (ρ : En) : M Out := match hs.find? (fun h => h.c == x.c) with
  | none => .fail
  | some h => (evE C (h.val.toE x) ρ).bnd fun d => if h.ret then .ret (.rt d) else .ret (.nx (offE h.slot (ρ.set h.tgt (some (.dat d)))))
def xloopL (f : D → En → M Out) (g : D → En → M (Exn × En)) : List D → En → M (Exn × En)
  | [], _ => .fail
  | d :: ds, ρ => fun τ => match f d ρ τ with
    | some (.nx ρ', τ') => xloopL f g ds ρ' τ'
    | some (.ct ρ', τ') => xloopL f g ds ρ' τ'
    | some (.rt _, _) => none
    | none => g d ρ τ
mutual
def evS : S → En → M Out
  | .asg i e, ρ => (evE C e ρ).bnd fun d => setO i (.dat d) ρ
  | .asgO i e, ρ => (evE C e ρ).bnd fun d => (M.of (odP d)).bnd fun o => setO i (.own o) ρ
  | .unp is e, ρ => (evE C e ρ).bnd fun d => match d with
    | .tuple ds => (M.of (setDs is ds ρ)).bnd fun ρ' => .ret (.nx ρ')
    | _ => .fail
  | .par ts es, ρ => (evEs C es ρ).bnd fun ds => (M.of (setPar ts ds ρ)).bnd fun ρ' => .ret (.nx ρ')
  | .sto i ix e, ρ => (evE C e ρ).bnd fun d => (evE C ix ρ).bnd fun k => (ownAt ρ i).bnd fun o => (M.of (stoO o k d)).bnd fun o' => setO i (.own o') ρ
  | .stoT i ix e, ρ => (evE C e ρ).bnd fun d => (evE C ix ρ).bnd fun k τ => if isTin ρ i then (match stoD τ k d with
    | some τ' => some (.nx ρ, τ')
    | none => none) else none
  | .app i e, ρ => (evE C e ρ).bnd fun d => (lstAt ρ i).bnd fun ds => if lineOk (ds.length + 1) then setO i (.own (.lst (ds ++ [d]))) ρ else .fail
  | .extd i e, ρ => (evE C e ρ).bnd fun d => (M.of (lstD d)).bnd fun es => (lstAt ρ i).bnd fun ds => if lineOk (ds.length + es.length) then setO i (.own (.lst (ds ++ es))) ρ else .fail
  | .pop tg i, ρ => (lstAt ρ i).bnd fun ds => match ds.getLast? with
    | some d => (M.of (setTg tg d (ρ.set i (some (.own (.lst ds.dropLast)))))).bnd fun ρ' => .ret (.nx ρ')
    | none => .fail
  | .rais _ _, _ => .fail
  | .tryx body hs, ρ => fun τ => match evSs body ρ τ with
    | some r => some r
    | none => (match xSs body ρ τ with
      | some ((x, ρ'), τ') => handX C hs x ρ' τ'
      | none => none)
  | .expr e, ρ => (evE C e ρ).bnd fun _ => .ret (.nx ρ)
  | .ret e, ρ => (evE C e ρ).bnd fun d => .ret (.rt d)
  | .ite c a b, ρ => (evE C c ρ).bnd fun x => (M.of (truD x)).bnd fun k => if k then evSs a ρ else evSs b ρ
  | .loop tg ik src body, ρ => (evEs C src ρ).bnd fun xs => (M.of (walkD ik xs)).bnd fun items =>
    loopL (fun d ρ => (M.of (setTg tg d ρ)).bnd fun ρ' => evSs body ρ') items ρ
  | .while n c body, ρ => whileL (fun ρ => (evE C c ρ).bnd fun x => .of (truD x)) (fun ρ => evSs body ρ) n ρ
  | .cont, ρ => .ret (.ct ρ)
  | .pass, ρ => .ret (.nx ρ)
  | .frz i, ρ => (ownAt ρ i).bnd fun o => setO i (.dat o.data) ρ
  | .ask2 i f a, ρ => (lstAt ρ i).bnd fun ds => (M.of (askU C f ds)).bnd fun r => if r.1 then evSs a (ρ.set i (some (.own (.lst r.2)))) else .ret (.nx (ρ.set i (some (.own (.lst r.2)))))
def evSs : List S → En → M Out
  | [], ρ => .ret (.nx ρ)
  | s :: r, ρ => (evS s ρ).bnd fun o => match o with
    | .nx ρ' => evSs r ρ'
    | .ct ρ' => .ret (.ct ρ')
    | .rt x => .ret (.rt x)
/-- a statement that ends in an error -/
def xS : S → En → M (Exn × En)
  | .asg _ e, ρ => (xE C e ρ).bnd fun x => .ret (x, ρ)
  | .asgO _ e, ρ => (xE C e ρ).bnd fun x => .ret (x, ρ)
  | .unp _ e, ρ => (xE C e ρ).bnd fun x => .ret (x, ρ)
  | .par _ es, ρ => (match es with
    | e :: _ => (xE C e ρ).bnd fun x => .ret (x, ρ)
    | [] => .fail)
  | .expr e, ρ => (xE C e ρ).bnd fun x => .ret (x, ρ)
  | .ret e, ρ => (xE C e ρ).bnd fun x => .ret (x, ρ)
  | .rais c es, ρ => (evEs C es ρ).bnd fun ds => (M.of (mkX c ds)).bnd fun x => .ret (x, ρ)
  | .ite c a b, ρ => fun τ => match evE C c ρ τ with
    | some (x, τ') => (match truD x with
      | some true => xSs a ρ τ'
      | some false => xSs b ρ τ'
      | none => none)
    | none => none
  | .loop tg ik src body, ρ => (evEs C src ρ).bnd fun xs => (M.of (walkD ik xs)).bnd fun items =>
    xloopL (fun d ρ => (M.of (setTg tg d ρ)).bnd fun ρ' => evSs body ρ') (fun d ρ => (M.of (setTg tg d ρ)).bnd fun ρ' => xSs body ρ') items ρ
  | _, _ => .fail
def xSs : List S → En → M (Exn × En)
  | [], _ => .fail
  | s :: r, ρ => fun τ => match evS s ρ τ with
    | some (.nx ρ', τ') => xSs r ρ' τ'
    | some _ => none
    | none => xS s ρ τ
end
end
/-! ### defs -/
structure Fn where
  name : Str
  ps : List Str
  N : List Str
  tin : Bool
  fresh : Bool
  body : List S
/-- what a run needs of a def -/
structure Fb where
  body : List S
  tin : Bool
  np : Nat
  nN : Nat
def Fn.fb (F : Fn) : Fb := ⟨F.body, F.tin, F.ps.length, F.N.length⟩
abbrev Tb := Nat → Option Fb
def env0 (F : Fb) (ds : List D) : En := (if F.tin then [some Ent.tin] else []) ++ ds.map (fun d => some (Ent.dat d)) ++ List.replicate (F.nN - F.np) none
def outD : Out → Option D
  | .rt d => some d
  | .nx _ => some .none
  | .ct _ => none
def callF (T : Tb) : Nat → Nat → List D → M D
  | 0, _, _ => .fail
  | n + 1, f, ds => match T f with
    | none => (match T (f - XB) with
      | some F => if !F.tin && decide (XB ≤ f) && decide (ds.length = F.np) then (xSs (callF T n) F.body (env0 F ds)).bnd fun r => .ret r.1.enc else .fail
      | none => .fail)
    | some F => if (if F.tin then ds.length + 1 else ds.length) = F.np then (evSs (callF T n) F.body (env0 F ds)).bnd fun o => .of (outD o) else .fail
end KN

set_option maxRecDepth 100000
set_option maxHeartbeats 1000000
namespace KN
open PySem L2
abbrev Fg := PySem.W.Frag

/-! ### data on the heap -/
def kD : Key → D
  | .inl i => .int i
  | .inr x => .str x
/-- a tuple without a dict of its own -/
def PlT (G : Hp) (a : Addr) (xs : List V) : Prop := ∃ o, G a = some (.frz o (.tup xs)) ∧ o.dict = none
theorem PlT.sq {K : Fg} {G : Hp} {a : Addr} {xs : List V} (h : PlT G a xs) : SqT K G a xs := by
  obtain ⟨o, h, _⟩ := h
  exact .inl (.inr ⟨o, h⟩)
theorem PlT.same {G H : Hp} (e : Same G H) {a : Addr} {xs : List V} (h : PlT G a xs) : PlT H a xs := by
  obtain ⟨o, h, q⟩ := h
  exact ⟨o, e _ _ h, q⟩
mutual
inductive DR (K : Fg) (G : Hp) : V → D → Prop
  | non : DR K G .non .none
  | bl (b : Bool) : DR K G (.bl b) (.bool b)
  | int (i : Int) : DR K G (.int i) (.int i)
  | str (x : Str) : DR K G (.str x) (.str x)
  | lst {a : Addr} {xs : List V} {ds : List D} : SqL K G a xs → DRs K G xs ds → DR K G (.ref a) (.list ds)
  | tup {a : Addr} {xs : List V} {ds : List D} : PlT G a xs → DRs K G xs ds → DR K G (.ref a) (.tuple ds)
  | dic {a : Addr} {o : Obj} {kvs : List (Key × V)} {ds : List (D × D)} : G a = some (.frz o (.dK kvs)) → DRk K G kvs ds → DR K G (.ref a) (.dict ds)
inductive DRs (K : Fg) (G : Hp) : List V → List D → Prop
  | nil : DRs K G [] []
  | cons {v : V} {vs : List V} {d : D} {ds : List D} : DR K G v d → DRs K G vs ds → DRs K G (v :: vs) (d :: ds)
inductive DRk (K : Fg) (G : Hp) : List (Key × V) → List (D × D) → Prop
  | nil : DRk K G [] []
  | cons {k : Key} {v : V} {vs : List (Key × V)} {d : D} {ds : List (D × D)} : DR K G v d → DRk K G vs ds → DRk K G ((k, v) :: vs) ((kD k, d) :: ds)
end
theorem Rd.same {G H : Hp} (e : Same G H) {a : Addr} {u : HO} (h : Rd G a u) : Rd H a u := by
  rcases h with h | ⟨o, h⟩
  · exact .inl (e _ _ h)
  · exact .inr ⟨o, e _ _ h⟩
theorem SqT.same {K : Fg} {G H : Hp} (e : Same G H) {a : Addr} {xs : List V} (h : SqT K G a xs) : SqT K H a xs := by
  rcases h with h | h
  · exact .inl (Rd.same e h)
  · exact .inr h
mutual
theorem DR.same {K : Fg} {G H : Hp} (e : Same G H) : ∀ {v : V} {d : D}, DR K G v d → DR K H v d
  | _, _, .non => .non
  | _, _, .bl b => .bl b
  | _, _, .int i => .int i
  | _, _, .str x => .str x
  | _, _, .lst h r => .lst (e.seq h) (DRs.same e r)
  | _, _, .tup h r => .tup (h.same e) (DRs.same e r)
  | _, _, .dic h r => .dic (e _ _ h) (DRk.same e r)
theorem DRs.same {K : Fg} {G H : Hp} (e : Same G H) : ∀ {v : List V} {d : List D}, DRs K G v d → DRs K H v d
  | _, _, .nil => .nil
  | _, _, .cons h r => .cons (DR.same e h) (DRs.same e r)
theorem DRk.same {K : Fg} {G H : Hp} (e : Same G H) : ∀ {v : List (Key × V)} {d : List (D × D)}, DRk K G v d → DRk K H v d
  | _, _, .nil => .nil
  | _, _, .cons h r => .cons (DR.same e h) (DRk.same e r)
end
mutual
theorem DR.dp {K : Fg} {G : Hp} : ∀ {v : V} {d : D}, DR K G v d → d.canLay0 = true → Dp K G v d
  | _, _, .non, _ => .non
  | _, _, .bl b, _ => .bl b
  | _, _, .int i, _ => .int i
  | _, _, .str x, _ => .str x
  | _, _, .lst h r, c => .lst h (DRs.dp r (by simpa [PyData.canLay0] using c))
  | _, _, .tup h r, c => .tup h.sq (DRs.dp r (by simpa [PyData.canLay0] using c))
  | _, _, .dic h r, c => by simp [PyData.canLay0] at c
theorem DRs.dp {K : Fg} {G : Hp} : ∀ {v : List V} {d : List D}, DRs K G v d → PyData.canLayAll0 d = true → DpAll K G v d
  | _, _, .nil, _ => .nil
  | _, _, .cons h r, c => by
    simp only [PyData.canLayAll0, Bool.and_eq_true] at c
    exact .cons (DR.dp h c.1) (DRs.dp r c.2)
end
theorem DRs.length {K : Fg} {G : Hp} : ∀ {v : List V} {d : List D}, DRs K G v d → v.length = d.length
  | _, _, .nil => rfl
  | _, _, .cons _ r => by rw [List.length_cons, List.length_cons, DRs.length r]
theorem DRs.append {K : Fg} {G : Hp} : ∀ {v w : List V} {d e : List D}, DRs K G v d → DRs K G w e → DRs K G (v ++ w) (d ++ e)
  | _, _, _, _, .nil, s => s
  | _, _, _, _, .cons h r, s => .cons h (DRs.append r s)
theorem DRs.get {K : Fg} {G : Hp} : ∀ {v : List V} {d : List D} {i : Nat} {x : D}, DRs K G v d → d[i]? = some x → ∃ u, v[i]? = some u ∧ DR K G u x
  | _, _, _, _, .nil, e => by simp at e
  | _, _, 0, _, .cons h _, e => by simp at e; subst e; exact ⟨_, rfl, h⟩
  | _, _, i + 1, x, .cons _ t, e => by
    obtain ⟨u, h1, h2⟩ := DRs.get (i := i) (x := x) t (by simpa using e)
    exact ⟨u, by simpa using h1, h2⟩
theorem DRs.set {K : Fg} {G : Hp} {x : V} {u : D} (r : DR K G x u) : ∀ {xs : List V} {us : List D} (i : Nat), DRs K G xs us → DRs K G (xs.set i x) (us.set i u)
  | _, _, _, .nil => .nil
  | _, _, 0, .cons _ t => .cons r t
  | _, _, i + 1, .cons q t => .cons q (DRs.set r i t)
theorem DRs.take {K : Fg} {G : Hp} : ∀ {xs : List V} {us : List D} (n : Nat), DRs K G xs us → DRs K G (xs.take n) (us.take n)
  | _, _, 0, _ => by simp; exact .nil
  | _, _, _ + 1, .nil => .nil
  | _, _, n + 1, .cons r t => .cons r (DRs.take n t)
theorem DRs.drop {K : Fg} {G : Hp} : ∀ {xs : List V} {us : List D} (n : Nat), DRs K G xs us → DRs K G (xs.drop n) (us.drop n)
  | _, _, 0, r => r
  | _, _, _ + 1, .nil => .nil
  | _, _, n + 1, .cons _ t => DRs.drop n t
theorem DRs.reverse {K : Fg} {G : Hp} : ∀ {xs : List V} {us : List D}, DRs K G xs us → DRs K G xs.reverse us.reverse
  | _, _, .nil => .nil
  | _, _, .cons r t => by
    rw [List.reverse_cons, List.reverse_cons]
    exact (DRs.reverse t).append (.cons r .nil)
theorem DRs.rep {K : Fg} {G : Hp} {xs : List V} {us : List D} (h : DRs K G xs us) : ∀ k : Nat, DRs K G (List.replicate k xs).flatten (List.replicate k us).flatten
  | 0 => .nil
  | k + 1 => by
    rw [List.replicate_succ, List.replicate_succ, List.flatten_cons, List.flatten_cons]
    exact h.append (DRs.rep h k)
theorem DRs.cut {K : Fg} {G : Hp} {xs : List V} {us : List D} (h : DRs K G xs us) (lo hi : Option Int) : DRs K G (cutV xs lo hi) (cutL us lo hi) := by
  unfold cutV cutL
  rw [h.length]
  exact (h.drop _).take _
theorem DRs.atI {K : Fg} {G : Hp} {v : List V} {d : List D} {i : Int} {x : D} (h : DRs K G v d) (e : L2.atI d i = some x) : ∃ u, L2.atI v i = some u ∧ DR K G u x := by
  unfold L2.atI at e ⊢
  rw [h.length]
  cases q : ixN d.length i with
  | none => rw [q] at e; cases e
  | some j =>
    rw [q] at e
    exact h.get e
theorem DRs.ints {K : Fg} {G : Hp} : ∀ {v : List V} {d : List D} {ns : List Int}, DRs K G v d → intsOf d = some ns → v = ns.map V.int
  | _, _, _, .nil, e => by cases e; rfl
  | _, _, ns, .cons (d := d) h r, e => by
    cases h with
    | int i =>
      unfold intsOf at e
      split at e
      · rename_i l hl
        cases e
        rw [DRs.ints r hl]
        rfl
      · cases e
    | _ => unfold intsOf at e; cases e
theorem DRs.strs {K : Fg} {G : Hp} : ∀ {v : List V} {d : List D} {ns : List Str}, DRs K G v d → strsOf d = some ns → v = ns.map V.str
  | _, _, _, .nil, e => by cases e; rfl
  | _, _, ns, .cons (d := d) h r, e => by
    cases h with
    | str i =>
      unfold strsOf at e
      split at e
      · rename_i l hl
        cases e
        rw [DRs.strs r hl]
        rfl
      · cases e
    | _ => unfold strsOf at e; cases e
theorem DRs.bls {K : Fg} {G : Hp} : ∀ {v : List V} {d : List D} {ns : List Bool}, DRs K G v d → blsOf d = some ns → v = ns.map V.bl
  | _, _, _, .nil, e => by cases e; rfl
  | _, _, ns, .cons (d := d) h r, e => by
    cases h with
    | bl i =>
      unfold blsOf at e
      split at e
      · rename_i l hl
        cases e
        rw [DRs.bls r hl]
        rfl
      · cases e
    | _ => unfold blsOf at e; cases e
theorem DRs.ofInts {K : Fg} {G : Hp} : ∀ ns : List Int, DRs K G (ns.map V.int) (ns.map PyData.int)
  | [] => .nil
  | n :: r => .cons (.int n) (DRs.ofInts r)
theorem DRs.ofStrs {K : Fg} {G : Hp} : ∀ ns : List Str, DRs K G (ns.map V.str) (ns.map PyData.str)
  | [] => .nil
  | n :: r => .cons (.str n) (DRs.ofStrs r)

/-- a list, a dict that is a def's own -/
inductive OwR (K : Fg) (G : Hp) : HO → Od → Prop
  | lst {vs : List V} {ds : List D} : DRs K G vs ds → OwR K G (.lst vs) (.lst ds)
  | dic {o : Obj} {kvs : List (Key × V)} {ds : List (D × D)} : DRk K G kvs ds → OwR K G (.frz o (.dK kvs)) (.dic ds)
theorem OwR.same {K : Fg} {G H : Hp} (e : Same G H) {o : HO} {d : Od} (h : OwR K G o d) : OwR K H o d := by
  cases h with
  | lst h => exact .lst (h.same e)
  | dic h => exact .dic (h.same e)
theorem OwR.ofL {K : Fg} {G : Hp} {o : HO} {ds : List D} (h : OwR K G o (.lst ds)) : ∃ vs, o = .lst vs ∧ DRs K G vs ds := by
  cases h with
  | lst h => exact ⟨_, rfl, h⟩
theorem OwR.ofD {K : Fg} {G : Hp} {o : HO} {ds : List (D × D)} (h : OwR K G o (.dic ds)) : ∃ od kvs, o = .frz od (.dK kvs) ∧ DRk K G kvs ds := by
  cases h with
  | dic h => exact ⟨_, _, rfl, h⟩
/-- laid to the frozen part it is data -/
theorem OwR.dr {K : Fg} {G G' : Hp} {a : Addr} (s : Same G G') {o : HO} {d : Od} (h : OwR K G o d) (e : G' a = some o) : DR K G' (.ref a) d.data := by
  cases h with
  | lst h => exact .lst (.inl (.inl e)) (h.same s)
  | dic h => exact .dic e (h.same s)
theorem DRk.length {K : Fg} {G : Hp} : ∀ {v : List (Key × V)} {d : List (D × D)}, DRk K G v d → v.length = d.length
  | _, _, .nil => rfl
  | _, _, .cons _ r => by rw [List.length_cons, List.length_cons, DRk.length r]
/-! ### states -/
structure Rel (K : Fg) (ta : Option Addr) (G : Hp) (σ : St) (H : Hp) (ρ : En) (τ : List D) : Prop where
  sub : Same G H
  tin : ∀ a, ta = some a → G a = none ∧ ∃ vs, H a = some (.lst vs) ∧ DRs K G vs τ
  dat : ∀ (i : Nat) (d : D), ρ[i]? = some (some (.dat d)) → ∃ v, σ[i]? = some (some v) ∧ DR K G v d
  own : ∀ (i : Nat) (ds : Od), ρ[i]? = some (some (.own ds)) → ∃ a o, σ[i]? = some (some (.ref a)) ∧ ta ≠ some a ∧ G a = none ∧ H a = some o ∧ OwR K G o ds
  apart : ∀ (i j : Nat) (ds es : Od) (a : Addr), i ≠ j → ρ[i]? = some (some (.own ds)) → ρ[j]? = some (some (.own es)) → σ[i]? = some (some (.ref a)) → σ[j]? ≠ some (some (.ref a))
  tn : ∀ (i : Nat), ρ[i]? = some (some .tin) → ∃ a, ta = some a ∧ σ[i]? = some (some (.ref a))
  len : ρ.length ≤ σ.length
structure Ext (ta : Option Addr) (G H G' H' : Hp) : Prop where
  g : Same G G'
  new : ∀ b o, G' b = some o → G b = some o ∨ H b = none
  keep : ∀ b o, ta ≠ some b → H b = some o → H' b = some o
  there : ∀ b o, H b = some o → ∃ o', H' b = some o'
theorem Ext.refl {ta : Option Addr} {G H : Hp} : Ext ta G H G H := ⟨fun _ _ h => h, fun _ _ h => .inl h, fun _ _ _ h => h, fun _ o h => ⟨o, h⟩⟩
theorem Ext.trans {ta : Option Addr} {G H G1 H1 G2 H2 : Hp} (a : Ext ta G H G1 H1) (b : Ext ta G1 H1 G2 H2) : Ext ta G H G2 H2 where
  g := a.g.trans b.g
  new := fun c o h => by
    rcases b.new c o h with q | q
    · exact a.new c o q
    · right
      cases r : H c with
      | none => rfl
      | some u =>
        obtain ⟨o', e⟩ := a.there c u r
        rw [q] at e; cases e
  keep := fun c o n h => b.keep c o n (a.keep c o n h)
  there := fun c o h => by
    obtain ⟨o', e⟩ := a.there c o h
    exact b.there c o' e
/-- a new object, of the frozen part -/
theorem Ext.laid {ta : Option Addr} {G H : Hp} {p : Addr} {o : HO} (s : Same G H) (hp : H p = none) : Ext ta G H (upd G p o) (upd H p o) where
  g := fun b u h => by rw [upd_ne (ne_of_none (s _ _ h) hp)]; exact h
  new := fun b u h => by
    by_cases e : b = p
    · subst e; exact .inr hp
    · rw [upd_ne e] at h; exact .inl h
  keep := fun b u _ h => by rw [upd_ne (ne_of_none h hp)]; exact h
  there := fun b u h => ⟨u, by rw [upd_ne (ne_of_none h hp)]; exact h⟩
/-- a new object, not of it -/
theorem Ext.fresh {ta : Option Addr} {G H : Hp} {p : Addr} {o : HO} (hp : H p = none) : Ext ta G H G (upd H p o) where
  g := fun b u h => h
  new := fun b u h => .inl h
  keep := fun b u _ h => by rw [upd_ne (ne_of_none h hp)]; exact h
  there := fun b u h => ⟨u, by rw [upd_ne (ne_of_none h hp)]; exact h⟩
theorem same_laid {G H : Hp} {p : Addr} {o : HO} (s : Same G H) (hp : H p = none) : Same (upd G p o) (upd H p o) := fun b u h => by
  by_cases e : b = p
  · subst e; rw [upd_same] at h ⊢; exact h
  · rw [upd_ne e] at h ⊢; exact s _ _ h
section
variable {K : Fg} {ta : Option Addr} {G H G' H' : Hp} {σ : St} {ρ : En} {τ τ' : List D}
/-- the state goes on: what the box holds then is told -/
theorem Rel.ext (R : Rel K ta G σ H ρ τ) (x : Ext ta G H G' H') (s : Same G' H') (ht : ∀ a, ta = some a → ∃ vs, H' a = some (.lst vs) ∧ DRs K G' vs τ') : Rel K ta G' σ H' ρ τ' where
  sub := s
  tin := fun a e => by
    obtain ⟨n, vs, h, _⟩ := R.tin a e
    refine ⟨?_, ht a e⟩
    cases q : G' a with
    | none => rfl
    | some o =>
      rcases x.new a o q with z | z
      · rw [n] at z; cases z
      · rw [h] at z; cases z
  dat := fun i d e => by
    obtain ⟨v, h1, h2⟩ := R.dat i d e
    exact ⟨v, h1, h2.same x.g⟩
  own := fun i ds e => by
    obtain ⟨a, vs, h1, h2, h3, h4, h5⟩ := R.own i ds e
    refine ⟨a, vs, h1, h2, ?_, x.keep _ _ h2 h4, h5.same x.g⟩
    cases q : G' a with
    | none => rfl
    | some o =>
      rcases x.new a o q with z | z
      · rw [h3] at z; cases z
      · rw [h4] at z; cases z
  apart := R.apart
  tn := R.tn
  len := R.len
/-- .. the box untouched -/
theorem Rel.ext' (R : Rel K ta G σ H ρ τ) (x : Ext ta G H G' H') (s : Same G' H') (hk : ∀ a, ta = some a → H' a = H a) : Rel K ta G' σ H' ρ τ :=
  R.ext x s fun a e => by
    obtain ⟨_, vs, h, r⟩ := R.tin a e
    exact ⟨vs, by rw [hk a e]; exact h, r.same x.g⟩
theorem Rel.laid (R : Rel K ta G σ H ρ τ) {p : Addr} {o : HO} (hp : H p = none) : Rel K ta (upd G p o) σ (upd H p o) ρ τ :=
  R.ext' (Ext.laid R.sub hp) (same_laid R.sub hp) fun a e => by
    obtain ⟨_, vs, h, _⟩ := R.tin a e
    rw [upd_ne (ne_of_none h hp)]
theorem Rel.fresh (R : Rel K ta G σ H ρ τ) {p : Addr} {o : HO} (hp : H p = none) : Rel K ta G σ (upd H p o) ρ τ :=
  R.ext' (Ext.fresh hp) (fun b u h => by rw [upd_ne (ne_of_none (R.sub _ _ h) hp)]; exact R.sub _ _ h) fun a e => by
    obtain ⟨_, vs, h, _⟩ := R.tin a e
    rw [upd_ne (ne_of_none h hp)]
end

/-! ### values -/
inductive Kd where
  | dat | fresh | peek
  deriving DecidableEq
/-- a list that is read: of the frozen part, or one that stands beside -/
def View (K : Fg) (ta : Option Addr) (G H : Hp) (v : V) (d : D) : Prop :=
  DR K G v d ∨ ∃ a o od, v = .ref a ∧ d = od.data ∧ ta ≠ some a ∧ H a = some o ∧ OwR K G o od
/-- a list that was just made (it stood not in H₀) -/
def Fresh (K : Fg) (ta : Option Addr) (H₀ G H : Hp) (v : V) (d : D) : Prop :=
  ∃ a o od, v = .ref a ∧ d = od.data ∧ H₀ a = none ∧ ta ≠ some a ∧ G a = none ∧ H a = some o ∧ OwR K G o od
theorem still_data (o : Od) : still o.data = false := by cases o <;> rfl
def Val (K : Fg) (ta : Option Addr) (H₀ G H : Hp) : Kd → V → D → Prop
  | .dat, v, d => DR K G v d
  | .fresh, v, d => DR K G v d ∧ still d = true ∨ Fresh K ta H₀ G H v d
  | .peek, v, d => View K ta G H v d
section
variable {K : Fg} {ta : Option Addr} {H₀ G H G' H' : Hp} {v : V} {d : D} {k : Kd}
theorem Fresh.view (h : Fresh K ta H₀ G H v d) : View K ta G H v d := by
  obtain ⟨a, vs, ds, h1, h2, _, h3, _, h4, h5⟩ := h
  exact .inr ⟨a, vs, ds, h1, h2, h3, h4, h5⟩
theorem Val.view (h : Val K ta H₀ G H k v d) : View K ta G H v d := by
  cases k with
  | dat => exact .inl h
  | fresh =>
    rcases h with h | h
    · exact .inl h.1
    · exact h.view
  | peek => exact h
theorem View.ext (h : View K ta G H v d) (x : Ext ta G H G' H') : View K ta G' H' v d := by
  rcases h with h | ⟨a, vs, ds, h1, h2, h3, h4, h5⟩
  · exact .inl (h.same x.g)
  · exact .inr ⟨a, vs, ds, h1, h2, h3, x.keep _ _ h3 h4, h5.same x.g⟩
end
inductive Views (K : Fg) (ta : Option Addr) (G H : Hp) : List V → List D → Prop
  | nil : Views K ta G H [] []
  | cons {v : V} {vs : List V} {d : D} {ds : List D} : View K ta G H v d → Views K ta G H vs ds → Views K ta G H (v :: vs) (d :: ds)
theorem Views.ext {K : Fg} {ta : Option Addr} {G H G' H' : Hp} (x : Ext ta G H G' H') : ∀ {vs : List V} {ds : List D}, Views K ta G H vs ds → Views K ta G' H' vs ds
  | _, _, .nil => .nil
  | _, _, .cons h r => .cons (h.ext x) (Views.ext x r)
/-- what a list, a tuple among the views is on the heap -/
theorem View.lst {K : Fg} {ta : Option Addr} {G H : Hp} {v : V} {ds : List D} (s : Same G H) (h : View K ta G H v (.list ds)) : ∃ a xs, v = .ref a ∧ SqL K H a xs ∧ DRs K G xs ds := by
  rcases h with h | ⟨a, o, od, h1, h2, h3, h4, h5⟩
  · cases h with
    | lst q r => exact ⟨_, _, rfl, s.seq q, r⟩
  · cases od with
    | lst es =>
      cases h2
      obtain ⟨vs, rfl, h6⟩ := h5.ofL
      exact ⟨a, vs, h1, .inl (.inl h4), h6⟩
    | dic es => cases h2
theorem View.dr {K : Fg} {ta : Option Addr} {G H : Hp} {v : V} {d : D} (h : View K ta G H v d) (n : still d = true) : DR K G v d := by
  rcases h with h | ⟨a, o, od, h1, h2, _⟩
  · exact h
  · rw [h2, still_data] at n; cases n
theorem View.tupP {K : Fg} {ta : Option Addr} {G H : Hp} {v : V} {ds : List D} (s : Same G H) (h : View K ta G H v (.tuple ds)) : ∃ a xs, v = .ref a ∧ PlT H a xs ∧ DRs K G xs ds := by
  cases h.dr rfl with
  | tup q r => exact ⟨_, _, rfl, q.same s, r⟩
theorem View.tup {K : Fg} {ta : Option Addr} {G H : Hp} {v : V} {ds : List D} (s : Same G H) (h : View K ta G H v (.tuple ds)) : ∃ a xs, v = .ref a ∧ SqT K H a xs ∧ DRs K G xs ds := by
  obtain ⟨a, xs, h1, h2, h3⟩ := h.tupP s
  exact ⟨a, xs, h1, h2.sq, h3⟩
theorem View.dic {K : Fg} {ta : Option Addr} {G H : Hp} {v : V} {ds : List (D × D)} (s : Same G H) (h : View K ta G H v (.dict ds)) : ∃ a od kvs, v = .ref a ∧ H a = some (.frz od (.dK kvs)) ∧ DRk K G kvs ds := by
  rcases h with h | ⟨a, o, od, h1, h2, h3, h4, h5⟩
  · cases h with
    | dic q r => exact ⟨_, _, _, rfl, s _ _ q, r⟩
  · cases od with
    | lst es => cases h2
    | dic es =>
      cases h2
      obtain ⟨od, kvs, rfl, h6⟩ := h5.ofD
      exact ⟨a, od, kvs, h1, h4, h6⟩
/-- all of it over H -/
theorem View.at {K : Fg} {ta : Option Addr} {G H : Hp} {v : V} {d : D} (s : Same G H) (h : View K ta G H v d) : DR K H v d := by
  rcases h with h | ⟨a, o, es, h1, h2, h3, h4, h5⟩
  · exact h.same s
  · subst h1 h2
    exact h5.dr s h4
end KN

set_option maxRecDepth 100000
set_option maxHeartbeats 1000000
namespace KN
open PySem L2 PyProof.Rows
section
variable {K : Fg} {ta : Option Addr} {G H G' H' : Hp} {v x : V} {d : D}
theorem View.int {i : Int} (h : View K ta G H x (.int i)) : x = .int i := by
  cases h.dr rfl; rfl
theorem View.str {i : Str} (h : View K ta G H x (.str i)) : x = .str i := by
  cases h.dr rfl; rfl
theorem View.bl {i : Bool} (h : View K ta G H x (.bool i)) : x = .bl i := by
  cases h.dr rfl; rfl
theorem View.non (h : View K ta G H x .none) : x = .non := by
  cases h.dr rfl; rfl
theorem lineOk_le {n : Nat} (h : lineOk n = true) : n ≤ sizeLine := by
  rw [sizeLine_eq]
  exact of_decide_eq_true h
theorem Val.new {o : HO} {p : Addr} {xs : List V} {ds : List D} (s : Same G H) (hp : H p = none) (r : DRs K G xs ds) : Val K none H G (upd H p (.lst xs)) .fresh (.ref p) (.list ds) :=
  .inr ⟨p, .lst xs, .lst ds, rfl, rfl, hp, by simp, s.free hp, upd_same, .lst r⟩
end

/-! ### readings by data -/
def rV2 (K : Fg) (f : D → D → Option D) (k : Kd) : R2 := fun x y H Q => ∃ G a b d, Same G H ∧ View K none G H x a ∧ View K none G H y b ∧ f a b = some d ∧
  ∀ v G' H', Ext none G H G' H' → Same G' H' → Val K none H G' H' k v d → Q v H'
def rV1 (K : Fg) (f : D → Option D) (k : Kd) : V → Hp → VK → Prop := fun x H Q => ∃ G a d, Same G H ∧ View K none G H x a ∧ f a = some d ∧
  ∀ v G' H', Ext none G H G' H' → Same G' H' → Val K none H G' H' k v d → Q v H'
def rVs (K : Fg) (f : List D → Option D) (k : Kd) : List V → Hp → VK → Prop := fun xs H Q => ∃ G as d, Same G H ∧ Views K none G H xs as ∧ f as = some d ∧
  ∀ v G' H', Ext none G H G' H' → Same G' H' → Val K none H G' H' k v d → Q v H'

section
variable {X : Cx}
/-- lists that are read, joined -/
theorem op_catR : OpR X (binaryOp .Add) (fun x y H Q => ∃ l b xs zs, x = .ref l ∧ y = .ref b ∧ SqL X.K H l xs ∧ SqL X.K H b zs ∧ xs.length + zs.length ≤ sizeLine ∧ ∀ p, H p = none → Q (.ref p) (upd H p (.lst (xs ++ zs)))) := by
  intro pins s σ H x y v u Q I rx ry h
  obtain ⟨l, b, xs, zs, rfl, rfl, hH, hB, hz, q⟩ := h
  cases rx
  cases ry
  obtain ⟨its, r, ⟨⟨c1, d1, t1, s1⟩, n, e, k1, k2, k3⟩, z⟩ := I.list hH
  obtain ⟨its2, r2, ⟨⟨c2, d2, t2, s2⟩, n2, e2, k4, k5, k6⟩, z2⟩ := I.list hB
  simp only at k1 k2 k3 k4 k5 k6
  subst k1 k2 k3 k4 k5 k6
  have hl := r.length
  have hl2 := r2.length
  have ea : its.toArray ++ its2.toArray = (its ++ its2).toArray := by simp
  refine concat_meets ⟨_, e, rfl⟩ ⟨_, e2, rfl⟩ noFill_list_add seq_list_add PySem.F.slot_list_add PySem.F.entry_list_add (PySem.F.args_list_add_2 _ _) (list_addW l b its.toArray its2.toArray n n2 none none s1 s2 (by rw [List.size_toArray, List.size_toArray]; omega)) ⟨e, e2, ?_⟩
  rw [ea]
  exact ⟨.ref _, _, I.lnew (t' := s.toks) (r.append r2) (by rw [List.length_append]; omega), rfl, q _ I.fresh⟩
theorem int_rmul_listG (a : Int) (t : Tok) (l : Addr) (items : Array Value) (n : Nat) (dd : Option Addr) (sl : Array (Option Value)) :
    Meets (Builtin.«int.__rmul__» ⟨[.int a t, .ref l], []⟩) (fun _ R s => s.heap.get? l = some { cls := .type "list", dict := dd, data := .seq items n, slots := sl } ∧ R (.ok (.ret Value.notImplemented)) s) :=
  .of_wp fun prog w A R s h => by obtain ⟨hp, g, d, tk, os⟩ := s; obtain ⟨hl, h⟩ := h; wp_walk using AutoSeq1.wpAny_loadPart' hl; exact ⟨_, rfl, h⟩
theorem list_mulG (l : Addr) (items : Array Value) (n : Nat) (dd : Option Addr) (sl : Array (Option Value)) (x : Int) (u : Tok) (hc0 : ¬(!Builtin.List.listFitsIndex x) = true) (hc1 : ¬items.size * x.toNat > (2 ^ 63 - 1) / 8) (hc2 : ¬Builtin.List.listTooLong (items.size * x.toNat) = true) :
    Meets (Builtin.«list.__mul__» ⟨[.ref l, .int x u], []⟩) (fun _ R s => s.heap.get? l = some { cls := .type "list", dict := dd, data := .seq items n, slots := sl } ∧ R (.ok (.ret (Value.ref s.heap.objs.size))) { s with heap := s.heap.push { cls := Value.type "list", data := Data.seq (List.foldl (fun x1 x2 => x1 ++ x2) #[] (List.replicate (if items.isEmpty = true then 0 else x.toNat) items)) }, toks := s.toks }) :=
  .of_wp fun prog w A R s h => by
    obtain ⟨hp, g, d, tk, os⟩ := s; obtain ⟨hl, h⟩ := h
    have hsz := AutoListH.joined_fits hc2
    have f1 := AutoSeq1.idx_int
    wp_walk using AutoSeq1.wpAny_loadPart' hl; refine wpAny_ite_false (decide_eq_false (Nat.not_lt.mpr hsz)) ?_; wp_walk using AutoSeq1.wpAny_loadPart' hl; exact ⟨_, rfl, h⟩
theorem op_repR : OpR X (binaryOp .Mult) (fun x y H Q => ∃ l k xs, x = .ref l ∧ y = .int k ∧ SqL X.K H l xs ∧ -(2 ^ 63) ≤ k ∧ k < 2 ^ 63 ∧ xs.length * k.toNat ≤ sizeLine ∧
    ∀ p, H p = none → Q (.ref p) (upd H p (.lst (List.replicate k.toNat xs).flatten))) := by
  intro pins s σ H x y v u Q I rx ry h
  obtain ⟨l, k, xs, rfl, rfl, hH, h1, h2, hz, q⟩ := h
  cases rx
  obtain ⟨t, rfl⟩ := ry
  obtain ⟨its, r, ⟨⟨c1, d1, t1, s1⟩, n, e, k1, k2, k3⟩, z⟩ := I.list hH
  simp only at k1 k2 k3
  subst k1 k2 k3
  have hl := r.length
  have hlen : its.toArray.size * k.toNat ≤ sizeLine := by rw [List.size_toArray, ← hl]; exact hz
  have hcap : ¬ its.toArray.size * k.toNat > (2 ^ 63 - 1) / 8 := by
    have : (sizeLine : Nat) ≤ (2 ^ 63 - 1) / 8 := by decide
    omega
  have hfit : ¬ (!Builtin.List.listFitsIndex k) = true := by
    rw [fitsIndex_both h1 h2]
    exact Bool.false_ne_true
  have hlong : ¬ Builtin.List.listTooLong (its.toArray.size * k.toNat) = true := by
    rw [notLongL hlen]
    exact Bool.false_ne_true
  have hnew : List.foldl (fun x1 x2 => x1 ++ x2) #[] (List.replicate (if its.toArray.isEmpty = true then 0 else k.toNat) its.toArray) = (List.replicate k.toNat its).flatten.toArray := by
    have f0 : ∀ m : Nat, List.foldl (fun x1 x2 => x1 ++ x2) #[] (List.replicate m its.toArray) = (List.replicate m its).flatten.toArray := fun m => by
      have := foldl_rep its m []
      rw [List.nil_append] at this
      exact this
    rw [f0]
    cases its with
    | nil => simp
    | cons a r' => rw [if_neg (by simp)]
  refine wpAny_binaryOp_repeat_ref (T := "list") (U := "int") (by decide) ⟨_, e, rfl⟩ (fun s' => typeIs_int s' k t) noFill_list_mul F.fills_int_mul F.slot_int_rmul repeat_list F.slot_int_index.lookup
    (call_meets F.slot_int_rmul (typeIs_int s k t) F.entry_int_rmul (F.args_int_rmul_2 _ _) (int_rmul_listG k t l its.toArray n none s1)
      ⟨e, rfl, ⟨_, e, rfl⟩, call_meets F.slot_list_mul ⟨_, e, rfl⟩ F.entry_list_mul (F.args_list_mul_2 _ _) (list_mulG l its.toArray n none s1 k t hfit hcap hlong) ⟨e, ?_⟩⟩)
  rw [hnew]
  exact ⟨.ref _, _, I.lnew (t' := s.toks) (r.rep k.toNat) (by rw [PyProof.Rows.lm_len_rep_flat, Nat.mul_comm]; exact hz), rfl, q _ I.fresh⟩

/-! ### tuples that are made: no dict of their own -/
abbrev tupO (us : List Value) : Obj := { cls := .type "tuple", data := .seq us.toArray }
theorem Inv.ltup {pins : List (Addr × Obj)} {s : Shared} {σ : L2.St} {H : Hp} {zs : List V} {us : List Value} {t' : Nat} (I : L2.Inv X pins σ H s) (r : Vals zs us) (hz : zs.length ≤ sizeLine) :
    L2.Inv X pins σ (upd H s.heap.objs.size (.frz (tupO us) (.tup zs))) { s with heap := s.heap.push (tupO us), toks := t' } :=
  I.laid (o := .frz (tupO us) (.tup zs)) (fun b ob q => Heap.get?_push_of_some _ q) (Nat.le_refl _) ⟨Heap.get?_push_size _ rfl, hz, us, r, IsTup.new _ _⟩
def tTupP (t : TA) : TE := fun σ H Q => t σ H fun xs H1 => xs.length ≤ sizeLine ∧ ∀ o p, o.dict = none → H1 p = none → Q (.ref p) (upd H1 p (.frz o (.tup xs)))
theorem pe_tupP {es : List Expr} {t : TA} {pos : Pos} {k : Nat} (h : PA X es t) : PE X (.Tuple es k pos) (tTupP t) := by
  refine ⟨fun pins s σ H Q I hq => wpAny_Tuple_spliced (thn (h.run pos pins s σ H _ I hq) fun us s1 ⟨xs, H1, I1, r, z, q⟩ => ⟨by rw [← r.length]; exact z, ?_⟩)⟩
  exact ⟨.ref _, _, Inv.ltup (t' := s1.toks) I1 r z, rfl, q (tupO us) _ rfl (I1.hok.fresh (Nat.le_refl _))⟩
theorem call_tupP : CallR X (.type "tuple") (fun xs H Q => ∃ p ys, xs = [.ref p] ∧ SqL X.K H p ys ∧ ∀ o l, o.dict = none → H l = none → Q (.ref l) (upd H l (.frz o (.tup ys)))) := by
  intro pins s σ H xs us Q I r h
  obtain ⟨p, ys, rfl, hq, q⟩ := h
  rw [Vals.ref1 r]
  obtain ⟨its, r', pl, hz⟩ := I.list hq
  refine call_tuple_list pl.isList (fun h' kp => ?_) (by rw [List.size_toArray, ← r'.length]; exact hz)
  have J : L2.Inv X pins σ H { s with heap := h' } := I.kept (t' := s.toks) kp
  exact ⟨.ref _, _, Inv.ltup (t' := s.toks) J r' hz, rfl, q (tupO its) _ rfl (J.hok.fresh (Nat.le_refl _))⟩
theorem op_catP : OpR X (binaryOp .Add) (fun x y H Q => ∃ a b xs ys, x = .ref a ∧ y = .ref b ∧ SqT X.K H a xs ∧ SqT X.K H b ys ∧ xs.length + ys.length ≤ sizeLine ∧ (xs = [] → Q (.ref b) H) ∧ (xs ≠ [] → ys = [] → Q (.ref a) H) ∧
    (xs ≠ [] → ys ≠ [] → ∀ o p, o.dict = none → H p = none → Q (.ref p) (upd H p (.frz o (.tup (xs ++ ys)))))) := by
  intro pins s σ H x y v u Q I rx ry h
  obtain ⟨a, b, xs, ys, rfl, rfl, ha, hb, hz, q0, q1, q2⟩ := h
  cases rx
  cases ry
  obtain ⟨i1, r1, p1, _⟩ := I.tuple ha
  obtain ⟨i2, r2, p2, _⟩ := I.tuple hb
  by_cases hx : xs = []
  · subst hx
    cases r1
    exact cat_tup0 p1 p2 ⟨.ref b, H, I, rfl, q0 rfl⟩
  · have hl : i1.length + i2.length ≤ sizeLine := by rw [← r1.length, ← r2.length]; exact hz
    refine HT.cat_tup p1 p2 (fun z => hx (r1.nil_iff.mp z)) (fun z => ⟨.ref a, H, I, rfl, q1 hx (r2.nil_iff.mp z)⟩) (fun z => ?_) hl
    exact ⟨.ref _, _, Inv.ltup (t' := s.toks) I (r1.append r2) (by rw [List.length_append]; exact hz), rfl, q2 hx (fun w => z (r2.nil_iff.mpr w)) (tupO _) _ rfl (I.hok.fresh (Nat.le_refl _))⟩
theorem op_repP : OpR X (binaryOp .Mult) (fun x y H Q => ∃ l k xs, x = .ref l ∧ y = .int k ∧ SqT X.K H l xs ∧ xs ≠ [] ∧ 2 ≤ k ∧ k ≤ 1000 ∧ xs.length ≤ 1000 ∧ ∀ o p, o.dict = none → H p = none → Q (.ref p) (upd H p (.frz o (.tup (List.replicate k.toNat xs).flatten)))) := by
  intro pins s σ H x y v u Q I rx ry h
  obtain ⟨l, k, xs, rfl, rfl, hT, hne, h1, h2, hz, q⟩ := h
  cases rx
  obtain ⟨t, rfl⟩ := ry
  obtain ⟨its, r, ⟨⟨c0, dd, dt, sl⟩, ho, hc, n, hd⟩, hs⟩ := I.tuple hT
  simp only at hc hd
  subst hc hd
  have hle : its.length = xs.length := r.length.symm
  have hn : its ≠ [] := fun e => hne (List.eq_nil_of_length_eq_zero (by rw [← hle, e]; rfl))
  have hi : its.toArray.isEmpty = false := by cases its <;> first | exact absurd rfl hn | rfl
  have hsz : its.toArray.size = xs.length := by rw [List.size_toArray, hle]
  have a1 : ((xs.length : Nat) : Int) * k ≤ 1000 * k := Int.mul_le_mul_of_nonneg_right (by omega) (by omega)
  have a2 : k.toNat * xs.length ≤ 1000 * 1000 := Nat.mul_le_mul (by omega) hz
  have flen : (List.replicate k.toNat its).flatten.length ≤ sizeLine := by
    rw [PyProof.Rows.lm_len_rep_flat, hle, sizeLine_eq]
    omega
  have g0 : (decide (k < -(2 ^ 63)) || decide (k ≥ 2 ^ 63)) = false := by
    rw [decide_eq_false (by omega), decide_eq_false (by omega)] <;> rfl
  have g1 : (its.toArray.isEmpty || k == 1) = false := by
    rw [hi, Bool.false_or]
    exact beq_eq_false_iff_ne.mpr (by omega)
  have g2 : (decide (k ≤ 0) || its.toArray.isEmpty) = false := by
    rw [hi, Bool.or_false]
    exact decide_eq_false (by omega)
  have g4 : Builtin.Tuple.tupleTooMany (((its.toArray.size : Nat) : Int) * k) = false := by
    unfold Builtin.Tuple.tupleTooMany
    rw [sizeLine_eq, hsz]
    exact decide_eq_false (by omega)
  refine wpAny_binaryOp_repeat_ref (T := "tuple") (U := "int") (by decide) ⟨_, ho, rfl⟩ (fun s' => typeIs_int s' k t) noFill_tuple_mul F.fills_int_mul F.slot_int_rmul repeat_tuple F.slot_int_index.lookup
    (call_meets F.slot_int_rmul (typeIs_int s k t) F.entry_int_rmul (F.args_int_rmul_2 _ _) (int_rmul_tuple k t l its.toArray n dd sl) ⟨ho, rfl, ⟨_, ho, rfl⟩, ?_⟩)
  refine call_meets F.slot_tuple_mul ⟨_, ho, rfl⟩ F.entry_tuple_mul (F.args_tuple_mul_2 _ _) (tuple_mulW l its.toArray n dd sl k t g0 g1 g2 (by rw [hsz]; omega) g4 (by rw [size_rep, List.size_toArray]; exact flen)) ⟨ho, ?_⟩
  rw [size_rep]
  exact ⟨.ref _, _, Inv.ltup (t' := s.toks) I (r.rep k.toNat) (by rw [PyProof.Rows.lm_len_rep_flat, sizeLine_eq]; omega), rfl, q (tupO _) _ rfl (I.hok.fresh (Nat.le_refl _))⟩
def rSlP (K : Fg) : V → Option Int → Option Int → Hp → VK → Prop := fun x lo hi H Q => ∃ a xs, x = .ref a ∧ SqT K H a xs ∧
  (HT.sIx xs.length 0 lo = 0 ∧ HT.sIx xs.length xs.length hi = xs.length → Q (.ref a) H) ∧ (¬ (HT.sIx xs.length 0 lo = 0 ∧ HT.sIx xs.length xs.length hi = xs.length) → ∀ o p, o.dict = none → H p = none → Q (.ref p) (upd H p (.frz o (.tup (cutV xs lo hi)))))
theorem sl_tupP : SlR X (rSlP X.K) := by
  intro pins s σ H x v vl vu lo hi sl Q I rx hs pl pu h
  obtain ⟨a, xs, rfl, hx, q1, q2⟩ := h
  by_cases hw : HT.sIx xs.length 0 lo = 0 ∧ HT.sIx xs.length xs.length hi = xs.length
  · exact sl_tupA pins s σ H _ v vl vu lo hi sl Q I rx hs pl pu ⟨a, xs, rfl, hx, q1, fun z => absurd hw z⟩
  · cases rx
    obtain ⟨its, r, ht, hz⟩ := I.tuple hx
    have hln : its.toArray.size = xs.length := by rw [List.size_toArray]; exact r.length.symm
    refine ⟨"tuple", _, PyProof.Rows.slot_tuple_getitem.lookup, ht.typeIs, HT.getItem_tuple_cut ht hs pl pu (by rw [hln]; exact hw) ?_ (by rw [hln]; exact hz)⟩
    rw [hln]
    have rr := (r.drop (HT.sIx xs.length 0 lo)).take (HT.sIx xs.length xs.length hi - HT.sIx xs.length 0 lo)
    exact ⟨.ref _, _, Inv.ltup (t' := s.toks) I rr (Nat.le_trans (cutV_length xs lo hi) hz), rfl, q2 hw (tupO _) _ rfl (I.hok.fresh (Nat.le_refl _))⟩
theorem laidT {G H : Hp} {p : Addr} {o : Obj} {xs : List V} {ds : List D} {K : Fg} (sm : Same G H) (hp : H p = none) (ho : o.dict = none) (h : DRs K G xs ds) : DR K (upd G p (.frz o (.tup xs))) (.ref p) (.tuple ds) :=
  .tup ⟨o, upd_same, ho⟩ (h.same (Ext.laid (ta := none) sm hp).g)
/-- a scalar comes out -/
theorem scal_out {K : Fg} {G H : Hp} {v : V} {d : D} {k : Kd} {Q : VK} (sm : Same G H) (q : ∀ v G' H', Ext none G H G' H' → Same G' H' → Val K none H G' H' k v d → Q v H') (h : DR K G v d) (n : still d = true) (hk : k ≠ .peek := by decide) : Q v H := by
  refine q v G H Ext.refl sm ?_
  cases k with
  | dat => exact h
  | fresh => exact .inl ⟨h, n⟩
  | peek => exact absurd rfl hk
theorem op_binD (op : Operator) : OpR X (binaryOp op) (rV2 X.K (binD op) .fresh) := by
  intro pins s σ H x y v u Q I rx ry h
  obtain ⟨G, a, b, d, sm, va, vb, e, q⟩ := h
  cases op with
  | Add =>
    cases a with
    | int i =>
      cases b with
      | int j =>
        cases e
        exact op_add pins s σ H x y v u Q I rx ry ⟨i, j, va.int, vb.int, scal_out sm q (.int _) rfl⟩
      | _ => cases e
    | str i =>
      cases b with
      | str j =>
        simp only [binD] at e
        split at e
        · rename_i hz
          cases e
          exact op_add_str pins s σ H x y v u Q I rx ry ⟨i, j, va.str, vb.str, lineOk_le hz, scal_out sm q (.str _) rfl⟩
        · cases e
      | _ => cases e
    | list i =>
      cases b with
      | list j =>
        simp only [binD] at e
        split at e
        · rename_i hz
          cases e
          obtain ⟨p1, xs, e1, r1, d1⟩ := va.lst sm
          obtain ⟨p2, ys, e2, r2, d2⟩ := vb.lst sm
          refine op_catR pins s σ H x y v u Q I rx ry ⟨p1, p2, xs, ys, e1, e2, r1, r2, by rw [d1.length, d2.length]; exact lineOk_le hz, fun p hp => ?_⟩
          exact q _ G _ (Ext.fresh hp) (fun b u h => by rw [upd_ne (ne_of_none (sm _ _ h) hp)]; exact sm _ _ h) (Val.new (o := .tup []) sm hp (d1.append d2))
        · cases e
      | _ => cases e
    | tuple i =>
      cases b with
      | tuple j =>
        simp only [binD] at e
        split at e
        · rename_i hz
          cases e
          obtain ⟨p1, xs, e1, r1, d1⟩ := va.tup sm
          obtain ⟨p2, ys, e2, r2, d2⟩ := vb.tup sm
          have w1 : DR X.K G x (.tuple i) := va.dr rfl
          have w2 : DR X.K G y (.tuple j) := vb.dr rfl
          refine op_catP pins s σ H x y v u Q I rx ry ⟨p1, p2, xs, ys, e1, e2, r1, r2, by rw [d1.length, d2.length]; exact lineOk_le hz, fun z => ?_, fun _ z => ?_, fun _ _ o p ho hp => ?_⟩
          · subst z
            cases d1
            rw [← e2]
            exact scal_out sm q w2 rfl
          · subst z
            cases d2
            rw [← e1, List.append_nil] at *
            exact scal_out sm q w1 rfl
          · exact q _ _ _ (Ext.laid sm hp) (same_laid sm hp) (.inl ⟨laidT sm hp ho (d1.append d2), rfl⟩)
        · cases e
      | _ => cases e
    | _ => cases e
  | Sub =>
    cases a with
    | int i =>
      cases b with
      | int j =>
        cases e
        exact op_sub pins s σ H x y v u Q I rx ry ⟨i, j, va.int, vb.int, scal_out sm q (.int _) rfl⟩
      | _ => cases e
    | _ => cases e
  | Mult =>
    cases a with
    | int i =>
      cases b with
      | int j =>
        simp only [binD] at e
        split at e
        · rename_i hz
          cases e
          refine op_mul pins s σ H x y v u Q I rx ry ⟨i, j, va.int, vb.int, ?_, scal_out sm q (.int _) rfl⟩
          simp only [mulOk, Bool.or_eq_true, Bool.and_eq_true, decide_eq_true_eq] at hz
          exact hz
        · cases e
      | _ => cases e
    | list i =>
      cases b with
      | int j =>
        simp only [binD] at e
        split at e
        · rename_i hz
          cases e
          simp only [Bool.and_eq_true, decide_eq_true_eq] at hz
          obtain ⟨⟨h1, h2⟩, h3⟩ := hz
          obtain ⟨p1, xs, e1, r1, d1⟩ := va.lst sm
          refine op_repR pins s σ H x y v u Q I rx ry ⟨p1, j, xs, e1, vb.int, r1, h1, h2, by rw [d1.length]; exact lineOk_le h3, fun p hp => ?_⟩
          exact q _ G _ (Ext.fresh hp) (fun b u h => by rw [upd_ne (ne_of_none (sm _ _ h) hp)]; exact sm _ _ h) (Val.new (o := .tup []) sm hp (d1.rep _))
        · cases e
      | _ => cases e
    | tuple i =>
      cases b with
      | int j =>
        simp only [binD] at e
        split at e
        · rename_i hz
          cases e
          simp only [Bool.and_eq_true, decide_eq_true_eq] at hz
          obtain ⟨⟨⟨h0, h1⟩, h2⟩, h3⟩ := hz
          obtain ⟨p1, xs, e1, r1, d1⟩ := va.tup sm
          refine op_repP pins s σ H x y v u Q I rx ry ⟨p1, j, xs, e1, vb.int, r1, fun z => ?_, h1, h2, by rw [d1.length]; exact h3, fun o p ho hp => ?_⟩
          · subst z; cases d1; simp at h0
          · exact q _ _ _ (Ext.laid sm hp) (same_laid sm hp) (.inl ⟨laidT sm hp ho (d1.rep _), rfl⟩)
        · cases e
      | _ => cases e
    | _ => cases e
  | Mod =>
    cases a with
    | int i =>
      cases b with
      | int j =>
        simp only [binD] at e
        split at e
        · rename_i hz
          cases e
          exact op_mod pins s σ H x y v u Q I rx ry ⟨i, j, va.int, vb.int, hz, scal_out sm q (.int _) rfl⟩
        · cases e
      | _ => cases e
    | _ => cases e
  | FloorDiv =>
    cases a with
    | int i =>
      cases b with
      | int j =>
        simp only [binD] at e
        split at e
        · rename_i hz
          cases e
          simp only [Bool.and_eq_true, decide_eq_true_eq] at hz
          exact op_fdiv pins s σ H x y v u Q I rx ry ⟨i, j, va.int, vb.int, hz, scal_out sm q (.int _) rfl⟩
        · cases e
      | _ => cases e
    | _ => cases e
  | Pow =>
    cases a with
    | int i =>
      cases b with
      | int j =>
        simp only [binD] at e
        split at e
        · rename_i hz
          cases e
          simp only [Bool.and_eq_true, decide_eq_true_eq] at hz
          exact op_pow pins s σ H x y v u Q I rx ry ⟨i, j, va.int, vb.int, ⟨hz.1.1, hz.1.2, hz.2⟩, scal_out sm q (.int _) rfl⟩
        · cases e
      | _ => cases e
    | _ => cases e
  | LShift =>
    cases a with
    | int i =>
      cases b with
      | int j =>
        simp only [binD] at e
        split at e
        · rename_i hz
          cases e
          simp only [Bool.and_eq_true, decide_eq_true_eq] at hz
          exact op_shl pins s σ H x y v u Q I rx ry ⟨i, j, va.int, vb.int, ⟨hz.1.1, hz.1.2, hz.2⟩, scal_out sm q (.int _) rfl⟩
        · cases e
      | _ => cases e
    | _ => cases e
  | BitAnd =>
    cases a with
    | int i =>
      cases b with
      | int j =>
        cases e
        exact op_and pins s σ H x y v u Q I rx ry ⟨i, j, va.int, vb.int, scal_out sm q (.int _) rfl⟩
      | _ => cases e
    | _ => cases e
  | BitOr =>
    cases a with
    | int i =>
      cases b with
      | int j =>
        cases e
        exact op_or pins s σ H x y v u Q I rx ry ⟨i, j, va.int, vb.int, scal_out sm q (.int _) rfl⟩
      | _ => cases e
    | _ => cases e
  | _ => cases a <;> cases b <;> cases e
end
end KN

set_option maxRecDepth 100000
set_option maxHeartbeats 1000000
namespace KN
open PySem L2 PyProof.Rows

/-! ### sorted rows are unique -/
theorem perm_sorted_eq {α : Type} {le : α → α → Prop} (anti : ∀ a b, le a b → le b a → a = b) (rfl' : ∀ a, le a a) : ∀ {l m : List α}, l.Perm m → l.Pairwise le → m.Pairwise le → l = m
  | [], m, p, _, _ => (List.Perm.nil_eq p)
  | a :: r, [], p, _, _ => absurd p.length_eq (by simp)
  | a :: r, b :: q, p, h1, h2 => by
    have hab : a = b := by
      have m1 : a ∈ b :: q := p.subset List.mem_cons_self
      have m2 : b ∈ a :: r := p.symm.subset List.mem_cons_self
      have l1 : le b a := by
        rcases List.mem_cons.mp m1 with z | z
        · rw [z]; exact rfl' _
        · exact List.rel_of_pairwise_cons h2 z
      have l2 : le a b := by
        rcases List.mem_cons.mp m2 with z | z
        · rw [z]; exact rfl' _
        · exact List.rel_of_pairwise_cons h1 z
      exact anti _ _ l2 l1
    subst hab
    rw [perm_sorted_eq anti rfl' p.cons_inv (List.pairwise_cons.mp h1).2 (List.pairwise_cons.mp h2).2]
theorem cps_inj {x y : Str} (h : x.cps.toList = y.cps.toList) : x = y := Str.ext' (Array.toList_inj.mp h)
/-! ### keys of dicts -/
theorem key_of_drk {k : Key} {x : D} (h : isKey x = true) (e : ∀ j, x ≠ kD j) : False := by
  cases x with
  | int i => exact e (.inl i) rfl
  | str i => exact e (.inr i) rfl
  | _ => cases h
theorem isKey_kD {x : D} (h : isKey x = true) : ∃ k, x = kD k := by
  cases x with
  | int i => exact ⟨.inl i, rfl⟩
  | str i => exact ⟨.inr i, rfl⟩
  | _ => cases h
theorem kD_isKey (k : Key) : isKey (kD k) = true := by cases k <;> rfl
theorem eqK_kD (j k : Key) : eqK (kD j) (kD k) = decide (j = k) := by
  cases j with
  | inl a => cases k with
    | inl b =>
      show decide (a = b) = _
      exact (decide_eq_decide.mpr ⟨fun h => by rw [h], fun h => Sum.inl.inj h⟩)
    | inr b => rfl
  | inr a => cases k with
    | inl b => rfl
    | inr b =>
      show decide (a = b) = _
      exact (decide_eq_decide.mpr ⟨fun h => by rw [h], fun h => Sum.inr.inj h⟩)
theorem DRk.look {K : Fg} {G : Hp} (k : Key) : ∀ {vs : List (Key × V)} {ds : List (D × D)}, DRk K G vs ds → (valV vs k = none ∧ lookK ds (kD k) = none) ∨ ∃ v d, valV vs k = some v ∧ lookK ds (kD k) = some d ∧ DR K G v d
  | _, _, .nil => .inl ⟨rfl, rfl⟩
  | _, _, .cons (k := j) (v := v) (vs := vs) (d := d) (ds := ds) h r => by
    have e1 : valV ((j, v) :: vs) k = if j = k then some v else valV vs k := by
      unfold valV
      rw [List.find?_cons]
      by_cases hj : j = k
      · simp [hj]
      · simp [hj]
    have e2 : lookK ((kD j, d) :: ds) (kD k) = if j = k then some d else lookK ds (kD k) := by
      show (if eqK (kD j) (kD k) then some d else lookK ds (kD k)) = _
      rw [eqK_kD]
      by_cases hj : j = k <;> simp [hj]
    rw [e1, e2]
    by_cases hj : j = k
    · rw [if_pos hj, if_pos hj]
      exact .inr ⟨v, d, rfl, rfl, h⟩
    · rw [if_neg hj, if_neg hj]
      exact DRk.look k r
theorem V_kD {K : Fg} {G : Hp} {v : V} {k : Key} (h : DR K G v (kD k)) : v = kV k := by
  cases k <;> cases h <;> rfl
theorem kV_DR {K : Fg} {G : Hp} (k : Key) : DR K G (kV k) (kD k) := by cases k <;> constructor
theorem still_kD (k : Key) : still (kD k) = true := by cases k <;> rfl

section
variable {X : Cx}
theorem bl_out {K : Fg} {G H : Hp} {b : Bool} {Q : VK} (sm : Same G H) (q : ∀ v G' H', Ext none G H G' H' → Same G' H' → Val K none H G' H' .dat v (.bool b) → Q v H') : Q (.bl b) H := q _ G H Ext.refl sm (.bl b)
theorem op_cmpD (op : CmpOp) (hu : X.A.units + 64 < cLine) : OpR X (compareOp op) (rV2 X.K (cmpD op) .dat) := by
  intro pins s σ H x y v u Q I rx ry h
  obtain ⟨G, a, b, d, sm, va, vb, e, q⟩ := h
  cases op with
  | Eq =>
    simp only [cmpD] at e
    split at e
    · rename_i hz
      cases e
      simp only [Bool.and_eq_true] at hz
      exact op_eqD hu pins s σ H x y v u Q I rx ry ⟨a, b, (va.at sm).dp (SeqAt.canLay_of_shaped hz.1), (vb.at sm).dp (SeqAt.canLay_of_shaped hz.2), hz.1, hz.2, bl_out sm q⟩
    · cases e
  | NotEq =>
    simp only [cmpD] at e
    split at e
    · rename_i hz
      cases e
      simp only [Bool.and_eq_true] at hz
      exact op_neD hu pins s σ H x y v u Q I rx ry ⟨a, b, (va.at sm).dp (SeqAt.canLay_of_shaped hz.1), (vb.at sm).dp (SeqAt.canLay_of_shaped hz.2), hz.1, hz.2, bl_out sm q⟩
    · cases e
  | Lt =>
    have e : _ = some d := e
    simp only [cmpD, ltD] at e
    split at e
    · rename_i hz
      cases e
      simp only [Bool.and_eq_true] at hz
      obtain ⟨⟨h1, h2⟩, h3, h4⟩ := hz
      obtain ⟨as, r1⟩ := Dp.reads I a x v ((va.at sm).dp (SeqAt.canLay_of_shaped h3)) rx
      obtain ⟨bs, r2⟩ := Dp.reads I b y u ((vb.at sm).dp (SeqAt.canLay_of_shaped h4)) ry
      refine PySem.W.lt_data r1 r2 h1 ?_ (SeqAt.room_of_shaped h3 hu) ⟨.bl _, H, I, rfl, bl_out sm q⟩
      intro z; subst z; cases h2
    · cases e
  | LtE =>
    have e : _ = some d := e
    simp only [cmpD, ltD] at e
    split at e
    · rename_i hz
      cases e
      simp only [Bool.and_eq_true] at hz
      obtain ⟨⟨h1, h2⟩, h3, h4⟩ := hz
      obtain ⟨as, r1⟩ := Dp.reads I a x v ((va.at sm).dp (SeqAt.canLay_of_shaped h4)) rx
      obtain ⟨bs, r2⟩ := Dp.reads I b y u ((vb.at sm).dp (SeqAt.canLay_of_shaped h3)) ry
      refine PySem.W.le_data r1 r2 (by rw [PySem.W.alike_comm]; exact h1) ?_ (SeqAt.room_of_shaped h4 hu) ⟨.bl _, H, I, rfl, bl_out sm q⟩
      intro z; subst z; cases b <;> first | (simp [PySem.W.alike] at h1; done) | (simp [ordD] at h2; done)
    · cases e
  | Gt =>
    have e : _ = some d := e
    simp only [cmpD, ltD] at e
    split at e
    · rename_i hz
      cases e
      simp only [Bool.and_eq_true] at hz
      obtain ⟨⟨h1, h2⟩, h3, h4⟩ := hz
      obtain ⟨as, r1⟩ := Dp.reads I a x v ((va.at sm).dp (SeqAt.canLay_of_shaped h4)) rx
      obtain ⟨bs, r2⟩ := Dp.reads I b y u ((vb.at sm).dp (SeqAt.canLay_of_shaped h3)) ry
      refine PySem.W.gt_data r1 r2 (by rw [PySem.W.alike_comm]; exact h1) ?_ (SeqAt.room_of_shaped h4 hu) ⟨.bl _, H, I, rfl, bl_out sm q⟩
      intro z; subst z; cases b <;> first | (simp [PySem.W.alike] at h1; done) | (simp [ordD] at h2; done)
    · cases e
  | GtE =>
    have e : _ = some d := e
    simp only [cmpD, ltD] at e
    split at e
    · rename_i hz
      cases e
      simp only [Bool.and_eq_true] at hz
      obtain ⟨⟨h1, h2⟩, h3, h4⟩ := hz
      obtain ⟨as, r1⟩ := Dp.reads I a x v ((va.at sm).dp (SeqAt.canLay_of_shaped h3)) rx
      obtain ⟨bs, r2⟩ := Dp.reads I b y u ((vb.at sm).dp (SeqAt.canLay_of_shaped h4)) ry
      refine PySem.W.ge_data r1 r2 h1 ?_ (SeqAt.room_of_shaped h3 hu) ⟨.bl _, H, I, rfl, bl_out sm q⟩
      intro z; subst z; cases h2
    · cases e
  | Is =>
    cases b with
    | none =>
      cases e
      have hx : decide (x = V.non) = isNone a := by
        cases va.at sm <;> first | rfl | (exact decide_eq_false (fun z => nomatch z))
      exact op_isN pins s σ H x y v u Q I rx ry ⟨vb.non, by rw [hx]; exact bl_out sm q⟩
    | _ => cases a <;> cases e
  | IsNot =>
    cases b with
    | none =>
      cases e
      have hx : decide (x = V.non) = isNone a := by
        cases va.at sm <;> first | rfl | (exact decide_eq_false (fun z => nomatch z))
      exact op_notN pins s σ H x y v u Q I rx ry ⟨vb.non, by rw [hx]; exact bl_out sm q⟩
    | _ => cases a <;> cases e
  | In =>
    cases b with
    | list ys =>
      have e : inSeq false a ys = some d := by cases a <;> exact e
      unfold inSeq at e
      split at e
      · rename_i hz
        cases e
        simp only [Bool.and_eq_true, decide_eq_true_eq] at hz
        obtain ⟨⟨h1, h2⟩, h3⟩ := hz
        obtain ⟨as, r1⟩ := Dp.reads I a x v ((va.at sm).dp h1) rx
        obtain ⟨bs, r2⟩ := Dp.reads I (.list ys) y u ((vb.at sm).dp (by simpa [PyData.canLay0] using h3)) ry
        exact SeqAt.in_list_reads r2 r1 h3 h1 (by omega) ⟨.bl _, H, I, rfl, bl_out sm q⟩
      · cases e
    | tuple ys =>
      have e : inSeq false a ys = some d := by cases a <;> exact e
      unfold inSeq at e
      split at e
      · rename_i hz
        cases e
        simp only [Bool.and_eq_true, decide_eq_true_eq] at hz
        obtain ⟨⟨h1, h2⟩, h3⟩ := hz
        obtain ⟨as, r1⟩ := Dp.reads I a x v ((va.at sm).dp h1) rx
        obtain ⟨bs, r2⟩ := Dp.reads I (.tuple ys) y u ((vb.at sm).dp (by simpa [PyData.canLay0] using h3)) ry
        exact SeqAt.in_tuple_reads r2 r1 h3 h1 (by omega) ⟨.bl _, H, I, rfl, bl_out sm q⟩
      · cases e
    | dict ys =>
      have e : (if isKey a then some (PyData.bool (hasK ys a)) else none) = some d := by cases a <;> exact e
      split at e
      · rename_i hz
        cases e
        obtain ⟨k, rfl⟩ := isKey_kD hz
        obtain ⟨p, od, kvs, rfl, hp, dr⟩ := vb.dic sm
        have hx : x = kV k := V_kD (va.dr (still_kD k))
        subst hx
        cases ry
        have hs : (valV kvs k).isSome = hasK ys (kD k) := by
          unfold hasK
          rcases dr.look k with ⟨h1, h2⟩ | ⟨w, z, h1, h2, _⟩ <;> rw [h1, h2] <;> rfl
        refine d_in (by omega) I (.inl ⟨kvs, k, .inr ⟨od, hp⟩, rfl, rfl⟩) rx fun s' I' => ⟨.bl _, H, I', rfl, ?_⟩
        rw [hs]
        exact bl_out sm q
      · cases e
    | str z =>
      cases a with
      | str w =>
        simp only [cmpD] at e
        split at e
        · rename_i c hc
          cases e
          have hw : w = ⟨#[c]⟩ := by
            unfold strOne at hc
            split at hc
            · rename_i c' hl
              cases hc
              exact cps_inj hl
            · cases hc
          exact op_in_sign pins s σ H x y v u Q I rx ry ⟨c, z, by rw [va.str, hw], vb.str, bl_out sm q⟩
        · cases e
      | _ => cases e
    | _ => cases a <;> cases e
  | NotIn =>
    cases b with
    | list ys =>
      have e : inSeq true a ys = some d := by cases a <;> exact e
      unfold inSeq at e
      split at e
      · rename_i hz
        cases e
        simp only [Bool.and_eq_true, decide_eq_true_eq] at hz
        obtain ⟨⟨h1, h2⟩, h3⟩ := hz
        obtain ⟨as, r1⟩ := Dp.reads I a x v ((va.at sm).dp h1) rx
        obtain ⟨bs, r2⟩ := Dp.reads I (.list ys) y u ((vb.at sm).dp (by simpa [PyData.canLay0] using h3)) ry
        exact SeqAt.notIn_list_reads r2 r1 h3 h1 (by omega) ⟨.bl _, H, I, rfl, bl_out sm q⟩
      · cases e
    | tuple ys =>
      have e : inSeq true a ys = some d := by cases a <;> exact e
      unfold inSeq at e
      split at e
      · rename_i hz
        cases e
        simp only [Bool.and_eq_true, decide_eq_true_eq] at hz
        obtain ⟨⟨h1, h2⟩, h3⟩ := hz
        obtain ⟨as, r1⟩ := Dp.reads I a x v ((va.at sm).dp h1) rx
        obtain ⟨bs, r2⟩ := Dp.reads I (.tuple ys) y u ((vb.at sm).dp (by simpa [PyData.canLay0] using h3)) ry
        exact SeqAt.notIn_tuple_reads r2 r1 h3 h1 (by omega) ⟨.bl _, H, I, rfl, bl_out sm q⟩
      · cases e
    | dict ys =>
      have e : (if isKey a then some (PyData.bool (!hasK ys a)) else none) = some d := by cases a <;> exact e
      split at e
      · rename_i hz
        cases e
        obtain ⟨k, rfl⟩ := isKey_kD hz
        obtain ⟨p, od, kvs, rfl, hp, dr⟩ := vb.dic sm
        have hx : x = kV k := V_kD (va.dr (still_kD k))
        subst hx
        cases ry
        have hs : (valV kvs k).isSome = hasK ys (kD k) := by
          unfold hasK
          rcases dr.look k with ⟨h1, h2⟩ | ⟨w, z, h1, h2, _⟩ <;> rw [h1, h2] <;> rfl
        refine d_notIn (by omega) I (.inl ⟨kvs, k, .inr ⟨od, hp⟩, rfl, rfl⟩) rx fun s' I' => ⟨.bl _, H, I', rfl, ?_⟩
        rw [hs]
        exact bl_out sm q
      · cases e
    | str z =>
      cases a with
      | str w =>
        simp only [cmpD] at e
        split at e
        · rename_i c hc
          cases e
          have hw : w = ⟨#[c]⟩ := by
            unfold strOne at hc
            split at hc
            · rename_i c' hl
              cases hc
              exact cps_inj hl
            · cases hc
          exact op_notIn_sign pins s σ H x y v u Q I rx ry ⟨c, z, by rw [va.str, hw], vb.str, bl_out sm q⟩
        · cases e
      | _ => cases e
    | _ => cases a <;> cases e

/-! ### truth -/
theorem tru_of {K : Fg} {G H : Hp} {v : V} {d : D} {k : Bool} (sm : Same G H) (h : View K none G H v d) (e : truD d = some k) : TruV K v H k := by
  cases d with
  | none => rw [h.non]; cases e; rfl
  | bool b => rw [h.bl]; cases e; rfl
  | int i => rw [h.int]; cases e; rfl
  | str z =>
    rw [h.str]
    simp only [truD] at e
    split at e
    · rename_i hz
      cases e
      exact ⟨lineOk_le hz, rfl⟩
    · cases e
  | list xs =>
    cases e
    obtain ⟨a, ys, rfl, r, ds⟩ := h.lst sm
    refine .inl ⟨ys, r, ?_⟩
    cases ds <;> rfl
  | tuple xs =>
    cases e
    obtain ⟨a, ys, rfl, r, ds⟩ := h.tup sm
    refine .inr (.inl ⟨ys, r, ?_⟩)
    cases ds <;> rfl
  | dict _ => cases e

/-! ### builtins -/
def biName : Bi → Str
  | .len => "len" | .list => "list" | .tuple => "tuple" | .int => "int" | .abs => "abs" | .sum => "sum" | .max => "max" | .min => "min" | .all => "all" | .any => "any" | .sorted => "sorted" | .dict => "dict"
def biVal : Bi → Value
  | .len => .builtin "len" | .list => .type "list" | .tuple => .type "tuple" | .int => .type "int" | .abs => .builtin "abs" | .sum => .builtin "sum" | .max => .builtin "max" | .min => .builtin "min" | .all => .builtin "all" | .any => .builtin "any" | .sorted => .builtin "sorted" | .dict => .type "dict"
theorem bi_boot (f : Bi) : bootBuiltins (biName f) = some (biVal f) := by cases f <;> decide +kernel
theorem sum_tup {prog : Program} {w : World} {A : Around} {E : Value → Shared → Prop} {s : Shared} {l : Addr} {its : List Value} {ns : List Int} {Q : Value → Shared → Prop} (hh : A.handled = none) (hl : s.heap.IsTuple l its.toArray) (hi : IntsAre its ns)
    (h : ∀ h' tk t', (∀ b o, s.heap.get? b = some o → h'.get? b = some o) → Q (.int ns.sum t') { s with heap := h', toks := tk }) : wpAny (model prog w) A (call (.builtin "sum") [.ref l]) Q E s := by
  obtain ⟨xs, e⟩ := hi.allInts.items
  have hn : numsOf (intItems xs).toList = ns := by rw [← e]; exact hi.numsOf
  rw [nums_intItems] at hn
  rw [e] at hl
  have hlt : l < s.heap.objs.size := by obtain ⟨o, ho, _⟩ := hl; exact Heap.lt_size ho
  refine call_sum_walkG (wpAny_pyIter_tuple hl ?_)
  refine ⟨_, _, _, _, _, _, numAt xs, rfl, Walks.tuple (A := A.in1) hh s.heap.objs.size l (Nat.ne_of_lt hlt) (intItems xs), ⟨⟨_, Heap.get?_push_size _ rfl, rfl, rfl⟩, hl.push _⟩, fun b hb => ?_, (fun _ _ => intItems_at), fun h' tk t' hk => ?_⟩
  · rw [Heap.size_push]
    rcases List.mem_cons.mp hb with e | e
    · subst e; exact Nat.lt_succ_self _
    · have e : b = l := by simpa using e
      subst e; exact Nat.lt_succ_of_lt hlt
  · have hs : (intItems xs).size = xs.size := by simp [intItems]
    rw [hs]
    have h2 := h h' tk t' fun b o q => hk b o (fun z => by
      have e : b = s.heap.objs.size := by simpa using z
      subst e
      exact absurd (Heap.lt_size q) (Nat.lt_irrefl _)) (Heap.get?_push_of_some _ q)
    rw [preSum_eq, List.take_of_length_le (by simp), hn]
    exact h2
theorem cr_sumT (hc : X.calm = true) : CallR X (.builtin "sum") (fun vs H Q => ∃ (a : Addr) (ns : List Int), vs = [V.ref a] ∧ SqT X.K H a (ns.map V.int) ∧ Q (.int ns.sum) H) := by
  intro pins s σ H vs us Q I r h
  obtain ⟨a, ns, rfl, hs, q⟩ := h
  obtain ⟨its, rv, hl, _⟩ := I.tuple hs
  rw [Vals.ref1 r]
  exact sum_tup (I.ok.hd hc) hl rv.ints fun h' tk t' hk => ⟨.int _, H, I.kept hk, ⟨_, rfl⟩, q⟩
end
end KN

set_option maxRecDepth 100000
set_option maxHeartbeats 1000000
namespace KN
open PySem PySem.SeqAt PySem.Calls L2 PyProof.Rows PySem.W
/-! ### rows of tuples, empty ones among them, can be sorted -/
section
variable {prog : Program} {w : World} {A : Around} {E : Value → Shared → Prop} {s : Shared}
theorem lt_tups {l b : Addr} {us zs : Array Value} {e r : Nat → Bool} {Q : Value → Shared → Prop} (hl : s.heap.IsTuple l us) (hb : s.heap.IsTuple b zs)
    (he : ∀ j (h1 : j < us.size) (h2 : j < zs.size), EqAt A.in1 s us[j] zs[j] (e j)) (hr : ∀ j (h1 : j < us.size) (h2 : j < zs.size), e j = false → RcLt A.in1 s us[j] zs[j] (r j))
    (h : Q (.bool (firstLt e r (decide (us.size < zs.size)) (List.range (min us.size zs.size)))) s) : wpAny (model prog w) A (call (.builtin "tuple.__lt__") [.ref l, .ref b]) Q E s := by
  obtain ⟨⟨c1, d1, t1, s1⟩, o1, hc, n, hd⟩ := id hl
  obtain ⟨⟨c2, d2, t2, s2⟩, o2, hc2, n2, hd2⟩ := id hb
  simp only at hc hd hc2 hd2
  subst hc hd hc2 hd2
  exact call_meets PySem.F.slot_tuple_lt ⟨_, o1, rfl⟩ PySem.F.entry_tuple_lt (PySem.F.args_tuple_lt_2 _ _) (tuple_ltAt l b us zs n n2 d1 d2 s1 s2 e r) ⟨o1, o2, he, hr, h⟩
theorem one_tups {da db : PyData} {a b : Value} {as bs : List Addr} {Q : Bool → Shared → Prop} (ht : ∃ xs, da = .tuple xs) (ra : Reads s.heap a da as) (rb : Reads s.heap b db bs) (h : alike da db = true)
    (hu : A.units + min da.depth db.depth < cLine) (hq : Q (dataLt da db) s) : wpAny (model prog w) A (oneLt' true a b) Q E s := by
  obtain ⟨xs, rfl⟩ := ht
  cases db with
  | tuple ys =>
    have hal : alikeAll xs ys = true := by simpa [alike] using h
    cases ra with
    | @tuple l o vs n _ as₁ h1 h2 h3 h4 =>
      cases rb with
      | @tuple l' o' vs' n' _ bs₁ k1 k2 k3 k4 =>
        have n1 : vs.size = xs.length := by simpa using SeqAt.ReadsAll.length _ _ _ h4
        have n2 : vs'.size = ys.length := by simpa using SeqAt.ReadsAll.length _ _ _ k4
        rw [dataLt_tuple, ← firstLt_toks xs ys hal, ← n1, ← n2] at hq
        rw [oneLt'_eq]
        simp only [if_true]
        refine wpAny_bind (wpAny_cRoomFor (by omega) ?_)
        refine wpAny_bind (wpAny_callSpecialIfBound?_slot (T := "tuple") ⟨_, h1, h2⟩ PySem.F.slot_tuple_lt (lt_tups (e := pairEq xs ys) (r := fun j => dataLt (xs.getD j .none) (ys.getD j .none)) ⟨_, h1, h2, _, h3⟩ ⟨_, k1, k2, _, k3⟩ (fun j j1 j2 => ?_) (fun j j1 j2 hj => ?_) ?_))
        · have := eqAt_alikeAll xs ys A.in1 s vs.toList vs'.toList _ _ h4 k4 hal (SeqAt.room_in hu) j (by simpa using j1) (by simpa using j2)
          simpa using this
        · have := rcLt_alikeAll xs ys A.in1 s vs.toList vs'.toList _ _ h4 k4 hal (SeqAt.room_in hu) j (by simpa using j1) (by simpa using j2) hj
          simpa using this
        · exact wpAny_truthy_bool hq
  | _ => exact absurd h (by simp [alike])
def headOf : PyData → Option PyData
  | .tuple (x :: _) => some x
  | _ => none
theorem first_of {M : Model} {v : Value} {d : PyData} {as : List Addr} {Q : Option Value → Shared → Prop} (r : Reads s.heap v d as) (ht : ∃ xs, d = .tuple xs) (h : ∀ o, o.isSome = (headOf d).isSome → Q o s) : wpAny M A (firstOfTuple' v) Q E s := by
  obtain ⟨xs, rfl⟩ := ht
  rw [kas_first_eq]
  cases r with
  | @tuple l o vs n _ as₁ h1 h2 h3 h4 =>
    refine wpAny_bind ((looks_reads (M := M) (Reads.tuple h1 h2 h3 h4)).here ?_)
    rw [if_neg (by simp [dataType])]
    refine wpAny_bind (listItems_at h1 h3 (wpAny_pure (h _ ?_)))
    have n1 : vs.size = xs.length := by simpa using SeqAt.ReadsAll.length _ _ _ h4
    cases xs with
    | nil => rw [Array.getElem?_eq_none (by rw [n1]; exact Nat.zero_le _)]; rfl
    | cons x r => rw [Array.getElem?_eq_getElem (by rw [n1]; exact Nat.succ_pos _)]; rfl
theorem firsts_of {M : Model} : ∀ {vs : List Value} {ds : List PyData} {Q : List (Option Value) → Shared → Prop}, EachIs (fun v d => ∃ as, Reads s.heap v d as) vs ds → (∀ d ∈ ds, ∃ xs, d = .tuple xs) →
    (∀ os : List (Option Value), os.map (·.isSome) = ds.map (fun d => (headOf d).isSome) → Q os s) → wpAny M A (vs.mapM firstOfTuple') Q E s
  | _, _, Q, .nil, _, h => by
    rw [List.mapM_nil]
    exact wpAny_pure (h [] rfl)
  | _, _, Q, .cons (b := d) ⟨as, r⟩ t, ht, h => by
    rw [List.mapM_cons]
    refine wpAny_bind (first_of r (ht d List.mem_cons_self) fun o ho => wpAny_bind (firsts_of t (fun d hd => ht d (List.mem_cons_of_mem _ hd)) fun os hos => wpAny_pure (h _ ?_)))
    rw [List.map_cons, List.map_cons, ho, hos]
theorem types_of {M : Model} : ∀ {vs : List Value} {ds : List PyData} {Q : List Value → Shared → Prop}, EachIs (fun v d => ∃ as, Reads s.heap v d as) vs ds → (∀ d ∈ ds, ∃ xs, d = .tuple xs) →
    Q (vs.map fun _ => Value.type "tuple") s → wpAny M A (vs.mapM typeOf) Q E s
  | _, _, Q, .nil, _, h => by
    rw [List.mapM_nil]
    exact wpAny_pure h
  | _, _, Q, .cons (b := d) ⟨as, r⟩ t, ht, h => by
    rw [List.mapM_cons]
    obtain ⟨xs, rfl⟩ := ht _ List.mem_cons_self
    exact wpAny_bind ((looks_reads (M := M) r).here (wpAny_bind (types_of (Q := fun bs s' => wpAny M A (pure (_ :: bs)) Q E s') t (fun d hd => ht d (List.mem_cons_of_mem _ hd)) (wpAny_pure h))))
/-- tuples, one of them empty at least -/
theorem sorts_mixed {vs : List Value} {ds : List PyData} (e : EachIs (fun v d => ∃ as, Reads s.heap v d as) vs ds) (hal : AllAlike ds) (ht : ∀ d ∈ ds, ∃ xs, d = .tuple xs) (hm : PyData.tuple [] ∈ ds) (hu : ∀ d, d ∈ ds → A.units + d.depth < cLine) :
    SortsAt prog w A s (dataKind s.heap ds) vs := by
  have room : ∀ {d d' : PyData}, d ∈ ds → A.units + min d.depth d'.depth < cLine := fun {d d'} hd => Nat.lt_of_le_of_lt (Nat.add_le_add_left (Nat.min_le_left _ _) _) (hu d hd)
  refine ⟨fun v hv => ?_, ?_⟩
  · obtain ⟨d, hd, as, r⟩ := e.left v hv
    exact ⟨_, dataKind_some hal hd r⟩
  · have hfst : ∀ os : List (Option Value), os.map (·.isSome) = ds.map (fun d => (headOf d).isSome) → (os.toArray.all (·.isSome)) = false := fun os ho => by
      rw [List.all_toArray]
      cases q : os.all (·.isSome) with
      | false => rfl
      | true =>
        have h1 : (ds.map (fun d => (headOf d).isSome)).all id = true := by
          rw [← ho, List.all_map]
          exact q
        have := List.all_eq_true.mp h1 _ (List.mem_map.mpr ⟨_, hm, rfl⟩)
        simp [headOf] at this
    have kindOf : ∀ (kd : SortKind), (∀ os : List (Option Value), os.map (·.isSome) = ds.map (fun d => (headOf d).isSome) → ((os.toArray[0]?.bind id).isSome = true ∧ kd = general') ∨ ((os.toArray[0]?.bind id).isSome = false ∧ kd = oneType')) → 2 ≤ vs.length →
        ∀ (E : Value → Shared → Prop) {Q : SortKind → Shared → Prop}, Q kd s → wpAny (model prog w) A (keyKind' vs.toArray) Q E s := fun kd hk h2 E Q hq => by
      rw [kat_kind_eq, List.mapM_toArray, map_eq_pure_bind]
      refine wpAny_bind (wpAny_bind (firsts_of e ht fun os ho => wpAny_pure ?_))
      rw [if_neg (by rw [hfst os ho]; simp)]
      rcases hk os ho with ⟨h1, rfl⟩ | ⟨h1, rfl⟩
      · rw [if_pos h1]
        exact wpAny_pure hq
      · rw [if_neg (by rw [h1]; simp)]
        rw [oneTypeOnly'_eq, List.mapM_toArray, map_eq_pure_bind]
        refine wpAny_bind (wpAny_bind (wpAny_bind (types_of e ht (wpAny_pure ?_))))
        obtain ⟨v₁, rest, rfl⟩ : ∃ v₁ rest, vs = v₁ :: rest := by
          cases vs with
          | nil => simp at h2
          | cons a b => exact ⟨a, b, rfl⟩
        have hall : ((List.map (fun _ => Value.type "tuple") (v₁ :: rest)).toArray.all fun x => x == Value.type "tuple") = true := by
          simp only [List.all_toArray, List.all_map, List.all_eq_true]
          intro _ _
          rfl
        have h0 : (List.map (fun _ => Value.type "tuple") (v₁ :: rest)).toArray[0]? = some (Value.type "tuple") := by simp
        rw [h0]
        simp only [hall, if_true]
        exact wpAny_pure (wpAny_pure hq)
    cases ds with
    | nil => cases hm
    | cons d₀ ds₀ =>
      obtain ⟨x₀, e₀⟩ := ht d₀ List.mem_cons_self
      cases x₀ with
      | nil =>
        refine ⟨oneType', ?_, kindOf _ fun os ho => .inr ⟨?_, rfl⟩⟩
        · intro E x y a b Q ha hb hq
          obtain ⟨d, as, hd, ra, rfl⟩ := dataKind_inv ha
          obtain ⟨d', as', hd', rb, rfl⟩ := dataKind_inv hb
          rw [keyLt'_oneType]
          exact one_tups (ht d hd) ra rb (hal d hd d' hd') (room hd) hq
        · cases os with
          | nil => rfl
          | cons o r =>
            rw [List.map_cons, List.map_cons] at ho
            have := (List.cons.inj ho).1
            rw [e₀] at this
            cases o with
            | none => rfl
            | some _ => simp [headOf] at this
      | cons x r₀ =>
        refine ⟨general', ?_, kindOf _ fun os ho => .inl ⟨?_, rfl⟩⟩
        · intro E x y a b Q ha hb hq
          obtain ⟨d, as, hd, ra, rfl⟩ := dataKind_inv ha
          obtain ⟨d', as', hd', rb, rfl⟩ := dataKind_inv hb
          show wpAny (model prog w) A (oneLt' false x y) Q E s
          refine oneLt_alike (fun z => nomatch z) ra rb (hal d hd d' hd') ?_ (room hd) hq
          obtain ⟨xs, rfl⟩ := ht d hd
          exact fun z => nomatch z
        · cases os with
          | nil => cases ho
          | cons o r =>
            rw [List.map_cons, List.map_cons] at ho
            have := (List.cons.inj ho).1
            rw [e₀] at this
            cases o with
            | none => simp [headOf] at this
            | some _ => rfl
/-- all that the check of alike rows lets through -/
theorem sorts_ok {vs : List Value} {ds : List PyData} (e : EachIs (fun v d => ∃ as, Reads s.heap v d as) vs ds) (h : allAlike ds = true) (hu : A.units + 60 < cLine) : SortsAt prog w A s (dataKind s.heap ds) vs := by
  have h' : ∀ d ∈ ds, ordD d = true ∧ d.depth ≤ 40 ∧ ∀ d' ∈ ds, alike d d' = true := fun d hd => by
    have := List.all_eq_true.mp h d hd
    simp only [Bool.and_eq_true, decide_eq_true_eq, List.all_eq_true] at this
    exact ⟨this.1.1, this.1.2.2, this.2⟩
  have hal : AllAlike ds := fun d hd d' hd' => (h' d hd).2.2 d' hd'
  have hr : ∀ d, d ∈ ds → A.units + d.depth < cLine := fun d hd => by have := (h' d hd).2.1; omega
  by_cases hm : PyData.tuple [] ∈ ds
  · refine sorts_mixed e hal (fun d hd => ?_) hm hr
    have := hal _ hm d hd
    cases d <;> first | exact ⟨_, rfl⟩ | simp [alike] at this
  · refine SortsAt.data e hal ?_ hr
    by_cases ht : ∃ xs, PyData.tuple xs ∈ ds
    · obtain ⟨xs, hx⟩ := ht
      refine .inl fun d hd => ?_
      have := hal _ hx d hd
      cases d with
      | tuple ys =>
        cases ys with
        | nil => exact absurd hd hm
        | cons y r => exact ⟨y, r, rfl⟩
      | _ => simp [alike] at this
    · refine .inr fun d hd => ⟨fun z => ?_, fun xs z => ht ⟨xs, z ▸ hd⟩⟩
      have := (h' d hd).1
      rw [z] at this
      cases this
end
/-! ### the sorted row is sortD's -/
theorem ord_trans {a b c : PyData} (h1 : dataLt a b = true) (h2 : dataLt b c = true) : dataLt a c = true := lex_trans _ _ _ h1 h2
theorem insD_perm (x : D) : ∀ l, (insD x l).Perm (x :: l)
  | [] => List.Perm.refl _
  | y :: r => by
    unfold insD
    split
    · exact ((insD_perm x r).cons y).trans (List.Perm.swap x y r)
    · exact List.Perm.refl _
theorem sortD_perm : ∀ l, (sortD l).Perm l
  | [] => List.Perm.refl _
  | x :: r => (insD_perm x (sortD r)).trans ((sortD_perm r).cons x)
def nlt (a b : D) : Prop := dataLt b a = false
theorem nlt_trans {a b c : D} (h1 : nlt a b) (h2 : nlt b c) : nlt a c := by
  unfold nlt at *
  cases q : dataLt c a with
  | false => rfl
  | true =>
    rcases lex_negTrans _ (keyToks b) _ q with z | z
    · exact absurd z (by rw [show PyProof.Rows.lexLt itemOrd (keyToks c) (keyToks b) = dataLt c b from rfl, h2]; simp)
    · exact absurd z (by rw [show PyProof.Rows.lexLt itemOrd (keyToks b) (keyToks a) = dataLt b a from rfl, h1]; simp)
theorem nlt_of {a b : D} (h : dataLt a b = true) : nlt a b := by
  unfold nlt
  cases q : dataLt b a with
  | false => rfl
  | true => exact absurd (ord_trans h q) (by rw [show dataLt a a = false from lex_irrefl _]; simp)
theorem insD_sorted (x : D) : ∀ l : List D, l.Pairwise nlt → (insD x l).Pairwise nlt
  | [], _ => List.pairwise_singleton _ _
  | y :: r, h => by
    obtain ⟨h1, h2⟩ := List.pairwise_cons.mp h
    unfold insD
    split
    · rename_i hy
      refine List.pairwise_cons.mpr ⟨fun z hz => ?_, insD_sorted x r h2⟩
      rcases List.mem_cons.mp ((insD_perm x r).mem_iff.mp hz) with e | e
      · rw [e]; exact nlt_of hy
      · exact h1 z e
    · rename_i hy
      have hxy : nlt x y := by
        unfold nlt
        cases q : dataLt y x with
        | false => rfl
        | true => exact absurd q hy
      refine List.pairwise_cons.mpr ⟨fun z hz => ?_, h⟩
      rcases List.mem_cons.mp hz with e | e
      · rw [e]; exact hxy
      · exact nlt_trans hxy (h1 z e)
theorem sortD_sorted : ∀ l, (sortD l).Pairwise nlt
  | [] => List.Pairwise.nil
  | x :: r => insD_sorted x _ (sortD_sorted r)
mutual
/-- alike data with the same signs are the same -/
theorem toks_inj : ∀ {a b : D}, alike a b = true → ∀ {r q}, keyToks a ++ r = keyToks b ++ q → a = b ∧ r = q
  | .none, b, h, r, q, e => by
    cases b <;> first | (simp [alike] at h; done) | exact ⟨rfl, by simpa [keyToks] using e⟩
  | .bool x, b, h, r, q, e => by
    cases b with
    | bool y => cases x <;> cases y <;> simp [keyToks] at e <;> exact ⟨rfl, e⟩
    | _ => simp [alike] at h
  | .int x, b, h, r, q, e => by
    cases b with
    | int y => simp [keyToks] at e; exact ⟨by rw [e.1], e.2⟩
    | _ => simp [alike] at h
  | .str x, b, h, r, q, e => by
    cases b with
    | str y => simp [keyToks] at e; exact ⟨by cases x; cases y; simp_all, e.2⟩
    | _ => simp [alike] at h
  | .list xs, b, h, r, q, e => by
    cases b with
    | list ys =>
      have := toksAll_inj (xs := xs) (ys := ys) (by simpa [alike] using h) (by simpa [keyToks] using e)
      exact ⟨by rw [this.1], this.2⟩
    | _ => simp [alike] at h
  | .tuple xs, b, h, r, q, e => by
    cases b with
    | tuple ys =>
      have := toksAll_inj (xs := xs) (ys := ys) (by simpa [alike] using h) (by simpa [keyToks] using e)
      exact ⟨by rw [this.1], this.2⟩
    | _ => simp [alike] at h
  | .dict _, b, h, r, q, e => by cases b <;> simp [alike] at h
theorem toksAll_inj : ∀ {xs ys : List D}, alikeAll xs ys = true → ∀ {r q}, keyToksAll xs ++ r = keyToksAll ys ++ q → xs = ys ∧ r = q
  | [], [], _, r, q, e => by simpa [keyToksAll] using e
  | [], y :: ys, _, r, q, e => by simp [keyToksAll] at e
  | x :: xs, [], _, r, q, e => by simp [keyToksAll] at e
  | x :: xs, y :: ys, h, r, q, e => by
    simp only [alikeAll, Bool.and_eq_true] at h
    simp only [keyToksAll, List.cons_append, List.append_assoc, List.cons.injEq, true_and] at e
    obtain ⟨h1, h2⟩ := toks_inj h.1 e
    obtain ⟨h3, h4⟩ := toksAll_inj h.2 h2
    exact ⟨by rw [h1, h3], h4⟩
end
theorem nlt_anti {a b : D} (h : alike a b = true) (h1 : nlt a b) (h2 : nlt b a) : a = b := by
  have e : keyToks a = keyToks b := lex_total _ _ h2 h1
  exact (toks_inj h (r := []) (q := []) (by rw [e])).1
theorem perm_sorted_on {α : Type} {le : α → α → Prop} : ∀ {l m : List α}, (∀ a ∈ l, ∀ b ∈ l, le a b → le b a → a = b) → (∀ a, le a a) → l.Perm m → l.Pairwise le → m.Pairwise le → l = m
  | [], m, _, _, p, _, _ => (List.Perm.nil_eq p)
  | a :: r, [], _, _, p, _, _ => absurd p.length_eq (by simp)
  | a :: r, b :: q, anti, rf, p, h1, h2 => by
    have m1 : a ∈ b :: q := p.subset List.mem_cons_self
    have m2 : b ∈ a :: r := p.symm.subset List.mem_cons_self
    have l1 : le b a := by
      rcases List.mem_cons.mp m1 with z | z
      · rw [z]; exact rf _
      · exact List.rel_of_pairwise_cons h2 z
    have l2 : le a b := by
      rcases List.mem_cons.mp m2 with z | z
      · rw [z]; exact rf _
      · exact List.rel_of_pairwise_cons h1 z
    have hab : a = b := anti a List.mem_cons_self b m2 l2 l1
    subst hab
    rw [perm_sorted_on (fun x hx y hy => anti x (List.mem_cons_of_mem _ hx) y (List.mem_cons_of_mem _ hy)) rf (List.Perm.cons_inv p) (List.pairwise_cons.mp h1).2 (List.pairwise_cons.mp h2).2]
theorem nlt_refl (a : D) : nlt a a := lex_irrefl _
theorem sortD_uniq {l m : List D} (hal : ∀ a ∈ l, ∀ b ∈ l, alike a b = true) (p : m.Perm l) (h : m.Pairwise nlt) : m = sortD l :=
  perm_sorted_on (fun a ha b hb h1 h2 => nlt_anti (hal a (p.mem_iff.mp ha) b (p.mem_iff.mp hb)) h1 h2) nlt_refl (p.trans (sortD_perm l).symm) h (sortD_sorted l)
theorem merge_eq {l : List D} (hal : ∀ a ∈ l, ∀ b ∈ l, alike a b = true) : l.mergeSort (dataLe false fun d => d) = sortD l := by
  have le : ∀ a b, dataLe false (fun d : D => d) a b = !dataLt b a := fun a b => rfl
  refine sortD_uniq hal (List.mergeSort_perm _ _) ?_
  have := List.pairwise_mergeSort (le := dataLe false fun d : D => d) (fun a b c h1 h2 => ?_) (fun a b => ?_) l
  · refine this.imp fun {a b} h => ?_
    rw [le] at h
    unfold nlt
    simpa using h
  · rw [le] at *
    have := nlt_trans (a := a) (b := b) (c := c) (by unfold nlt; simpa using h1) (by unfold nlt; simpa using h2)
    unfold nlt at this
    rw [this]; rfl
  · rw [le, le]
    cases q : dataLt b a with
    | false => rfl
    | true =>
      have := nlt_of q
      unfold nlt at this
      rw [this]; rfl
end KN

set_option maxRecDepth 100000
set_option maxHeartbeats 1000000
namespace KN
open PySem PySem.SeqAt PySem.Calls L2 PyProof.Rows PySem.W
section
variable {prog : Program} {w : World} {A : Around} {E : Value → Shared → Prop} {s : Shared}
/-- sorted(x), by what the collecting of x gives -/
theorem sorted_gen {x : Value} {vs : List Value} {ds : List D} {R : Value → D → Prop} {Q : Value → Shared → Prop} (ha : argsOk "sorted" ⟨[x], []⟩)
    (hcol : ∀ (Q' : List Value → Shared → Prop) (E' : Value → Shared → Prop), (∀ h' tk, s.heap.objs.size ≤ h'.objs.size → (∀ b o, s.heap.get? b = some o → h'.get? b = some o) → Q' vs { s with heap := h', toks := tk }) → wpAny (model prog w) A.in1 (collect x) Q' E' s)
    (e : EachIs R vs ds) (er : EachIs (fun v d => ∃ as, Reads s.heap v d as) vs ds) (hal : allAlike ds = true) (hL : ds.length ≤ sizeLine) (hu : A.units + 62 < cLine)
    (h : ∀ (p : Addr) (out : List Value) (h' : Heap) (tk c : Nat), s.heap.objs.size ≤ p → (∀ b o, s.heap.get? b = some o → h'.get? b = some o) → h'.get? p = some (seqObj "list" out.toArray c) → EachIs R out (sortD ds) → out.length = ds.length → Q (.ref p) { s with heap := h', toks := tk }) :
    wpAny (model prog w) A (call (.builtin "sorted") [x]) Q E s := by
  have em : ds.map (fun d : D => d) = ds := List.map_id' ds
  have h2 : ∀ d ∈ ds, ∀ d' ∈ ds, alike d d' = true := fun d hd d' hd' => by
    have := List.all_eq_true.mp hal d hd
    simp only [Bool.and_eq_true, List.all_eq_true] at this
    exact this.2 d' hd'
  have hlen : vs.length = ds.length := e.length
  refine call_function_entry_kw kind_sorted plain_sorted entry_sorted ha ?_
  unfold Builtin.«sorted»
  refine wpAny_bind (m := checkCount "sorted" 1 1 _) (wpAny_pure ?_)
  refine wpAny_bind (hcol _ _ fun h1 tk hge kp => ?_)
  refine wpAny_bind (wpAny_newList ?_ (by rw [hlen]; exact hL))
  have hoL : (h1.push (seqObj "list" vs.toArray 0)).get? h1.objs.size = some (seqObj "list" vs.toArray 0) := Heap.get?_push_size _ rfl
  have keep : ∀ b o, s.heap.get? b = some o → b ≠ h1.objs.size ∧ (h1.push (seqObj "list" vs.toArray 0)).get? b = some o := fun b o q =>
    ⟨Nat.ne_of_lt (Heap.lt_size (kp b o q)), Heap.get?_push_of_some _ (kp b o q)⟩
  have er' : EachIs (fun v d => ∃ as, Reads (sortingHeap (h1.push (seqObj "list" vs.toArray 0)) h1.objs.size vs) v d as) vs ds :=
    er.mono fun _ _ ⟨as, r⟩ => ⟨as, PyProof.Rows.Reads.keeps (fun b o q => sortingHeap_old (keep b o q).1 (keep b o q).2) r⟩
  refine wpAny_bind (wpAny_holding (wpAny_call_entry_kw slot_list_sort ⟨_, hoL, rfl⟩ entry_list_sort ?body (args_list_sort _)))
  have S : SortsAt prog w A.in1.in1 { ({ s with heap := h1.push (seqObj "list" vs.toArray 0), toks := tk } : Shared) with heap := sortingHeap (h1.push (seqObj "list" vs.toArray 0)) h1.objs.size vs } (dataKind (sortingHeap (h1.push (seqObj "list" vs.toArray 0)) h1.objs.size vs) ds) vs :=
    sorts_ok er' hal (show A.units + 1 + 1 + 60 < cLine by omega)
  refine list_sort_vals (s := { s with heap := h1.push (seqObj "list" vs.toArray 0), toks := tk }) hoL S (by rw [hlen]; exact hL) ?_
  refine ⟨_, rfl, wpAny_pure ⟨_, rfl, ?_⟩⟩
  obtain ⟨c, hat⟩ := sortedHeap_at (out := (sortVals (dataKind (sortingHeap (h1.push (seqObj "list" vs.toArray 0)) h1.objs.size vs) ds) false vs vs).toArray) hoL
  have sv := sortVals_data (enc := fun d : D => d) false e er' (by rw [em]; exact h2)
  rw [em, merge_eq h2] at sv
  refine h h1.objs.size _ _ tk c hge (fun b o q => ?_) hat sv ?_
  · rw [sortedHeap_old (keep b o q).1 (Heap.lt_size (keep b o q).2)]
    exact (keep b o q).2
  · rw [sortVals_length false rfl]; exact hlen
/-- a list, a tuple collected -/
theorem collect_two {l : Addr} {vs : List Value} {Q : List Value → Shared → Prop} (hl : s.heap.IsList l vs.toArray ∨ s.heap.IsTuple l vs.toArray)
    (h : ∀ h' tk, s.heap.objs.size ≤ h'.objs.size → (∀ b o, s.heap.get? b = some o → h'.get? b = some o) → Q vs { s with heap := h', toks := tk }) (hsz : vs.length ≤ sizeLine) : wpAny (model prog w) A (collect (.ref l)) Q E s := by
  have fin : Q vs { s with heap := (s.heap.push (seqObj "list" #[] 0)).update s.heap.objs.size (Obj.mapSeq (· ++ vs.toArray)) } := by
    refine h _ s.toks (by rw [Heap.size_update, Heap.size_push]; exact Nat.le_succ _) fun b o e => ?_
    rw [Heap.get?_update_ne _ _ _ _ (Nat.ne_of_lt (Heap.lt_size e))]
    exact Heap.get?_push_of_some _ e
  rcases hl with hl | hl
  · exact collect_list hl fin hsz
  · obtain ⟨o, ho, hc, n, hd⟩ := id hl
    have at1 : (s.heap.push (seqObj "list" #[] 0)).get? l = some o := Heap.get?_push_of_some _ ho
    have at2 : (s.heap.push (seqObj "list" #[] 0)).get? s.heap.objs.size = some (seqObj "list" #[] 0) := Heap.get?_push_size _ rfl
    unfold collect
    refine wpAny_bind (wpAny_runValue (codeAny_builtin entry_proto_collect' ?_))
    show wpAny _ _ (newList [] >>= fun a => again (.builtin "list.__iadd__" ⟨[a, .ref l], []⟩)) _ _ s
    refine wpAny_bind (wpAny_newList (wpAny_pure ⟨Code.quiet_builtin _ (by decide +kernel), codeAny_builtin entry_list_iadd' ?_⟩))
    show wpAny _ _ (Builtin.List.listExtendWith (.ref s.heap.objs.size) (.ref l) (.ref s.heap.objs.size)) _ _ _
    unfold Builtin.List.listExtendWith
    refine wpAny_bind (wpAny_typeOf (T := "tuple") ⟨o, at1, hc⟩ ?_)
    rw [if_pos (by rw [show (Value.type "tuple" == Value.type "tuple") = true from rfl]; simp)]
    refine wpAny_bind (listItems_at at1 hd (wpAny_bind (listItems_at (xs := #[]) (n := 0) at2 rfl ?_)))
    rw [if_neg (by simp)]
    refine wpAny_bind (listUpdate_at (xs := #[]) (n := 0) at2 rfl ?_ (Nat.zero_le _) ?_)
    · refine wpAny_pure ?_
      refine wpAny_bind (wpAny_load (get?_update_seq at2 _) ?_)
      show wpAny _ _ (pure ((#[] : Array Value) ++ vs.toArray).toList) Q E _
      rw [show ((#[] : Array Value) ++ vs.toArray).toList = vs by simp]
      exact wpAny_pure fin
    · show (#[] ++ vs.toArray).size ≤ sizeLine + 1
      simp only [Array.size_append, List.size_toArray, List.length_nil]
      omega
end
/-! ### over the layer -/
theorem each_of {K : Fg} {G : Hp} : ∀ {xs : List V} {ds : List D} {us : List Value}, DRs K G xs ds → Vals xs us → EachIs (fun u d => ∃ x, RelV x u ∧ DR K G x d) us ds
  | _, _, _, .nil, .nil => .nil
  | _, _, _, .cons h r, .cons q t => .cons ⟨_, q, h⟩ (each_of r t)
theorem of_each {K : Fg} {G : Hp} : ∀ {us : List Value} {ds : List D}, EachIs (fun u d => ∃ x, RelV x u ∧ DR K G x d) us ds → ∃ xs, Vals xs us ∧ DRs K G xs ds
  | _, _, .nil => ⟨[], .nil, .nil⟩
  | _, _, .cons ⟨x, h1, h2⟩ r => by
    obtain ⟨xs, h3, h4⟩ := of_each r
    exact ⟨x :: xs, .cons h1 h3, .cons h2 h4⟩
theorem each_reads {h : Heap} : ∀ {us : List Value} {ds : List D} {as : List Addr}, ReadsAll h us ds as → EachIs (fun v d => ∃ as, Reads h v d as) us ds
  | _, _, _, .nil => .nil
  | _, _, _, .cons h r => .cons ⟨_, h⟩ (each_reads r)
theorem lay_all : ∀ {xs : List D}, (∀ x ∈ xs, x.canLay0 = true ∧ x.depth ≤ 40) → PyData.canLayAll0 xs = true ∧ PyData.depthAll xs ≤ 40
  | [], _ => ⟨rfl, Nat.zero_le _⟩
  | x :: r, h => by
    obtain ⟨i1, i2⟩ := lay_all (xs := r) fun y hy => h y (List.mem_cons_of_mem _ hy)
    have := h x List.mem_cons_self
    refine ⟨by simp [PyData.canLayAll0, this.1, i1], ?_⟩
    simp only [PyData.depthAll]
    omega
theorem alike_lay {xs : List D} (h : allAlike xs = true) : PyData.canLayAll0 xs = true ∧ PyData.depthAll xs ≤ 40 := lay_all fun x hx => by
  have := List.all_eq_true.mp h x hx
  simp only [Bool.and_eq_true, decide_eq_true_eq] at this
  exact this.1.2
theorem readsAll_get {h : Heap} : ∀ {us : List Value} {ds : List D} {as : List Addr} {i : Nat} {v : Value}, PyData.canLayAll0 ds = true → ReadsAll h us ds as → us[i]? = some v → ∃ d as', ds[i]? = some d ∧ d.canLay0 = true ∧ Reads h v d as'
  | _, _, _, i, _, _, .nil, e => by simp at e
  | _, _, _, 0, v, c, .cons h1 h2, e => by
    simp only [PyData.canLayAll0, Bool.and_eq_true] at c
    simp at e
    subst e
    exact ⟨_, _, rfl, c.1, h1⟩
  | _, _, _, i + 1, v, c, .cons h1 h2, e => by
    simp only [PyData.canLayAll0, Bool.and_eq_true] at c
    obtain ⟨d, as, h3, h4⟩ := readsAll_get (i := i) c.2 h2 (by simpa using e)
    exact ⟨d, as, by simpa using h3, h4⟩
section
variable {X : Cx}
theorem sort_out {pins : List (Addr × Obj)} {σ : L2.St} {H G : Hp} {s : Shared} {u : Value} {xs : List V} {us : List Value} {ds : List D} {Q : VK} (I : L2.Inv X pins σ H s) (hu : X.A.units + 64 < cLine) (sm : Same G H) (dr : DRs X.K G xs ds) (rv : Vals xs us) (hal : allAlike ds = true) (hz : xs.length ≤ sizeLine) (ha : argsOk "sorted" ⟨[u], []⟩)
    (hcol : ∀ (Q' : List Value → Shared → Prop) (E' : Value → Shared → Prop), (∀ h' tk, s.heap.objs.size ≤ h'.objs.size → (∀ b o, s.heap.get? b = some o → h'.get? b = some o) → Q' us { s with heap := h', toks := tk }) → wpAny (model X.prog X.w) X.A.in1 (collect u) Q' E' s)
    (q : ∀ ys p, DRs X.K G ys (sortD ds) → H p = none → Q (.ref p) (upd H p (.lst ys))) : wpAny (model X.prog X.w) X.A (call (.builtin "sorted") [u]) (EP X pins σ Q) X.xe s := by
  obtain ⟨lay, _⟩ := alike_lay hal
  obtain ⟨as, rd⟩ := Dp.readsAll I ds xs us ((dr.same sm).dp lay) rv
  have dl := dr.length
  refine sorted_gen (R := fun u d => ∃ x, RelV x u ∧ DR X.K G x d) ha hcol (each_of dr rv) (each_reads rd) hal (by omega) (by omega) fun p out h' tk c hp kp hat ev hl => ?_
  obtain ⟨ys, h1, h2⟩ := of_each ev
  have hn : H p = none := I.hok.fresh hp
  have hly : ys.length ≤ sizeLine := by rw [h1.length, hl]; omega
  exact ⟨.ref p, _, I.laid kp hp (show ObjOk X.prog X.w _ h' p (.lst ys) from ⟨hly, out, c, h1, hat⟩), rfl, q ys p h2 hn⟩
theorem cr_sortD (hu : X.A.units + 64 < cLine) : CallR X (.builtin "sorted") (fun vs H Q => ∃ (a : Addr) (xs : List V) (G : Hp) (ds : List D), vs = [V.ref a] ∧ (SqL X.K H a xs ∨ SqT X.K H a xs) ∧ Same G H ∧ DRs X.K G xs ds ∧ allAlike ds = true ∧
    ∀ ys p, DRs X.K G ys (sortD ds) → H p = none → Q (.ref p) (upd H p (.lst ys))) := by
  intro pins s σ H vs us Q I r h
  obtain ⟨a, xs, G, ds, rfl, hs, sm, dr, hal, q⟩ := h
  rw [Vals.ref1 r]
  rcases hs with hs | hs
  · obtain ⟨its, rv, pl, hz⟩ := I.list hs
    exact sort_out I hu sm dr rv hal hz (args_sorted1 _) (fun Q' E' f => collect_two (.inl pl.isList) f (by rw [← rv.length]; exact hz)) q
  · obtain ⟨its, rv, pl, hz⟩ := I.tuple hs
    exact sort_out I hu sm dr rv hal hz (args_sorted1 _) (fun Q' E' f => collect_two (.inr pl) f (by rw [← rv.length]; exact hz)) q
/-! ### the least, the greatest -/
theorem minD_eq (x : D) : ∀ xs, KN.minD x xs = PySem.W.minD x xs := fun xs => by
  induction xs generalizing x with
  | nil => rfl
  | cons y r ih => exact ih _
theorem maxD_eq (x : D) : ∀ xs, KN.maxD x xs = PySem.W.maxD x xs := fun xs => by
  induction xs generalizing x with
  | nil => rfl
  | cons y r ih => exact ih _
theorem alike_all {xs : List D} (h : allAlike xs = true) : AlikeAll xs := by
  have h : ∀ x ∈ xs, ordD x = true ∧ ∀ y ∈ xs, alike x y = true := fun x hx => by
    have := List.all_eq_true.mp h x hx
    simp only [Bool.and_eq_true, List.all_eq_true] at this
    exact ⟨this.1.1, this.2⟩
  exact ⟨fun x hx y hy => (h x hx).2 y hy, fun x hx z => by have := (h x hx).1; rw [z] at this; cases this⟩
mutual
/-- a value reads as one datum (no dicts) -/
theorem reads_uniq {h : Heap} : ∀ {d e : D} {v : Value} {as bs : List Addr}, d.canLay0 = true → Reads h v d as → Reads h v e bs → d = e
  | .none, e, _, _, _, _, r, q => by cases r; cases q; rfl
  | .bool _, e, _, _, _, _, r, q => by cases r; cases q; rfl
  | .int _, e, _, _, _, _, r, q => by cases r; cases q; rfl
  | .str _, e, _, _, _, _, r, q => by cases r; cases q; rfl
  | .list xs, e, _, _, _, c, r, q => by
    cases r with
    | list h1 h2 h3 h4 =>
      cases q with
      | list k1 k2 k3 k4 =>
        rw [h1] at k1; cases k1
        rw [h3] at k3; cases k3
        rw [readsAll_uniq (by simpa [PyData.canLay0] using c) h4 k4]
      | tuple k1 k2 k3 k4 =>
        rw [h1] at k1; cases k1
        rw [h2] at k2; exact absurd (Value.type.inj k2) (by decide)
      | dict k1 k2 k3 k4 =>
        rw [h1] at k1; cases k1
        rw [h2] at k2; exact absurd (Value.type.inj k2) (by decide)
  | .tuple xs, e, _, _, _, c, r, q => by
    cases r with
    | tuple h1 h2 h3 h4 =>
      cases q with
      | tuple k1 k2 k3 k4 =>
        rw [h1] at k1; cases k1
        rw [h3] at k3; cases k3
        rw [readsAll_uniq (by simpa [PyData.canLay0] using c) h4 k4]
      | list k1 k2 k3 k4 =>
        rw [h1] at k1; cases k1
        rw [h2] at k2; exact absurd (Value.type.inj k2) (by decide)
      | dict k1 k2 k3 k4 =>
        rw [h1] at k1; cases k1
        rw [h2] at k2; exact absurd (Value.type.inj k2) (by decide)
  | .dict _, e, _, _, _, c, r, q => by simp [PyData.canLay0] at c
theorem readsAll_uniq {h : Heap} : ∀ {d e : List D} {v : List Value} {as bs : List Addr}, PyData.canLayAll0 d = true → ReadsAll h v d as → ReadsAll h v e bs → d = e
  | [], e, _, _, _, _, r, q => by cases r; cases q; rfl
  | x :: xs, e, _, _, _, c, r, q => by
    simp only [PyData.canLayAll0, Bool.and_eq_true] at c
    cases r with
    | cons h1 h2 =>
      cases q with
      | cons k1 k2 => rw [reads_uniq c.1 h1 k1, readsAll_uniq c.2 h2 k2]
end
theorem pick_out {pins : List (Addr × Obj)} {σ : L2.St} {H G : Hp} {s : Shared} {xs : List V} {us : List Value} {ds : List D} {Q : VK} {m : D} (I : L2.Inv X pins σ H s) (sm : Same G H) (dr : DRs X.K G xs ds) (rv : Vals xs us) (lay : PyData.canLayAll0 ds = true) (rd : ∃ as, ReadsAll s.heap us ds as)
    (q : ∀ v, DR X.K G v m → Q v H) : ∀ (i : Nat) v h' tk bs, us.toArray[i]? = some v → Reads h' v m bs → (∀ b o, s.heap.get? b = some o → h'.get? b = some o) → EP X pins σ Q v { s with heap := h', toks := tk } := by
  intro i v h' tk bs hi hr kp
  obtain ⟨as, rd⟩ := rd
  have hi' : us[i]? = some v := by simpa using hi
  obtain ⟨d, as', hrd⟩ := readsAll_get lay rd hi'
  have e : d = m := reads_uniq hrd.2.1 (PyProof.Rows.Reads.keeps kp hrd.2.2) hr
  subst e
  obtain ⟨x, hx1, hx2⟩ := dr.get hrd.1
  obtain ⟨u', hu1, hu2⟩ := rv.get hx1
  rw [hi'] at hu1
  cases hu1
  exact ⟨x, H, I.kept kp, hu2, q x hx2⟩
theorem cr_minD (hc : X.calm = true) (hu : X.A.units + 64 < cLine) : CallR X (.builtin "min") (fun vs H Q => ∃ (a : Addr) (xs : List V) (G : Hp) (d : D) (ds : List D), vs = [V.ref a] ∧ (SqL X.K H a xs ∨ SqT X.K H a xs) ∧ Same G H ∧ DRs X.K G xs (d :: ds) ∧ allAlike (d :: ds) = true ∧
    ∀ v, DR X.K G v (KN.minD d ds) → Q v H) := by
  intro pins s σ H vs us Q I r h
  obtain ⟨a, xs, G, d, ds, rfl, hs, sm, dr, hal, q⟩ := h
  rw [Vals.ref1 r]
  rw [minD_eq] at q
  obtain ⟨lay, dep⟩ := alike_lay hal
  rcases hs with hs | hs
  · obtain ⟨its, rv, pl, hz⟩ := I.list hs
    obtain ⟨as, rd⟩ := Dp.readsAll I _ xs its ((dr.same sm).dp lay) rv
    exact min_list_data (I.ok.hd hc) pl.isList (by simpa using rd) (alike_all hal) (by omega) (pick_out I sm dr rv lay ⟨as, rd⟩ q)
  · obtain ⟨its, rv, pl, hz⟩ := I.tuple hs
    obtain ⟨as, rd⟩ := Dp.readsAll I _ xs its ((dr.same sm).dp lay) rv
    exact min_tuple_data (I.ok.hd hc) pl (by simpa using rd) (alike_all hal) (by omega) (pick_out I sm dr rv lay ⟨as, rd⟩ q)
theorem cr_maxD (hc : X.calm = true) (hu : X.A.units + 64 < cLine) : CallR X (.builtin "max") (fun vs H Q => ∃ (a : Addr) (xs : List V) (G : Hp) (d : D) (ds : List D), vs = [V.ref a] ∧ (SqL X.K H a xs ∨ SqT X.K H a xs) ∧ Same G H ∧ DRs X.K G xs (d :: ds) ∧ allAlike (d :: ds) = true ∧
    ∀ v, DR X.K G v (KN.maxD d ds) → Q v H) := by
  intro pins s σ H vs us Q I r h
  obtain ⟨a, xs, G, d, ds, rfl, hs, sm, dr, hal, q⟩ := h
  rw [Vals.ref1 r]
  rw [maxD_eq] at q
  obtain ⟨lay, dep⟩ := alike_lay hal
  rcases hs with hs | hs
  · obtain ⟨its, rv, pl, hz⟩ := I.list hs
    obtain ⟨as, rd⟩ := Dp.readsAll I _ xs its ((dr.same sm).dp lay) rv
    exact max_list_data (I.ok.hd hc) pl.isList (by simpa using rd) (alike_all hal) (by omega) (pick_out I sm dr rv lay ⟨as, rd⟩ q)
  · obtain ⟨its, rv, pl, hz⟩ := I.tuple hs
    obtain ⟨as, rd⟩ := Dp.readsAll I _ xs its ((dr.same sm).dp lay) rv
    exact max_tuple_data (I.ok.hd hc) pl (by simpa using rd) (alike_all hal) (by omega) (pick_out I sm dr rv lay ⟨as, rd⟩ q)
end
end KN

set_option maxRecDepth 100000
set_option maxHeartbeats 4000000
namespace KN
open PySem L2 PyProof.Rows
/-! ### sorted, each once: the data -/
theorem nodup_perm {α : Type} : ∀ {l m : List α}, l.Nodup → m.Nodup → (∀ x, x ∈ l ↔ x ∈ m) → l.Perm m
  | [], m, _, _, h => by
    cases m with
    | nil => exact .nil
    | cons y r => exact absurd ((h y).2 List.mem_cons_self) (by simp)
  | x :: r, m, h1, h2, h => by
    obtain ⟨m1, m2, rfl⟩ := List.append_of_mem ((h x).1 List.mem_cons_self)
    have p : (m1 ++ x :: m2).Perm (x :: (m1 ++ m2)) := List.perm_middle
    have n2 := (p.nodup_iff).1 h2
    obtain ⟨a1, a2⟩ := List.nodup_cons.1 h1
    obtain ⟨b1, b2⟩ := List.nodup_cons.1 n2
    refine .trans (.cons x (nodup_perm a2 b2 fun y => ?_)) p.symm
    have e := h y
    rw [p.mem_iff, List.mem_cons, List.mem_cons] at e
    constructor
    · intro hy
      rcases e.1 (.inr hy) with rfl | z
      · exact absurd hy a1
      · exact z
    · intro hy
      rcases e.2 (.inr hy) with rfl | z
      · exact absurd hy b1
      · exact z
theorem eqK_iff {x y : D} (hx : isKey x = true) : eqK x y = true ↔ x = y := by
  cases x with
  | int i => cases y <;> simp [eqK]
  | str i => cases y <;> simp [eqK]
  | _ => cases hx
theorem dedD_mem : ∀ (l : List D), (∀ x ∈ l, isKey x = true) → ∀ x, x ∈ dedD l ↔ x ∈ l
  | [], _, x => Iff.rfl
  | y :: r, hk, x => by
    have hr : ∀ x ∈ r, isKey x = true := fun x hx => hk x (List.mem_cons_of_mem _ hx)
    unfold dedD
    split
    · rename_i h
      obtain ⟨z, hz, e⟩ := List.any_eq_true.1 h
      have e := (eqK_iff (hr z hz)).1 e
      subst e
      rw [dedD_mem r hr x, List.mem_cons]
      exact ⟨.inr, fun h => h.elim (fun e => e ▸ hz) id⟩
    · rw [List.mem_cons, List.mem_cons, dedD_mem r hr x]
theorem dedD_nodup : ∀ l : List D, (∀ x ∈ l, isKey x = true) → (dedD l).Nodup
  | [], _ => .nil
  | y :: r, hk => by
    have hr : ∀ x ∈ r, isKey x = true := fun x hx => hk x (List.mem_cons_of_mem _ hx)
    unfold dedD
    split
    · exact dedD_nodup r hr
    · rename_i h
      refine List.nodup_cons.2 ⟨fun z => h (List.any_eq_true.2 ⟨y, (dedD_mem r hr y).1 z, (eqK_iff (hk y List.mem_cons_self)).2 rfl⟩), dedD_nodup r hr⟩
theorem lt_ii (a b : Int) : PySem.W.dataLt (.int a) (.int b) = decide (a < b) := PySem.W.dataLt_int a b
theorem lt_ss (a b : Str) : PySem.W.dataLt (.str a) (.str b) = decide (a.cps.toList < b.cps.toList) := PySem.W.dataLt_str a b
theorem rising_pw : ∀ (p : Str) (l : List Str), risingS p l = true → (p :: l).Pairwise (fun a b => ¬ b.cps.toList < a.cps.toList)
  | p, [], _ => List.pairwise_singleton _ _
  | p, x :: r, h => by
    have h : (!PySem.Spec.ltCps x.cps.toList p.cps.toList && risingS x r) = true := h
    simp only [ltCps_eq, Bool.and_eq_true, Bool.not_eq_true', decide_eq_false_iff_not] at h
    have ih := rising_pw x r h.2
    refine List.pairwise_cons.mpr ⟨fun z hz => ?_, ih⟩
    rcases List.mem_cons.mp hz with e | e
    · rw [e]; exact h.1
    · exact List.not_lt.mpr (List.le_trans (List.not_lt.mp h.1) (List.not_lt.mp (List.rel_of_pairwise_cons ih e)))
theorem sortedS_pw : ∀ {l : List Str}, sortedS l = true → l.Pairwise (fun a b => ¬ b.cps.toList < a.cps.toList)
  | [], _ => List.Pairwise.nil
  | p :: r, h => rising_pw p r h
theorem map_nodup {α β : Type} {f : α → β} (hf : ∀ a b, f a = f b → a = b) : ∀ {l : List α}, l.Nodup → (l.map f).Nodup
  | [], _ => .nil
  | x :: r, h => by
    obtain ⟨h1, h2⟩ := List.nodup_cons.1 h
    refine List.nodup_cons.2 ⟨fun z => ?_, map_nodup hf h2⟩
    obtain ⟨y, hy, e⟩ := List.mem_map.1 z
    rw [hf _ _ e] at hy
    exact h1 hy
theorem sset_of {α : Type} {f : α → D} (hf : ∀ a b, f a = f b → a = b) (hk : ∀ a, isKey (f a) = true) (hal : ∀ a b, PySem.W.alike (f a) (f b) = true) {ys xs : List α} (h1 : (ys.map f).Pairwise nlt) (h2 : ys.Nodup) (h3 : ∀ x, x ∈ ys ↔ x ∈ xs) :
    ys.map f = sortD (dedD (xs.map f)) := by
  have kx : ∀ x ∈ xs.map f, isKey x = true := fun x hx => by obtain ⟨a, _, rfl⟩ := List.mem_map.1 hx; exact hk a
  refine sortD_uniq (fun a ha b hb => ?_) (nodup_perm (map_nodup hf h2) (dedD_nodup _ kx) fun x => ?_) h1
  · obtain ⟨a', _, rfl⟩ := List.mem_map.1 ((dedD_mem _ kx a).1 ha)
    obtain ⟨b', _, rfl⟩ := List.mem_map.1 ((dedD_mem _ kx b).1 hb)
    exact hal a' b'
  · rw [dedD_mem _ kx]
    constructor
    · intro h
      obtain ⟨a, ha, rfl⟩ := List.mem_map.1 h
      exact List.mem_map.2 ⟨a, (h3 a).1 ha, rfl⟩
    · intro h
      obtain ⟨a, ha, rfl⟩ := List.mem_map.1 h
      exact List.mem_map.2 ⟨a, (h3 a).2 ha, rfl⟩
theorem sset_ints {ys xs : List Int} (h1 : ys.Pairwise (· ≤ ·)) (h2 : ys.Nodup) (h3 : ∀ x, x ∈ ys ↔ x ∈ xs) : ys.map PyData.int = sortD (dedD (xs.map .int)) :=
  sset_of (fun a b e => by cases e; rfl) (fun _ => rfl) (fun _ _ => by simp [PySem.W.alike]) (List.pairwise_map.2 (h1.imp fun {a b} h => by unfold nlt; rw [lt_ii]; exact decide_eq_false (by omega))) h2 h3
theorem sset_strs {ys xs : List Str} (h1 : sortedS ys = true) (h2 : ys.Nodup) (h3 : ∀ x, x ∈ ys ↔ x ∈ xs) : ys.map PyData.str = sortD (dedD (xs.map .str)) :=
  sset_of (fun a b e => by cases e; rfl) (fun _ => rfl) (fun _ _ => by simp [PySem.W.alike]) (List.pairwise_map.2 ((sortedS_pw h1).imp fun {a b} h => by unfold nlt; rw [lt_ss]; exact decide_eq_false h)) h2 h3
theorem intsOf_eq : ∀ {xs : List D} {ns : List Int}, intsOf xs = some ns → xs = ns.map .int
  | [], ns, e => by cases e; rfl
  | x :: r, ns, e => by
    cases x with
    | int i =>
      simp only [intsOf] at e
      split at e
      · rename_i l hl
        cases e
        rw [intsOf_eq hl]; rfl
      · cases e
    | _ => cases e
theorem strsOf_eq : ∀ {xs : List D} {ns : List Str}, strsOf xs = some ns → xs = ns.map .str
  | [], ns, e => by cases e; rfl
  | x :: r, ns, e => by
    cases x with
    | str i =>
      simp only [strsOf] at e
      split at e
      · rename_i l hl
        cases e
        rw [strsOf_eq hl]; rfl
      · cases e
    | _ => cases e
end KN

set_option maxRecDepth 100000
set_option maxHeartbeats 1000000
namespace KN
open PySem L2 PyProof.Rows
/-! ### a dict just made is locked at once -/
def lk (Q : VK) : VK := fun v H => Q v H ∨ ∃ d kvs, v = .ref d ∧ H d = some (.dK kvs) ∧ ∀ od, Q v (upd H d (.frz od (.dK kvs)))
section
variable {X : Cx}
theorem ep_lk {pins : List (Addr × Obj)} {σ : L2.St} {Q : VK} {u : Value} {s : Shared} (h : EP X pins σ (lk Q) u s) : EP X pins σ Q u s := by
  obtain ⟨v, H', I, r, q⟩ := h
  rcases q with q | ⟨d, kvs, rfl, hd, q⟩
  · exact ⟨v, H', I, r, q⟩
  · obtain ⟨od, I'⟩ := I.lock hd (by simp [Mut])
    exact ⟨_, _, I', r, q od⟩
theorem cr_lk {f : Value} {r : List V → Hp → VK → Prop} (h : CallR X f r) : CallR X f (fun xs H Q => r xs H (lk Q)) := fun pins s σ H xs us Q I rs q =>
  thn (h pins s σ H xs us (lk Q) I rs q) fun _ _ e => ep_lk e
theorem pe_lk {e : Expr} {t : TE} (h : PE X e t) : PE X e (fun σ H Q => t σ H (lk Q)) :=
  ⟨fun pins s σ H Q I q => thn (h.run pins s σ H (lk Q) I q) fun _ _ e => ep_lk e⟩
/-! ### pairs to a dict -/
theorem drk_any {K : Fg} {G : Hp} (k : Key) : ∀ {vs : List (Key × V)} {ds : List (D × D)}, DRk K G vs ds → (vs.any fun p => decide (p.1 = k)) = ds.any fun p => eqK p.1 (kD k)
  | _, _, .nil => rfl
  | _, _, .cons h r => by
    rw [List.any_cons, List.any_cons, drk_any k r, eqK_kD]
theorem drk_map {K : Fg} {G : Hp} (k : Key) {v : V} {d : D} (hv : DR K G v d) : ∀ {vs : List (Key × V)} {ds : List (D × D)}, DRk K G vs ds →
    DRk K G (vs.map fun p => if p.1 = k then (p.1, v) else p) (ds.map fun p => if eqK p.1 (kD k) then (p.1, d) else p)
  | _, _, .nil => .nil
  | _, _, .cons (k := j) h r => by
    rw [List.map_cons, List.map_cons]
    simp only [eqK_kD]
    by_cases e : j = k
    · simp only [e, if_true, decide_true]
      exact .cons hv (by simpa only [eqK_kD] using drk_map k hv r)
    · simp only [e, if_false, decide_false, Bool.false_eq_true]
      exact .cons h (by simpa only [eqK_kD] using drk_map k hv r)
theorem drk_app {K : Fg} {G : Hp} : ∀ {vs us : List (Key × V)} {ds es : List (D × D)}, DRk K G vs ds → DRk K G us es → DRk K G (vs ++ us) (ds ++ es)
  | _, _, _, _, .nil, q => q
  | _, _, _, _, .cons h r, q => .cons h (drk_app r q)
theorem putK_dr {K : Fg} {G : Hp} (k : Key) {v : V} {d : D} (hv : DR K G v d) {vs : List (Key × V)} {ds : List (D × D)} (h : DRk K G vs ds) : DRk K G (putK vs k v) (putKD ds (kD k) d) := by
  unfold putK putKD
  rw [drk_any k h]
  split
  · exact drk_map k hv h
  · exact drk_app h (.cons hv .nil)
theorem mergeK_dr {K : Fg} {G : Hp} : ∀ {us : List (Key × V)} {es : List (D × D)} {vs : List (Key × V)} {ds : List (D × D)}, DRk K G us es → DRk K G vs ds → DRk K G (mergeK vs us) (mergeKD ds es)
  | _, _, _, _, .nil, h => h
  | _, _, _, _, .cons (k := k) (v := v) (vs := us) hv r, h => by
    have := mergeK_dr r (putK_dr k hv h)
    exact this
/-- each member a pair -/
theorem pairs_dr {K : Fg} {G : Hp} : ∀ {xs : List V} {ds : List D} {kvs : List (D × D)}, DRs K G xs ds → pairsD ds = some kvs →
    ∃ (ps : List Addr) (ks : List (Key × V)), xs = ps.map V.ref ∧ Paired (fun p kv => PlT G p [kV kv.1, kv.2]) ps ks ∧ DRk K G ks kvs
  | _, _, _, .nil, e => by cases e; exact ⟨[], [], rfl, .nil, .nil⟩
  | _, _, _, .cons (d := d) h r, e => by
    simp only [pairsD] at e
    split at e
    · rename_i p l hp hl
      cases e
      obtain ⟨ps, ks, rfl, h1, h2⟩ := pairs_dr r hl
      unfold pairD at hp
      split at hp
      · rename_i k v
        split at hp
        · rename_i hk
          cases hp
          obtain ⟨j, rfl⟩ := isKey_kD hk
          cases h with
          | @tup a xs _ hs dr =>
            cases dr with
            | cons d1 dr =>
              cases dr with
              | cons d2 dr =>
                cases dr
                rw [V_kD d1] at hs
                exact ⟨a :: ps, (j, _) :: ks, rfl, .cons hs h1, .cons d2 h2⟩
        · cases hp
      · cases hp
    · cases e
theorem sqt_pairs {K : Fg} {G H : Hp} (s : Same G H) : ∀ {ps : List Addr} {ks : List (Key × V)}, Paired (fun p kv => PlT G p [kV kv.1, kv.2]) ps ks → Paired (fun p kv => SqT K H p [kV kv.1, kv.2]) ps ks
  | _, _, .nil => .nil
  | _, _, .cons h r => .cons (h.same s).sq (sqt_pairs s r)
/-- a new dict comes out -/
theorem dict_out {K : Fg} {G H : Hp} {ks : List (Key × V)} {ds : List (D × D)} {Q : VK} (sm : Same G H) (q : ∀ v G' H', Ext none G H G' H' → Same G' H' → Val K none H G' H' .fresh v (.dict ds) → Q v H') (h : DRk K G ks ds) : ∀ p, H p = none → lk Q (.ref p) (upd H p (.dK ks)) := fun p hp => by
  refine .inr ⟨p, ks, rfl, upd_same, fun od => ?_⟩
  rw [upd_upd]
  exact q _ G _ (Ext.fresh hp) (fun b u h => by rw [upd_ne (ne_of_none (sm _ _ h) hp)]; exact sm _ _ h) (.inr ⟨p, .frz od (.dK ks), .dic ds, rfl, rfl, hp, by simp, sm.free hp, upd_same, .dic h⟩)
end
end KN

set_option maxRecDepth 100000
set_option maxHeartbeats 1000000
namespace KN
open PySem L2 PyProof.Rows
section
variable {X : Cx} {pins : List (Addr × Obj)} {σ : L2.St} {H : Hp} {s : Shared}
theorem two_pairs (I : L2.Inv X pins σ H s) : ∀ {ps : List Addr} {kvs : List (Key × V)}, Paired (fun p kv => SqT X.K H p [kV kv.1, kv.2]) ps kvs →
    ∃ (qs : List (Value × Value)) (prs : List (Key × Value)), KV kvs prs ∧ qs.length = ps.length ∧ prs.length = ps.length ∧
      ∀ (j : Nat) (k v : Value), qs[j]? = some (k, v) → ∃ b key, ps[j]? = some b ∧ s.heap.IsTuple b #[k, v] ∧ prs[j]? = some (key, v) ∧ keyIs key k = true
  | _, _, .nil => ⟨[], [], .nil, rfl, rfl, fun j k v e => by simp at e⟩
  | _, _, .cons (a := p) (b := kv) h t => by
    obtain ⟨qs, prs, h1, h2, h3, h4⟩ := two_pairs I t
    obtain ⟨its, rv, pl, _⟩ := I.tuple h
    cases rv with
    | cons ra rv =>
      cases rv with
      | cons rb rv =>
        cases rv
        rename_i u v
        refine ⟨(u, v) :: qs, (kv.1, v) :: prs, .cons ⟨rfl, rb⟩ h1, by simp [h2], by simp [h3], fun j k v' e => ?_⟩
        cases j with
        | zero =>
          simp only [List.getElem?_cons_zero, Option.some.injEq, Prod.mk.injEq] at e
          obtain ⟨rfl, rfl⟩ := e
          exact ⟨p, kv.1, rfl, pl, rfl, kV_is (P := X.prog) (w := X.w) ra⟩
        | succ j =>
          obtain ⟨b, key, g1, g2⟩ := h4 j k v' (by simpa using e)
          exact ⟨b, key, by simpa using g1, g2.1, by simpa using g2.2.1, g2.2.2⟩
end
section
variable {X : Cx}
theorem call_dictT (hcalm : X.calm = true) : CallR X (.type "dict") (fun xs H Q => ∃ (a : Addr) (ps : List Addr) (kvs : List (Key × V)), xs = [.ref a] ∧ PlT H a (ps.map V.ref) ∧ Paired (fun p kv => SqT X.K H p [kV kv.1, kv.2]) ps kvs ∧
    ∀ p, H p = none → Q (.ref p) (upd H p (.dK (mergeK [] kvs)))) := by
  intro pins s σ H xs us Q I r q
  obtain ⟨a, ps, kvs, rfl, ⟨o, ho, hod⟩, hp, q⟩ := q
  rw [Vals.ref1 r]
  obtain ⟨go, hz, its, rv, o', go', hc, n, hd⟩ := I.hok a _ ho
  rw [go] at go'
  cases go'
  have ei := refs_at rv
  subst ei
  rw [List.length_map] at hz
  obtain ⟨qs, prs, rel, l1, l2, hq⟩ := two_pairs I hp
  refine PySem.call_dict_pairs (knd := mixKind X.prog X.w) (kvs := prs) (PySem.PairArg.tuple a (ps.map Value.ref).toArray (fun j => ps.getD j 0) qs) (I.ok.hd hcalm) ⟨⟨o, n, go, hc, hod, hd⟩, by simp [l1], fun j k v e => ?_⟩ ⟨by omega, fun i key v e => ?_⟩ (by omega) fun h' tk hd' kp => ?_
  · obtain ⟨b, key, g1, g2, _⟩ := hq j k v e
    have : ps.getD j 0 = b := by rw [List.getD_eq_getElem?_getD, g1]; rfl
    show _ = some (Value.ref (ps.getD j 0)) ∧ PairAt s.heap (ps.getD j 0) k v
    rw [this]
    exact ⟨by simp [g1], .inl g2⟩
  · obtain ⟨b, k, g1, g2, g3, g4⟩ := hq i key v e
    exact ⟨k, g3, g4⟩
  · have hm : (s.heap.objs.size == sysModules) = false := beq_eq_false_iff_ne.mpr (Nat.ne_of_gt I.big)
    have hlen : (mergeK [] kvs).length ≤ sizeLine := by
      have := length_mergeK kvs []
      rw [List.length_nil, Nat.zero_add, rel.length] at this
      omega
    exact ⟨.ref _, _, I.laid (t' := tk) (o := .dK (mergeK [] kvs)) (fun b o e => kp b o (by simp) e) (Nat.le_refl _) ⟨hlen, hm, merged [] prs, KV.merge rel .nil, hd'⟩, rfl, q _ (I.hok.fresh (Nat.le_refl _))⟩
end
end KN

set_option maxRecDepth 100000
set_option maxHeartbeats 2000000
namespace KN
open PySem L2 PyProof.Rows
section
variable {X : Cx}
/-- the signs of a text -/
def signsV (z : Str) : List V := z.cps.toList.map fun c => V.str ⟨#[c]⟩
theorem vals_get : ∀ {vs : List V} {us : List Value}, us.length = vs.length → (∀ (j : Nat) u, us[j]? = some u → ∃ v, vs[j]? = some v ∧ RelV v u) → Vals vs us
  | [], [], _, _ => .nil
  | [], _ :: _, h, _ => by cases h
  | _ :: _, [], h, _ => by cases h
  | v :: vs, u :: us, h, f => by
    obtain ⟨v', e, r⟩ := f 0 u rfl
    cases e
    exact .cons r (vals_get (by simpa using h) fun j u' e => f (j + 1) u' e)
theorem signs_vals {z : Str} {acc : Array Value} (h : ItemsOf (SignAt z) acc z.cps.size) : Vals (signsV z) acc.toList := by
  refine vals_get (by unfold signsV; rw [List.length_map, Array.length_toList, Array.length_toList]; exact h.1) fun j u e => ?_
  rw [Array.getElem?_toList] at e
  obtain ⟨c, t, h1, rfl⟩ := h.2 j u e
  refine ⟨.str ⟨#[c]⟩, ?_, ⟨t, rfl⟩⟩
  unfold signsV
  rw [List.getElem?_map, Array.getElem?_toList, h1]
  rfl
theorem signs_len {z : Str} : (signsV z).length = z.cps.size := by unfold signsV; rw [List.length_map, Array.length_toList]
theorem call_tupleS (hc : X.calm = true) : CallR X (.type "tuple") (fun xs H Q => ∃ z, xs = [V.str z] ∧ z.length ≤ sizeLine ∧ ∀ o l, o.dict = none → H l = none → Q (.ref l) (upd H l (.frz o (.tup (signsV z))))) := by
  intro pins s σ H xs us Q I r h
  obtain ⟨z, rfl, hz, q⟩ := h
  obtain ⟨u, rfl, ru⟩ := r.one
  obtain ⟨t, rfl⟩ := ru
  refine call_tuple_str (I.ok.hd hc) z t (fun h' tk acc hk ha => ?_) hz
  have J : L2.Inv X pins σ H { s with heap := h', toks := tk } := I.kept (t' := tk) hk
  have rv := signs_vals ha
  have := Inv.ltup (t' := tk) J rv (by rw [signs_len]; exact hz)
  exact ⟨.ref _, _, by rw [show (tupO acc.toList) = { cls := .type "tuple", data := .seq acc } by unfold tupO; rw [Array.toArray_toList]] at this; exact this, rfl, q _ _ rfl (J.hok.fresh (Nat.le_refl _))⟩
theorem call_listS (hc : X.calm = true) : CallR X (.type "list") (fun xs H Q => ∃ z, xs = [V.str z] ∧ z.length ≤ sizeLine ∧ ∀ l, H l = none → Q (.ref l) (upd H l (.lst (signsV z)))) := by
  intro pins s σ H xs us Q I r h
  obtain ⟨z, rfl, hz, q⟩ := h
  obtain ⟨u, rfl, ru⟩ := r.one
  obtain ⟨t, rfl⟩ := ru
  refine call_list_str (I.ok.hd hc) z t (fun h' tk acc c' hk hD ha => ?_) hz
  exact ⟨.ref s.heap.objs.size, upd H s.heap.objs.size (.lst (signsV z)), I.laid (t' := tk) hk (Nat.le_refl _)
    (show ObjOk X.prog X.w _ _ _ (.lst (signsV z)) from ⟨by rw [signs_len]; exact hz, acc.toList, c', signs_vals ha, by rw [Array.toArray_toList]; exact hD⟩), rfl, q _ (I.hok.fresh (Nat.le_refl _))⟩
theorem drs_signs {K : Fg} {G : Hp} (z : Str) : DRs K G (signsV z) (z.cps.toList.map fun c => PyData.str ⟨#[c]⟩) := by
  unfold signsV
  generalize z.cps.toList = l
  induction l with
  | nil => exact .nil
  | cons c r ih => exact .cons (.str _) ih
/-! sorted(d): its keys -/
theorem keys_strs {K : Fg} {G : Hp} : ∀ {kvs : List (Key × V)} {ds : List (D × D)} {ns : List Str}, DRk K G kvs ds → ds.map (·.1) = ns.map PyData.str → kvs.map (·.1) = ns.map Sum.inr
  | _, _, ns, .nil, e => by
    cases ns with
    | nil => rfl
    | cons _ _ => cases e
  | _, _, ns, .cons (k := k) h r, e => by
    cases ns with
    | nil => cases e
    | cons n ns =>
      simp only [List.map_cons, List.cons.injEq] at e ⊢
      refine ⟨?_, keys_strs r e.2⟩
      cases k with
      | inl i => cases e.1
      | inr i => cases e.1; rfl
theorem keys_ints {K : Fg} {G : Hp} : ∀ {kvs : List (Key × V)} {ds : List (D × D)} {ns : List Int}, DRk K G kvs ds → ds.map (·.1) = ns.map PyData.int → kvs.map (·.1) = ns.map Sum.inl
  | _, _, ns, .nil, e => by
    cases ns with
    | nil => rfl
    | cons _ _ => cases e
  | _, _, ns, .cons (k := k) h r, e => by
    cases ns with
    | nil => cases e
    | cons n ns =>
      simp only [List.map_cons, List.cons.injEq] at e ⊢
      refine ⟨?_, keys_ints r e.2⟩
      cases k with
      | inl i => cases e.1; rfl
      | inr i => cases e.1
theorem drs_strs {K : Fg} {G : Hp} : ∀ ns : List Str, DRs K G (ns.map V.str) (ns.map PyData.str)
  | [] => .nil
  | _ :: r => .cons (.str _) (drs_strs r)
theorem drs_ints {K : Fg} {G : Hp} : ∀ ns : List Int, DRs K G (ns.map V.int) (ns.map PyData.int)
  | [] => .nil
  | _ :: r => .cons (.int _) (drs_ints r)
theorem cr_sortDk (hc : X.calm = true) : CallR X (.builtin "sorted") (fun vs H Q => ∃ (a : Addr) (kvs : List (Key × V)) (G : Hp) (ds : List (D × D)), vs = [V.ref a] ∧ Rd H a (.dK kvs) ∧ DRk X.K G kvs ds ∧ keysOk (ds.map (·.1)) = true ∧
    ∀ ys p, DRs X.K G ys (sortD (ds.map (·.1))) → H p = none → Q (.ref p) (upd H p (.lst ys))) := by
  intro pins s σ H vs us Q I r h
  obtain ⟨a, kvs, G, ds, rfl, hd, dr, hk, q⟩ := h
  unfold keysOk at hk
  simp only [Bool.and_eq_true, decide_eq_true_eq, Bool.or_eq_true] at hk
  obtain ⟨h64, hk⟩ := hk
  rw [List.length_map] at h64
  rcases hk with hk | hk
  · obtain ⟨ns, hn⟩ := Option.isSome_iff_exists.1 hk
    have e := intsOf_eq hn
    refine call_sortedDI hc pins s σ H _ us Q I r ⟨a, kvs, ns, rfl, hd, keys_ints dr e, by have := congrArg List.length e; simp at this; omega, fun ys p pm pw hp => q _ p ?_ hp⟩
    rw [e, ← sortD_uniq (l := ns.map PyData.int) (m := ys.map PyData.int) (fun a ha b hb => ?_) (pm.map _) (List.pairwise_map.2 (pw.imp fun {a b} h => by unfold nlt; rw [lt_ii]; exact decide_eq_false (by omega)))]
    · exact drs_ints ys
    · obtain ⟨a', _, rfl⟩ := List.mem_map.1 ha
      obtain ⟨b', _, rfl⟩ := List.mem_map.1 hb
      simp [PySem.W.alike]
  · obtain ⟨ns, hn⟩ := Option.isSome_iff_exists.1 hk
    have e := strsOf_eq hn
    refine call_sortedD hc pins s σ H _ us Q I r ⟨a, kvs, ns, rfl, hd, keys_strs dr e, by have := congrArg List.length e; simp at this; omega, fun ys p pm pw hp => q _ p ?_ hp⟩
    rw [e, ← sortD_uniq (l := ns.map PyData.str) (m := ys.map PyData.str) (fun a ha b hb => ?_) (pm.map _) (List.pairwise_map.2 ((sortedS_pw pw).imp fun {a b} h => by unfold nlt; rw [lt_ss]; exact decide_eq_false h))]
    · exact drs_strs ys
    · obtain ⟨a', _, rfl⟩ := List.mem_map.1 ha
      obtain ⟨b', _, rfl⟩ := List.mem_map.1 hb
      simp [PySem.W.alike]
end
end KN

set_option maxRecDepth 100000
set_option maxHeartbeats 1000000
namespace KN
open PySem L2 PyProof.Rows
section
variable {X : Cx}
theorem fresh_out {K : Fg} {G H : Hp} {xs : List V} {ds : List D} {Q : VK} (sm : Same G H) (q : ∀ v G' H', Ext none G H G' H' → Same G' H' → Val K none H G' H' .fresh v (.list ds) → Q v H') (h : DRs K G xs ds) : ∀ p, H p = none → Q (.ref p) (upd H p (.lst xs)) := fun p hp =>
  q _ G _ (Ext.fresh hp) (fun b u h => by rw [upd_ne (ne_of_none (sm _ _ h) hp)]; exact sm _ _ h) (Val.new (o := .tup []) sm hp h)
theorem tup_out {K : Fg} {G H : Hp} {xs : List V} {ds : List D} {k : Kd} {Q : VK} (sm : Same G H) (q : ∀ v G' H', Ext none G H G' H' → Same G' H' → Val K none H G' H' k v (.tuple ds) → Q v H') (h : DRs K G xs ds) (hk : k ≠ .peek := by decide) : ∀ (o : Obj) p, o.dict = none → H p = none → Q (.ref p) (upd H p (.frz o (.tup xs))) := fun o p ho hp => by
  refine q _ _ _ (Ext.laid (ta := none) (o := .frz o (.tup xs)) sm hp) (same_laid sm hp) ?_
  cases k with
  | dat => exact laidT sm hp ho h
  | fresh => exact .inl ⟨laidT sm hp ho h, rfl⟩
  | peek => exact absurd rfl hk
theorem alike_still {xs : List D} {m : D} (h : xs.all still = true) (hm : m ∈ xs) : still m = true := List.all_eq_true.mp h m hm
theorem pick_end {K : Fg} {G H : Hp} {v : V} {d : D} {Q : VK} (sm : Same G H) (q : ∀ v G' H', Ext none G H G' H' → Same G' H' → Val K none H G' H' .fresh v d → Q v H') (h : DR K G v d) (n : still d = true) : Q v H := q v G H Ext.refl sm (.inl ⟨h, n⟩)
theorem minD_mem : ∀ (x : D) (xs : List D), minD x xs ∈ x :: xs
  | x, [] => List.mem_cons_self
  | x, y :: r => by
    have := minD_mem (if PySem.W.dataLt y x then y else x) r
    rcases List.mem_cons.mp this with h | h
    · show minD _ r ∈ _
      rw [h]
      split
      · exact List.mem_cons_of_mem _ List.mem_cons_self
      · exact List.mem_cons_self
    · exact List.mem_cons_of_mem _ (List.mem_cons_of_mem _ h)
theorem maxD_mem : ∀ (x : D) (xs : List D), maxD x xs ∈ x :: xs
  | x, [] => List.mem_cons_self
  | x, y :: r => by
    have := maxD_mem (if PySem.W.dataLt x y then y else x) r
    rcases List.mem_cons.mp this with h | h
    · show maxD _ r ∈ _
      rw [h]
      split
      · exact List.mem_cons_of_mem _ List.mem_cons_self
      · exact List.mem_cons_self
    · exact List.mem_cons_of_mem _ (List.mem_cons_of_mem _ h)
theorem drk_keys {K : Fg} {G : Hp} : ∀ {vs : List (Key × V)} {ds : List (D × D)}, DRk K G vs ds → DRs K G (vs.map fun kv => kV kv.1) (ds.map (·.1))
  | _, _, .nil => .nil
  | _, _, .cons h r => .cons (kV_DR _) (drk_keys r)
theorem drk_vals {K : Fg} {G : Hp} : ∀ {vs : List (Key × V)} {ds : List (D × D)}, DRk K G vs ds → DRs K G (vs.map fun kv => kv.2) (ds.map (·.2))
  | _, _, .nil => .nil
  | _, _, .cons h r => .cons h (drk_vals r)
theorem cr_bi (f : Bi) (hc : X.calm = true) (hu : X.A.units + 64 < cLine) : CallR X (biVal f) (rVs X.K (biD f) .fresh) := by
  intro pins s σ H xs us Q I r h
  obtain ⟨G, as, d, sm, va, e, q⟩ := h
  cases va with
  | nil => cases f <;> cases e
  | cons v1 vr =>
    cases vr with
    | nil =>
      rename_i x a
      cases f with
      | len =>
        cases a with
        | list ys =>
          cases e
          obtain ⟨p, zs, rfl, rd, ds⟩ := v1.lst sm
          refine call_len_seq pins s σ H _ us Q I r ⟨p, zs, rfl, .inl rd, ?_⟩
          rw [ds.length]
          exact scal_out sm q (.int _) rfl
        | tuple ys =>
          cases e
          obtain ⟨p, zs, rfl, rd, ds⟩ := v1.tup sm
          refine call_len_seq pins s σ H _ us Q I r ⟨p, zs, rfl, .inr rd, ?_⟩
          rw [ds.length]
          exact scal_out sm q (.int _) rfl
        | str z =>
          simp only [biD] at e
          split at e
          · rename_i hz
            cases e
            exact call_len_str pins s σ H _ us Q I r ⟨z, by rw [v1.str], lineOk_le hz, scal_out sm q (.int _) rfl⟩
          · cases e
        | dict ys =>
          cases e
          obtain ⟨p, od, kvs, rfl, hp, dr⟩ := v1.dic sm
          rw [Vals.ref1 r]
          refine d_len I (.inr ⟨od, hp⟩) fun t s' I' => ⟨.int kvs.length, H, I', ⟨t, rfl⟩, ?_⟩
          rw [dr.length]
          exact scal_out sm q (.int _) rfl
        | _ => cases e
      | list =>
        cases a with
        | list ys =>
          cases e
          obtain ⟨p, zs, rfl, rd, ds⟩ := v1.lst sm
          exact call_list_of pins s σ H _ us Q I r ⟨p, zs, rfl, .inl rd, fresh_out sm q ds⟩
        | tuple ys =>
          cases e
          obtain ⟨p, zs, rfl, rd, ds⟩ := v1.tup sm
          exact call_list_of pins s σ H _ us Q I r ⟨p, zs, rfl, .inr rd, fresh_out sm q ds⟩
        | dict ys =>
          cases e
          obtain ⟨p, od, kvs, rfl, hp, dr⟩ := v1.dic sm
          exact call_listD hc pins s σ H _ us Q I r ⟨p, kvs, rfl, .inr ⟨od, hp⟩, fresh_out sm q (drk_keys dr)⟩
        | str z =>
          simp only [biD] at e
          split at e
          · rename_i hz
            cases e
            exact call_listS hc pins s σ H _ us Q I r ⟨z, by rw [v1.str], lineOk_le hz, fresh_out sm q (drs_signs z)⟩
          · cases e
        | _ => cases e
      | tuple =>
        cases a with
        | list ys =>
          cases e
          obtain ⟨p, zs, rfl, rd, ds⟩ := v1.lst sm
          exact call_tupP pins s σ H _ us Q I r ⟨p, zs, rfl, rd, tup_out sm q ds⟩
        | tuple ys =>
          cases e
          have w1 : DR X.K G x (.tuple ys) := v1.dr rfl
          obtain ⟨p, zs, rfl, rd, ds⟩ := v1.tup sm
          exact call_tuple_of pins s σ H _ us Q I r ⟨p, zs, rfl, .inr ⟨rd, scal_out sm q w1 rfl⟩⟩
        | str z =>
          simp only [biD] at e
          split at e
          · rename_i hz
            cases e
            exact call_tupleS hc pins s σ H _ us Q I r ⟨z, by rw [v1.str], lineOk_le hz, tup_out sm q (drs_signs z)⟩
          · cases e
        | _ => cases e
      | int =>
        cases a with
        | int i => cases e; exact call_int1 pins s σ H _ us Q I r (.inl ⟨i, by rw [v1.int], scal_out sm q (.int _) rfl⟩)
        | bool i => cases e; exact call_int1 pins s σ H _ us Q I r (.inr ⟨i, by rw [v1.bl], scal_out sm q (.int _) rfl⟩)
        | _ => cases e
      | abs =>
        cases a with
        | int i => cases e; exact call_abs pins s σ H _ us Q I r ⟨i, by rw [v1.int], scal_out sm q (.int _) rfl⟩
        | _ => cases e
      | sum =>
        cases a with
        | list ys =>
          simp only [biD] at e
          split at e
          · rename_i ns hn
            cases e
            obtain ⟨p, zs, rfl, rd, ds⟩ := v1.lst sm
            exact cr_sum hc pins s σ H _ us Q I r ⟨p, ns, rfl, (by rw [← ds.ints hn]; exact rd), scal_out sm q (.int _) rfl⟩
          · cases e
        | tuple ys =>
          simp only [biD] at e
          split at e
          · rename_i ns hn
            cases e
            obtain ⟨p, zs, rfl, rd, ds⟩ := v1.tup sm
            exact cr_sumT hc pins s σ H _ us Q I r ⟨p, ns, rfl, by rw [← ds.ints hn]; exact rd, scal_out sm q (.int _) rfl⟩
          · cases e
        | _ => cases e
      | max =>
        cases a with
        | list ys =>
          cases ys with
          | nil => cases e
          | cons y0 ys =>
            simp only [biD] at e
            split at e
            · rename_i hz
              simp only [Bool.and_eq_true] at hz
              cases e
              obtain ⟨p, zs, rfl, rd, ds⟩ := v1.lst sm
              exact cr_maxD hc hu pins s σ H _ us Q I r ⟨p, zs, G, y0, ys, rfl, .inl rd, sm, ds, hz.1, fun v hv => pick_end sm q hv (alike_still hz.2 (maxD_mem y0 ys))⟩
            · cases e
        | tuple ys =>
          cases ys with
          | nil => cases e
          | cons y0 ys =>
            simp only [biD] at e
            split at e
            · rename_i hz
              simp only [Bool.and_eq_true] at hz
              cases e
              obtain ⟨p, zs, rfl, rd, ds⟩ := v1.tup sm
              exact cr_maxD hc hu pins s σ H _ us Q I r ⟨p, zs, G, y0, ys, rfl, .inr rd, sm, ds, hz.1, fun v hv => pick_end sm q hv (alike_still hz.2 (maxD_mem y0 ys))⟩
            · cases e
        | _ => cases e
      | min =>
        cases a with
        | list ys =>
          cases ys with
          | nil => cases e
          | cons y0 ys =>
            simp only [biD] at e
            split at e
            · rename_i hz
              simp only [Bool.and_eq_true] at hz
              cases e
              obtain ⟨p, zs, rfl, rd, ds⟩ := v1.lst sm
              exact cr_minD hc hu pins s σ H _ us Q I r ⟨p, zs, G, y0, ys, rfl, .inl rd, sm, ds, hz.1, fun v hv => pick_end sm q hv (alike_still hz.2 (minD_mem y0 ys))⟩
            · cases e
        | tuple ys =>
          cases ys with
          | nil => cases e
          | cons y0 ys =>
            simp only [biD] at e
            split at e
            · rename_i hz
              simp only [Bool.and_eq_true] at hz
              cases e
              obtain ⟨p, zs, rfl, rd, ds⟩ := v1.tup sm
              exact cr_minD hc hu pins s σ H _ us Q I r ⟨p, zs, G, y0, ys, rfl, .inr rd, sm, ds, hz.1, fun v hv => pick_end sm q hv (alike_still hz.2 (minD_mem y0 ys))⟩
            · cases e
        | _ => cases e
      | all =>
        cases a with
        | list ys =>
          simp only [biD] at e
          split at e
          · rename_i ns hn
            cases e
            obtain ⟨p, zs, rfl, rd, ds⟩ := v1.lst sm
            exact cr_all hc pins s σ H _ us Q I r ⟨p, ns, rfl, (by rw [← ds.bls hn]; exact rd), scal_out sm q (.bl _) rfl⟩
          · cases e
        | _ => cases e
      | any =>
        cases a with
        | list ys =>
          simp only [biD] at e
          split at e
          · rename_i ns hn
            cases e
            obtain ⟨p, zs, rfl, rd, ds⟩ := v1.lst sm
            exact cr_any hc pins s σ H _ us Q I r ⟨p, ns, rfl, (by rw [← ds.bls hn]; exact rd), scal_out sm q (.bl _) rfl⟩
          · cases e
        | _ => cases e
      | sorted =>
        have key : ∀ (p : Addr) (zs : List V) (ys : List D), (SqL X.K H p zs ∨ SqT X.K H p zs) → DRs X.K G zs ys → sortL ys = some d → x = .ref p → wpAny (model X.prog X.w) X.A (call (.builtin "sorted") us) (EP X pins σ Q) X.xe s := fun p zs ys rd ds e hx => by
          subst hx
          unfold sortL at e
          split at e
          · rename_i hz
            simp only [Bool.and_eq_true] at hz
            cases e
            exact cr_sortD hu pins s σ H _ us Q I r ⟨p, zs, G, ys, rfl, rd, sm, ds, hz.1, fun zs' p' h1 h2 => fresh_out sm q h1 p' h2⟩
          · cases e
        cases a with
        | list ys =>
          obtain ⟨p, zs, hx, rd, ds⟩ := v1.lst sm
          exact key p zs ys (.inl rd) ds e hx
        | tuple ys =>
          obtain ⟨p, zs, hx, rd, ds⟩ := v1.tup sm
          exact key p zs ys (.inr rd) ds e hx
        | dict ys =>
          simp only [biD] at e
          split at e
          · rename_i hk
            cases e
            obtain ⟨p, od, kvs, rfl, hp, dr⟩ := v1.dic sm
            exact cr_sortDk hc pins s σ H _ us Q I r ⟨p, kvs, G, ys, rfl, .inr ⟨od, hp⟩, dr, hk, fun zs l d2 hl => fresh_out sm q d2 l hl⟩
          · cases e
        | _ => cases e
      | dict =>
        cases a with
        | list ys =>
          simp only [biD] at e
          split at e
          · rename_i kvs hk
            cases e
            obtain ⟨p, zs, rfl, rd, ds⟩ := v1.lst sm
            obtain ⟨ps, ks, rfl, h1, h2⟩ := pairs_dr ds hk
            exact cr_lk (call_dictP hc) pins s σ H _ us Q I r ⟨p, ps, ks, rfl, rd, sqt_pairs sm h1, dict_out sm q (mergeK_dr h2 .nil)⟩
          · cases e
        | tuple ys =>
          simp only [biD] at e
          split at e
          · rename_i kvs hk
            cases e
            obtain ⟨p, zs, rfl, rd, ds⟩ := v1.tupP sm
            obtain ⟨ps, ks, rfl, h1, h2⟩ := pairs_dr ds hk
            exact cr_lk (call_dictT hc) pins s σ H _ us Q I r ⟨p, ps, ks, rfl, rd, sqt_pairs sm h1, dict_out sm q (mergeK_dr h2 .nil)⟩
          · cases e
        | _ => cases e
    | cons v2 vr2 =>
      rename_i x a x2 xs2 a2 as2
      cases vr2 with
      | nil =>
        cases f with
        | max =>
          cases a with
          | int i =>
            cases a2 with
            | int j => cases e; exact call_max2 hc pins s σ H _ us Q I r ⟨i, j, by rw [v1.int, v2.int], scal_out sm q (.int _) rfl⟩
            | _ => cases e
          | _ => first | (simp [biD] at e; done) | cases e
        | min =>
          cases a with
          | int i =>
            cases a2 with
            | int j => cases e; exact call_min2 hc pins s σ H _ us Q I r ⟨i, j, by rw [v1.int, v2.int], scal_out sm q (.int _) rfl⟩
            | _ => cases e
          | _ => first | (simp [biD] at e; done) | cases e
        | _ => cases a <;> first | (simp [biD] at e; done) | cases e
      | cons _ _ => cases f <;> simp [biD] at e

/-! ### isinstance -/
theorem ty_of {K : Fg} {H : Hp} {v : V} {d : D} (h : DR K H v d) : TyX K H v (.type (tyD d)) := by
  cases h with
  | non => exact .base .non
  | bl b => exact .base (.bl b)
  | int i => exact .base (.int i)
  | str x => exact .base (.str x)
  | lst r _ =>
    rcases r with (r | ⟨o, r⟩) | ⟨o, its, n, h1, h2, _⟩
    · exact .base (.lst r)
    · exact .base (.frz r)
    · exact .kList h1 h2
  | tup r _ =>
    obtain ⟨o, r, _⟩ := r
    exact .fTuple r
  | dic r _ => exact .fDict r
theorem kit_any {K : Fg} {t : String} : ∀ {ts : List String} {b : Bool}, kitAnyB t ts = some b → PySem.W.kitAny K (.type t) (ts.map Value.type) = some b
  | [], _, h => by cases h; exact kitAny_nil
  | c :: cs, b, h => by
    unfold kitAnyB at h
    split at h
    · rename_i e
      cases h
      exact kitAny_cons (kit_ty e) (fun z => nomatch z) fun _ => rfl
    · rename_i e
      exact kitAny_cons (kit_ty e) (fun _ => kit_any h) fun z => nomatch z
    · cases h
theorem clsV_all : ∀ ts : List String, Paired ClsV (ts.map V.ty) (ts.map Value.type)
  | [] => .nil
  | t :: r => .cons (.ty t) (clsV_all r)

/-! ### items, slices -/
theorem ix_D : IxR X (rV2 X.K getD .dat) := by
  intro ve se pins s σ H x y v u Q I rx ry h hs
  obtain ⟨G, a, b, d, sm, va, vb, e, q⟩ := h
  cases a with
  | list xs =>
    cases b with
    | int i =>
      obtain ⟨p, ys, rfl, rd, ds⟩ := va.lst sm
      obtain ⟨w, h1, h2⟩ := ds.atI e
      exact ix_list ve se pins s σ H _ y v u Q I rx ry ⟨p, ys, i, w, rfl, vb.int, rd, h1, q _ G H Ext.refl sm h2⟩ hs
    | _ => cases e
  | tuple xs =>
    cases b with
    | int i =>
      obtain ⟨p, ys, rfl, rd, ds⟩ := va.tup sm
      obtain ⟨w, h1, h2⟩ := ds.atI e
      exact ix_tup ve se pins s σ H _ y v u Q I rx ry ⟨p, ys, i, w, rfl, vb.int, rd, h1, q _ G H Ext.refl sm h2⟩ hs
    | _ => cases e
  | str z =>
    cases b with
    | int i =>
      simp only [getD] at e
      split at e
      · rename_i hz
        split at e
        · rename_i c hc
          cases e
          exact ix_str ve se pins s σ H x y v u Q I rx ry ⟨z, i, c, va.str, vb.int, lineOk_le hz, hc, q _ G H Ext.refl sm (.str _)⟩ hs
        · cases e
      · cases e
    | _ => cases e
  | dict kvs =>
    have e : (if isKey b then lookK kvs b else none) = some d := by cases b <;> exact e
    split at e
    · rename_i hk
      obtain ⟨k, rfl⟩ := isKey_kD hk
      obtain ⟨p, od, ks, rfl, hp, dr⟩ := va.dic sm
      have hx : y = kV k := V_kD (vb.dr (still_kD k))
      subst hx
      cases rx
      obtain ⟨z, hd, vs, rel, dd⟩ := dk_rd I.hok (.inr ⟨od, hp⟩)
      rcases dr.look k with ⟨h1, h2⟩ | ⟨w, d', h1, h2, h3⟩
      · rw [h2] at e; cases e
      · rw [h2] at e
        cases e
        obtain ⟨w', hw, rw'⟩ := RelO.some_of (v := w) (o := valueAt vs k) (by rw [← h1]; exact rel.val k)
        exact subscriptTail_builtinR (x := w') dd.typeIs PySem.F.slot_dict_getitem.lookup (wpAny_getItem_of (kV_is ry) dd.mapOf hw ⟨rfl, ⟨w, H, I.tok _, rw', q _ G H Ext.refl sm h3⟩⟩) hs
    · cases e
  | _ => cases b <;> cases e
def rSlD (K : Fg) : V → Option Int → Option Int → Hp → VK → Prop := fun x lo hi H Q => rV1 K (fun a => sliceD a lo hi) .fresh x H Q
theorem sl_D : SlR X (rSlD X.K) := by
  intro pins s σ H x v vl vu lo hi sl Q I rx hs pl pu h
  obtain ⟨G, a, d, sm, va, e, q⟩ := h
  cases a with
  | list xs =>
    cases e
    obtain ⟨p, ys, rfl, rd, ds⟩ := va.lst sm
    exact sl_list pins s σ H _ v vl vu lo hi sl Q I rx hs pl pu ⟨p, ys, rfl, rd, fresh_out sm q (ds.cut lo hi)⟩
  | tuple xs =>
    cases e
    have w1 : DR X.K G x (.tuple xs) := va.dr rfl
    obtain ⟨p, ys, rfl, rd, ds⟩ := va.tup sm
    refine sl_tupP pins s σ H _ v vl vu lo hi sl Q I rx hs pl pu ⟨p, ys, rfl, rd, fun z => ?_, fun _ => tup_out sm q (ds.cut lo hi)⟩
    have e : cutL xs lo hi = xs := by
      unfold cutL
      rw [← ds.length, z.1, z.2, ds.length, List.drop_zero, Nat.sub_zero, List.take_length]
    rw [e] at q
    exact scal_out sm q w1 rfl
  | str z =>
    simp only [sliceD] at e
    split at e
    · rename_i hz
      cases e
      exact sl_str pins s σ H x v vl vu lo hi sl Q I rx hs pl pu ⟨z, va.str, lineOk_le hz, scal_out sm q (.str _) rfl⟩
    · cases e
  | _ => cases e
end
end KN

set_option maxRecDepth 100000
set_option maxHeartbeats 1000000
namespace PySem
/-- enumerate(v) of one argument, v a list, a tuple, a text -/
theorem meets_enum1 {v : Value} {o : Obj} {H : Heap → Prop} (B : Begins v o H) :
    Meets (Builtin.«enumerate.__new__» ⟨[.type "enumerate", v], []⟩) (fun _ R s => H s.heap ∧
      R (.ok (.ret (.ref (s.heap.push o).objs.size))) { s with heap := (s.heap.push o).push { cls := .type "enumerate", data := .fields #[.none, .bool false, .ref s.heap.objs.size, rawInt 0, .none, .none] } }) :=
  .of_wp fun prog w A R s h => by
    obtain ⟨hp, g, d, tk, os⟩ := s; obtain ⟨h1, h⟩ := h
    have hsub := sub_enumerate
    have q1 : ∀ {A' : Around} {E : Value → Shared → Prop} {Q : Value → Shared → Prop}, Q (.ref hp.objs.size) ⟨hp.push o, g, d, tk, os⟩ → wpAny (model prog w) A' (pyIter v) Q E ⟨hp, g, d, tk, os⟩ :=
      fun q => B.iter prog w _ _ ⟨hp, g, d, tk, os⟩ _ h1 q
    wp_walk using q1
    refine wpAny_stack_any fun st => wpAny_pure ?_
    split
    · rename_i c _ _ _ _ _
      cases (c == Value.type "enumerate")
      · wp_walk using q1
        exact ⟨_, rfl, h⟩
      · wp_walk using q1
        exact ⟨_, rfl, h⟩
    · wp_walk using q1
      exact ⟨_, rfl, h⟩
theorem enum1_begins {prog : Program} {w : World} {A : Around} {E : Value → Shared → Prop} {s : Shared} {v : Value} {o : Obj} {H : Heap → Prop} {Q : Value → Shared → Prop} (B : Begins v o H) (h1 : H s.heap)
    (h : ∀ h', IsEnum h' (s.heap.objs.size + 1) s.heap.objs.size 0 .none → h'.get? s.heap.objs.size = some o → h'.objs.size = s.heap.objs.size + 2 →
      (∀ b o, s.heap.get? b = some o → h'.get? b = some o) → Q (.ref (s.heap.objs.size + 1)) { s with heap := h' }) :
    wpAny (model prog w) A (call (.type "enumerate") [v]) Q E s := by
  refine callType_new F.called_enumerate (by decide) (F.typeCall_enumerate_1 _) (F.newCall_enumerate_1 _) (fun obj => F.args_object_init_2 obj _) F.entry_enumerate_new
    (meets_enum1 B) ⟨h1, ?_⟩
  have hz : (s.heap.push o).objs.size = s.heap.objs.size + 1 := Heap.size_push ..
  show _ ∧ _
  rw [hz]
  have he : IsEnum ((s.heap.push o).push { cls := .type "enumerate", data := .fields #[.none, .bool false, .ref s.heap.objs.size, rawInt 0, .none, .none] }) (s.heap.objs.size + 1) s.heap.objs.size 0 .none := by
    have := Heap.get?_push_size (s.heap.push o) (o := { cls := .type "enumerate", data := .fields #[.none, .bool false, .ref s.heap.objs.size, rawInt 0, .none, .none] }) rfl
    rw [hz] at this; exact this
  refine ⟨⟨_, he, rfl⟩, h _ he (Heap.get?_push_of_some _ (Heap.get?_push_size _ B.free)) (by rw [Heap.size_push, hz]) fun b o x => Heap.get?_push_of_some _ (Heap.get?_push_of_some _ x)⟩
end PySem
namespace KN
open PySem L2 PyProof.Rows

/-! ### enumerate over a tuple, a text -/
def IteT (K : Fg) (a : Addr) : It :=
  ⟨fun i H => ∃ (xs : List V) (x : V), SqT K H a xs ∧ xs[i]? = some x, fun i H v H' => ∃ T x, v = .ref T ∧ H T = none ∧ H' = upd H T (.tup [.int (i : Nat), x]) ∧ ∀ xs, SqT K H a xs → xs[i]? = some x, fun i H => ∃ xs : List V, SqT K H a xs ∧ xs.length = i⟩
theorem turn_enumT {P : Program} {w : World} {K : Fg} {elts : List Expr} {kk : Nat} {tpos : Pos} (a e it : Addr) :
    Turn P w K (.Tuple elts kk tpos) (IteT K a) [e, it] e (fun i h => (∃ old, IsEnum h e it ((i : Nat) : Int) old) ∧ h.IsTupleIter it a i ∧ e ≠ it ∧ a ≠ it ∧ a ≠ e) where
  mem := by simp
  obj := fun i h st b hb => by
    obtain ⟨⟨old, he⟩, ⟨o, ho, hc, hd⟩, _⟩ := st
    have e' : b = e ∨ b = it := by simpa using hb
    rcases e' with z | z
    · rw [z]; exact ⟨_, he, fun v q => nomatch q⟩
    · rw [z]; exact ⟨o, ho, fun v q => by rw [hd] at q; cases q⟩
  keep := fun i h h' st k => let ⟨⟨old, he⟩, hi, hne⟩ := st; ⟨⟨old, k e (by simp) _ he⟩, hi.at fun o q => k it (by simp) o q, hne⟩
  item := by
    intro X hP hw hK hc i pins s σ H E I hf st hg
    subst hP hw hK
    obtain ⟨⟨old, he⟩, hit, hne, hai, hae⟩ := st
    obtain ⟨xs, x, hq, hx⟩ := hg
    obtain ⟨its, rv, p, hz⟩ := I.tuple hq
    obtain ⟨u, hu, ru⟩ := rv.get hx
    have hel : e < s.heap.objs.size := Heap.lt_size he
    have hil : it < s.heap.objs.size := by obtain ⟨_, q, _⟩ := hit; exact Heap.lt_size q
    have hlt : i < its.toArray.size := by
      have := (List.getElem?_eq_some_iff.mp hu).1
      simpa using this
    refine wpAny_pyNext_enum_itemC (Draws.tuple (A := X.A.in1) (I.ok.hd hc) it a hai its.toArray) he ⟨hit, p⟩ hlt hne (by simp [hne, Ne.symm hae]) fun u' h' tk hu' ho hst' hT hsz hk => ?_
    have eu : u' = u := by
      have q : its.toArray[i]? = some u := by simpa using hu
      exact Option.some.inj (hu'.symm.trans q)
    subst eu
    refine ⟨_, rfl, wpAny_letOwnedTupleGo_enum (s := { s with heap := h', toks := tk + 1 }) ho fun h'' he' sb => ?_⟩
    have hT2 : h''.get? s.heap.objs.size = some { cls := .type "tuple", data := .seq #[.int i tk, u'] } := (sb.2 _ (Nat.ne_of_gt hel)).trans hT
    have new : ObjOk X.prog X.w (upd H s.heap.objs.size (.tup [.int (i : Nat), x])) h'' s.heap.objs.size (.tup [.int (i : Nat), x]) :=
      ⟨by show 2 ≤ sizeLine; decide, [.int i tk, u'], .cons ⟨_, rfl⟩ (.cons ru .nil), ⟨_, hT2, rfl, _, rfl⟩⟩
    have I1 : L2.Inv X pins σ (upd H s.heap.objs.size (.tup [.int (i : Nat), x])) { s with heap := h'', toks := tk + 1 } :=
      I.turnedNew (ch := [e, it]) (fun b ob hb q => (sb.2 b (fun z => hb (by simp [z]))).trans (hk b ob (fun z => hb (by simp [z])) (fun z => hb (by simp [z])) q)) hf (Nat.le_refl _) new
    refine ⟨.ref s.heap.objs.size, _, I1, rfl, ⟨_, x, rfl, I.hok.fresh (Nat.le_refl _), rfl, fun ys hy => by rw [I.tuple_inj hy hq]; exact hx⟩, ⟨⟨u', ?_⟩, hst'.1.at fun o q => (sb.2 it (Ne.symm hne)).trans q, hne, hai, hae⟩, fun b hb => ?_⟩
    · have e1 : ((i + 1 : Nat) : Int) = (i : Int) + 1 := by omega
      rw [e1]; exact he'
    · have hb' : b < s.heap.objs.size := by
        have e' : b = e ∨ b = it := by simpa using hb
        rcases e' with z | z
        · rw [z]; exact hel
        · rw [z]; exact hil
      rw [upd_ne (Nat.ne_of_lt hb')]
      exact (hf b hb).1
  done := by
    intro X hP hw hK hc i pins s σ H E I hf st hg
    subst hP hw hK
    obtain ⟨⟨old, he⟩, hit, hne, hai, hae⟩ := st
    obtain ⟨xs, hq, hx⟩ := hg
    obtain ⟨its, rv, p, hz⟩ := I.tuple hq
    obtain ⟨f0, f1, f2, f3, f4, f5⟩ := hf it (by simp)
    have hl := rv.length
    have hn : its.toArray.size = i := by simp; omega
    refine wpAny_pyNext_enum_endD (Draws.tuple (A := X.A.in1) (I.ok.hd hc) it a hai its.toArray) he (by rw [hn]; exact ⟨hit, p⟩) fun h' eb => ⟨rfl, I.turned (t' := s.toks) (fun b o hb q => eb b o hb q) f0 f1 f3 f4 f5⟩
  self := fun A i s Q E st h => let ⟨⟨_, he⟩, _⟩ := st; wpAny_pyIter_enum he h
def IteS (x : Str) : It :=
  ⟨fun i H => i < x.cps.size, fun i H v H' => ∃ T c, v = .ref T ∧ H T = none ∧ H' = upd H T (.tup [.int (i : Nat), .str ⟨#[c]⟩]) ∧ x.cps[i]? = some c, fun i H => i = x.cps.size⟩
theorem turn_enumS {P : Program} {w : World} {K : Fg} {elts : List Expr} {kk : Nat} {tpos : Pos} (x : Str) (t : Tok) (e it : Addr) :
    Turn P w K (.Tuple elts kk tpos) (IteS x) [e, it] e (fun i h => (∃ old, IsEnum h e it ((i : Nat) : Int) old) ∧ h.IsStrIter it (strIterType x) x t i ∧ e ≠ it) where
  mem := by simp
  obj := fun i h st b hb => by
    obtain ⟨⟨old, he⟩, ⟨o, ho, hc, hd⟩, _⟩ := st
    have e' : b = e ∨ b = it := by simpa using hb
    rcases e' with z | z
    · rw [z]; exact ⟨_, he, fun v q => nomatch q⟩
    · rw [z]; exact ⟨o, ho, fun v q => by rw [hd] at q; cases q⟩
  keep := fun i h h' st k => let ⟨⟨old, he⟩, hi, hne⟩ := st; ⟨⟨old, k e (by simp) _ he⟩, (by obtain ⟨o, ho, hr⟩ := hi; exact ⟨o, k it (by simp) o ho, hr⟩), hne⟩
  item := by
    intro X hP hw hK hc i pins s σ H E I hf st hg
    subst hP hw hK
    obtain ⟨⟨old, he⟩, hit, hne⟩ := st
    have hel : e < s.heap.objs.size := Heap.lt_size he
    have hil : it < s.heap.objs.size := by obtain ⟨_, q, _⟩ := hit; exact Heap.lt_size q
    refine wpAny_pyNext_enum_itemC (Draws.text (A := X.A.in1) (I.ok.hd hc) it x t) he hit hg hne (by simp [hne]) fun u' h' tk hu' ho hst' hT hsz hk => ?_
    obtain ⟨c, u, hc1, rfl⟩ := hu'
    refine ⟨_, rfl, wpAny_letOwnedTupleGo_enum (s := { s with heap := h', toks := tk + 1 }) ho fun h'' he' sb => ?_⟩
    have hT2 : h''.get? s.heap.objs.size = some { cls := .type "tuple", data := .seq #[.int i tk, .str ⟨#[c]⟩ u] } := (sb.2 _ (Nat.ne_of_gt hel)).trans hT
    have new : ObjOk X.prog X.w (upd H s.heap.objs.size (.tup [.int (i : Nat), .str ⟨#[c]⟩])) h'' s.heap.objs.size (.tup [.int (i : Nat), .str ⟨#[c]⟩]) :=
      ⟨by show 2 ≤ sizeLine; decide, [.int i tk, .str ⟨#[c]⟩ u], .cons ⟨_, rfl⟩ (.cons ⟨_, rfl⟩ .nil), ⟨_, hT2, rfl, _, rfl⟩⟩
    have I1 : L2.Inv X pins σ (upd H s.heap.objs.size (.tup [.int (i : Nat), .str ⟨#[c]⟩])) { s with heap := h'', toks := tk + 1 } :=
      I.turnedNew (ch := [e, it]) (fun b ob hb q => (sb.2 b (fun z => hb (by simp [z]))).trans (hk b ob (fun z => hb (by simp [z])) (fun z => hb (by simp [z])) q)) hf (Nat.le_refl _) new
    refine ⟨.ref s.heap.objs.size, _, I1, rfl, ⟨_, c, rfl, I.hok.fresh (Nat.le_refl _), rfl, hc1⟩, ⟨⟨.str ⟨#[c]⟩ u, ?_⟩, (by obtain ⟨o, ho, hr⟩ := hst'; exact ⟨o, (sb.2 it (Ne.symm hne)).trans ho, hr⟩), hne⟩, fun b hb => ?_⟩
    · have e1 : ((i + 1 : Nat) : Int) = (i : Int) + 1 := by omega
      rw [e1]; exact he'
    · have hb' : b < s.heap.objs.size := by
        have e' : b = e ∨ b = it := by simpa using hb
        rcases e' with z | z
        · rw [z]; exact hel
        · rw [z]; exact hil
      rw [upd_ne (Nat.ne_of_lt hb')]
      exact (hf b hb).1
  done := by
    intro X hP hw hK hc i pins s σ H E I hf st hg
    subst hP hw hK
    obtain ⟨⟨old, he⟩, hit, hne⟩ := st
    obtain ⟨f0, f1, f2, f3, f4, f5⟩ := hf it (by simp)
    have hg : i = x.cps.size := hg
    subst hg
    exact wpAny_pyNext_enum_endD (Draws.text (A := X.A.in1) (I.ok.hd hc) it x t) he hit fun h' eb => ⟨rfl, I.turned (t' := s.toks) (fun b o hb q => eb b o hb q) f0 f1 f3 f4 f5⟩
  self := fun A i s Q E st h => let ⟨⟨_, he⟩, _⟩ := st; wpAny_pyIter_enum he h

/-! ### what is walked, by its items -/
/-- the walks whose items come in tuples of their own -/
def pairIk : IK → Bool
  | .enum | .zip | .items => true
  | _ => false
structure Wk (K : Fg) (G Gv : Hp) (J : It) (ds : List D) (p : Bool) : Prop where
  go : ∀ i H, Same Gv H → i < ds.length → J.go i H
  stop : ∀ H, Same Gv H → J.stop ds.length H
  yld : ∀ i H x H' d, Same Gv H → ds[i]? = some d → J.yld i H x H' → (H' = H ∧ DR K G x d) ∨ p = true ∧
    ∃ T a b va vb, x = .ref T ∧ H T = none ∧ H' = upd H T (.tup [va, vb]) ∧ d = .tuple [a, b] ∧ DR K G va a ∧ DR K G vb b
def iD (K : Fg) (ik : IK) (t : TA) : TI := fun σ H R => t σ H fun vs H1 => ∃ G Gv ds items, Same G Gv ∧ Same Gv H1 ∧ Views K none G Gv vs ds ∧ walkD ik ds = some items ∧ ∀ J, Wk K G Gv J items (pairIk ik) → R J H1
def iDe (K : Fg) (te : TE) : TI := fun σ H R => te σ H fun v H1 => ∃ G Gv d items, Same G Gv ∧ Same Gv H1 ∧ View K none G Gv v d ∧ itemsD d = some items ∧ ∀ J, Wk K G Gv J items false → R J H1

theorem rangeD_get : ∀ (n : Nat) (lo : Int) (i : Nat), (rangeD lo n)[i]? = if i < n then some (.int (lo + i)) else none
  | 0, lo, i => by simp [rangeD]
  | n + 1, lo, 0 => by simp [rangeD]
  | n + 1, lo, i + 1 => by
    unfold rangeD
    rw [List.getElem?_cons_succ, rangeD_get n (lo + 1) i]
    by_cases h : i < n
    · rw [if_pos h, if_pos (by omega)]
      have e : lo + 1 + (i : Int) = lo + ((i + 1 : Nat) : Int) := by omega
      rw [e]
    · rw [if_neg h, if_neg (by omega)]
theorem rangeD_len : ∀ (n : Nat) (lo : Int), (rangeD lo n).length = n
  | 0, _ => rfl
  | n + 1, lo => by unfold rangeD; rw [List.length_cons, rangeD_len]
theorem wk_range {K : Fg} {G Gv : Hp} (lo : Int) (n : Nat) : Wk K G Gv (Itr lo n) (rangeD lo n) false where
  go := fun i H _ h => by rw [rangeD_len] at h; exact h
  stop := fun H _ => by rw [rangeD_len]; exact Nat.le_refl _
  yld := fun i H x H' d _ e y => by
    obtain ⟨rfl, rfl⟩ := y
    rw [rangeD_get] at e
    split at e
    · cases e; exact .inl ⟨rfl, .int _⟩
    · cases e
/-- the list at a, of the items ds -/
theorem wk_list {K : Fg} {G Gv : Hp} {a : Addr} {xs : List V} {ds : List D} (h : SqL K Gv a xs) (r : DRs K G xs ds) : Wk K G Gv (Itl K a) ds false where
  go := fun i H s hi => by
    obtain ⟨u, hu, _⟩ := r.get (List.getElem?_eq_getElem hi)
    exact ⟨xs, u, s.seq h, hu⟩
  stop := fun H s => ⟨xs, s.seq h, by rw [r.length]; exact Nat.le_refl _⟩
  yld := fun i H x H' d s e y => by
    obtain ⟨rfl, y⟩ := y
    obtain ⟨u, hu, hd⟩ := r.get e
    have := y xs (s.seq h)
    rw [hu] at this
    cases this
    exact .inl ⟨rfl, hd⟩
theorem wk_tup {K : Fg} {G Gv : Hp} {a : Addr} {xs : List V} {ds : List D} (h : SqT K Gv a xs) (r : DRs K G xs ds) : Wk K G Gv (Itt K a) ds false where
  go := fun i H s hi => by
    obtain ⟨u, hu, _⟩ := r.get (List.getElem?_eq_getElem hi)
    exact ⟨xs, u, SqT.same s h, hu⟩
  stop := fun H s => ⟨xs, SqT.same s h, by rw [r.length]; exact Nat.le_refl _⟩
  yld := fun i H x H' d s e y => by
    obtain ⟨rfl, y⟩ := y
    obtain ⟨u, hu, hd⟩ := r.get e
    have := y xs (SqT.same s h)
    rw [hu] at this
    cases this
    exact .inl ⟨rfl, hd⟩
theorem drk_get {K : Fg} {G : Hp} : ∀ {vs : List (Key × V)} {ds : List (D × D)} {i : Nat} {p : D × D}, DRk K G vs ds → ds[i]? = some p → ∃ k v, vs[i]? = some (k, v) ∧ p.1 = kD k ∧ DR K G v p.2
  | _, _, _, _, .nil, e => by simp at e
  | _, _, 0, _, .cons h _, e => by simp at e; subst e; exact ⟨_, _, rfl, rfl, h⟩
  | _, _, i + 1, p, .cons _ t, e => by
    obtain ⟨k, v, h1, h2⟩ := drk_get (i := i) (p := p) t (by simpa using e)
    exact ⟨k, v, by simpa using h1, h2⟩
theorem wk_keys {K : Fg} {G Gv : Hp} {a : Addr} {o : Obj} {kvs : List (Key × V)} {ds : List (D × D)} (h : Gv a = some (.frz o (.dK kvs))) (r : DRk K G kvs ds) : Wk K G Gv (Itk a o kvs) (ds.map (·.1)) false where
  go := fun i H s hi => ⟨s _ _ h, by rw [List.length_map] at hi; rw [r.length]; exact hi⟩
  stop := fun H s => ⟨s _ _ h, by rw [List.length_map, r.length]; exact Nat.le_refl _⟩
  yld := fun i H x H' d s e y => by
    obtain ⟨rfl, k, v, h1, rfl⟩ := y
    rw [List.getElem?_map, Option.map_eq_some_iff] at e
    obtain ⟨p, e1, rfl⟩ := e
    obtain ⟨k', v', h2, h3, _⟩ := drk_get r e1
    rw [h1] at h2
    cases h2
    rw [h3]
    exact .inl ⟨rfl, kV_DR k⟩
theorem wk_vals {K : Fg} {G Gv : Hp} {a : Addr} {o : Obj} {kvs : List (Key × V)} {ds : List (D × D)} (h : Gv a = some (.frz o (.dK kvs))) (r : DRk K G kvs ds) : Wk K G Gv (Itd a o kvs) (ds.map (·.2)) false where
  go := fun i H s hi => ⟨s _ _ h, by rw [List.length_map] at hi; rw [r.length]; exact hi⟩
  stop := fun H s => ⟨s _ _ h, by rw [List.length_map, r.length]; exact Nat.le_refl _⟩
  yld := fun i H x H' d s e y => by
    obtain ⟨rfl, k, h1⟩ := y
    rw [List.getElem?_map, Option.map_eq_some_iff] at e
    obtain ⟨p, e1, rfl⟩ := e
    obtain ⟨k', v', h2, h3, h4⟩ := drk_get r e1
    rw [h1] at h2
    cases h2
    exact .inl ⟨rfl, h4⟩
theorem wk_items {K : Fg} {G Gv : Hp} {a : Addr} {o : Obj} {kvs : List (Key × V)} {ds : List (D × D)} (h : Gv a = some (.frz o (.dK kvs))) (r : DRk K G kvs ds) : Wk K G Gv (Iti a o kvs) (itmD ds) true where
  go := fun i H s hi => ⟨s _ _ h, by unfold itmD at hi; rw [List.length_map] at hi; rw [r.length]; exact hi⟩
  stop := fun H s => ⟨s _ _ h, by unfold itmD; rw [List.length_map, r.length]; exact Nat.le_refl _⟩
  yld := fun i H x H' d s e y => by
    obtain ⟨T, k, v, h1, rfl, hT, rfl⟩ := y
    unfold itmD at e
    rw [List.getElem?_map, Option.map_eq_some_iff] at e
    obtain ⟨p, e1, rfl⟩ := e
    obtain ⟨k', v', h2, h3, h4⟩ := drk_get r e1
    rw [h1] at h2
    cases h2
    exact .inr ⟨rfl, T, _, _, _, _, rfl, hT, rfl, rfl, by rw [h3]; exact kV_DR k, h4⟩
theorem wk_str {K : Fg} {G Gv : Hp} (z : Str) : Wk K G Gv (Its z) (z.cps.toList.map fun c => .str ⟨#[c]⟩) false where
  go := fun i H s hi => by show i < z.cps.size; simpa using hi
  stop := fun H s => by show z.cps.size ≤ _; simp
  yld := fun i H x H' d s e y => by
    obtain ⟨rfl, c, hc, rfl⟩ := y
    rw [List.getElem?_map, Array.getElem?_toList, hc] at e
    cases e
    exact .inl ⟨rfl, .str _⟩
theorem enumFrom_get : ∀ (ds : List D) (n i : Nat), (enumFrom n ds)[i]? = (ds[i]?).map fun d => .tuple [.int ((n + i : Nat) : Int), d]
  | [], n, i => by simp [enumFrom]
  | d :: r, n, 0 => by simp [enumFrom]
  | d :: r, n, i + 1 => by
    unfold enumFrom
    rw [List.getElem?_cons_succ, List.getElem?_cons_succ, enumFrom_get r (n + 1) i]
    have e : n + 1 + i = n + (i + 1) := by omega
    rw [e]
theorem enumFrom_len : ∀ (ds : List D) (n : Nat), (enumFrom n ds).length = ds.length
  | [], _ => rfl
  | d :: r, n => by unfold enumFrom; rw [List.length_cons, List.length_cons, enumFrom_len]
theorem enum_at {ds : List D} {i : Nat} {d : D} (e : (enumFrom 0 ds)[i]? = some d) : ∃ x, ds[i]? = some x ∧ d = .tuple [.int (i : Nat), x] := by
  rw [enumFrom_get] at e
  cases q : ds[i]? with
  | none => rw [q] at e; cases e
  | some x =>
    rw [q] at e
    simp only [Option.map_some, Nat.zero_add, Option.some.injEq] at e
    exact ⟨x, rfl, e.symm⟩
theorem wk_enumL {K : Fg} {G Gv : Hp} {a : Addr} {xs : List V} {ds : List D} (h : SqL K Gv a xs) (r : DRs K G xs ds) : Wk K G Gv (Ite K a) (enumFrom 0 ds) true where
  go := fun i H s hi => by
    rw [enumFrom_len] at hi
    obtain ⟨u, hu, _⟩ := r.get (List.getElem?_eq_getElem hi)
    exact ⟨xs, u, s.seq h, hu⟩
  stop := fun H s => ⟨xs, s.seq h, by rw [enumFrom_len, r.length]; exact Nat.le_refl _⟩
  yld := fun i H x H' d s e y => by
    obtain ⟨T, z, rfl, hT, rfl, y⟩ := y
    obtain ⟨d', e', rfl⟩ := enum_at e
    obtain ⟨u, hu, hd⟩ := r.get e'
    have := y xs (s.seq h)
    rw [hu] at this
    cases this
    exact .inr ⟨rfl, T, _, _, _, _, rfl, hT, rfl, rfl, .int _, hd⟩
theorem wk_enumT {K : Fg} {G Gv : Hp} {a : Addr} {xs : List V} {ds : List D} (h : SqT K Gv a xs) (r : DRs K G xs ds) : Wk K G Gv (IteT K a) (enumFrom 0 ds) true where
  go := fun i H s hi => by
    rw [enumFrom_len] at hi
    obtain ⟨u, hu, _⟩ := r.get (List.getElem?_eq_getElem hi)
    exact ⟨xs, u, SqT.same s h, hu⟩
  stop := fun H s => ⟨xs, SqT.same s h, by rw [enumFrom_len, r.length]⟩
  yld := fun i H x H' d s e y => by
    obtain ⟨T, z, rfl, hT, rfl, y⟩ := y
    obtain ⟨d', e', rfl⟩ := enum_at e
    obtain ⟨u, hu, hd⟩ := r.get e'
    have := y xs (SqT.same s h)
    rw [hu] at this
    cases this
    exact .inr ⟨rfl, T, _, _, _, _, rfl, hT, rfl, rfl, .int _, hd⟩
theorem wk_enumS {K : Fg} {G Gv : Hp} (z : Str) : Wk K G Gv (IteS z) (enumFrom 0 (z.cps.toList.map fun c => .str ⟨#[c]⟩)) true where
  go := fun i H s hi => by show i < z.cps.size; rw [enumFrom_len] at hi; simpa using hi
  stop := fun H s => by show _ = z.cps.size; rw [enumFrom_len]; simp
  yld := fun i H x H' d s e y => by
    obtain ⟨T, c, rfl, hT, rfl, hc⟩ := y
    obtain ⟨d', e', rfl⟩ := enum_at e
    rw [List.getElem?_map, Array.getElem?_toList, hc] at e'
    cases e'
    exact .inr ⟨rfl, T, _, _, _, _, rfl, hT, rfl, rfl, .int _, .str _⟩
end KN

set_option maxRecDepth 100000
set_option maxHeartbeats 1000000
namespace KN
open PySem L2 PyProof.Rows
section
variable {X : Cx} {tg : Expr}
theorem pi_ex {e : Expr} {te : TE} (he : PE X e te) : PI X tg e (iDe X.K te) := by
  refine ⟨fun pins s σ H R I h => ?_⟩
  refine thn (he.run pins s σ H _ I h) fun v s1 ⟨x, H1, I1, r1, G, Gv, d, items, sm, sv, vw, ei, q⟩ => ?_
  cases d with
  | list ds =>
    cases ei
    obtain ⟨a, xs, rfl, rd, dr⟩ := vw.lst sm
    cases r1
    obtain ⟨its, rv, p, hz⟩ := I1.list (sv.seq rd)
    refine wpAny_pyIter_list p.isList ?_
    refine ⟨s1.heap.objs.size, [s1.heap.objs.size], _, _, H1, rfl, I1.kept (t' := s1.toks) fun b o e => Heap.get?_push_of_some _ e, turn_list a _, ⟨_, Heap.get?_push_size _ rfl, rfl, rfl⟩, fun b hb => ?_, q _ (wk_list rd dr)⟩
    have e : b = s1.heap.objs.size := by simpa using hb
    subst e
    exact I1.fpOk (Nat.le_refl _) (I1.hok.fresh (Nat.le_refl _))
  | tuple ds =>
    cases ei
    obtain ⟨a, xs, rfl, rd, dr⟩ := vw.tup sm
    cases r1
    obtain ⟨its, rv, p, hz⟩ := I1.tuple (SqT.same sv rd)
    refine wpAny_pyIter_tuple (show s1.heap.IsTuple a its.toArray from p) ?_
    refine ⟨s1.heap.objs.size, [s1.heap.objs.size], _, _, H1, rfl, I1.kept (t' := s1.toks) fun b o e => Heap.get?_push_of_some _ e, turn_tuple a _, ⟨_, Heap.get?_push_size _ rfl, rfl, rfl⟩, fun b hb => ?_, q _ (wk_tup rd dr)⟩
    have e : b = s1.heap.objs.size := by simpa using hb
    subst e
    exact I1.fpOk (Nat.le_refl _) (I1.hok.fresh (Nat.le_refl _))
  | str z =>
    cases ei
    rw [vw.str] at r1
    obtain ⟨t, rfl⟩ := r1
    have q := q _ (wk_str z)
    cases ha : z.cps.all (· < 128)
    · exact wpAny_pyIter_wide ha (pi_one (tk := s1.toks) I1 _ (turn_str _ z t "str_iterator" (.inr rfl)) ⟨_, Heap.get?_push_size _ rfl, rfl, rfl⟩ q)
    · exact wpAny_pyIter_ascii ha (pi_one (tk := s1.toks) I1 _ (turn_str _ z t "str_ascii_iterator" (.inl rfl)) ⟨_, Heap.get?_push_size _ rfl, rfl, rfl⟩ q)
  | dict ds =>
    cases ei
    obtain ⟨a, od, ks, rfl, hd, dr⟩ := vw.dic sm
    cases r1
    obtain ⟨hs, hgd, hx, es, ep, vs, hdt, hsz, kv, hm⟩ := I1.frzK (sv _ _ hd)
    refine iter_keys hs hgd hx hdt (pi_one (tk := s1.toks) I1 _ (turn_keys _ hdt) ⟨_, Heap.get?_push_size _ rfl, rfl, ?_⟩ (q _ (wk_keys hd dr)))
    rw [hsz] <;> rfl
  | _ => cases ei
theorem pi_enumD {e : Expr} {ta : TA} {p pos tpos : Pos} {elts : List Expr} {kk : Nat} (hg : Gl X "enumerate") (hm : X.mg "enumerate" = none) (ha : PA X [e] ta) (hs : starEach [e] X.env = [(false, eval e X.env)]) :
    PI X (.Tuple elts kk tpos) (.Call (.Name "enumerate" p) [e] [] pos) (iD X.K .enum ta) := by
  refine ⟨fun pins s σ H R I h => ?_⟩
  refine Call_ (ld_blt I hg hm boot_enumerate (PyProof.Rows.callWith_type1 (thn (ha.run pos pins s σ H _ I h) fun us s1 ⟨vs, H1, I1, r1, G, Gv, ds, items, sm, sv, vw, ei, q⟩ => ?_) hs rfl))
  cases vw with
  | nil => cases ei
  | cons v1 vr =>
    cases vr with
    | cons _ _ => cases ei
    | nil =>
      rename_i x d
      simp only [walkD] at ei
      split at ei
      · rename_i its0 hi
        cases ei
        cases r1 with
        | cons r rr =>
          cases rr
          have fp2 : ∀ b, b ∈ [s1.heap.objs.size + 1, s1.heap.objs.size] → FpOk X pins H1 b := fun b hb => by
            have e' : b = s1.heap.objs.size + 1 ∨ b = s1.heap.objs.size := by simpa using hb
            have hle : s1.heap.objs.size ≤ b := by
              rcases e' with z | z
              · rw [z]; exact Nat.le_add_right _ _
              · rw [z]; exact Nat.le_refl _
            exact I1.fpOk hle (I1.hok.fresh hle)
          cases d with
          | list ds =>
            cases hi
            obtain ⟨a, xs, rfl, rd, dr⟩ := v1.lst sm
            cases r
            obtain ⟨its, rv, p', hz⟩ := I1.list (sv.seq rd)
            refine call_enumerate_list p'.isList fun h' he hit hsz hk => wpAny_pyIter_enum he ?_
            have I2 : L2.Inv X pins σ H1 { s1 with heap := h' } := I1.kept (t' := s1.toks) hk
            exact ⟨s1.heap.objs.size + 1, [s1.heap.objs.size + 1, s1.heap.objs.size], _, _, H1, rfl, I2, turn_enum a (s1.heap.objs.size + 1) s1.heap.objs.size, ⟨⟨.none, he⟩, hit, Nat.succ_ne_self _⟩, fp2, q _ (wk_enumL rd dr)⟩
          | tuple ds =>
            cases hi
            obtain ⟨a, xs, rfl, rd, dr⟩ := v1.tup sm
            cases r
            obtain ⟨its, rv, p', hz⟩ := I1.tuple (SqT.same sv rd)
            have hlt : a < s1.heap.objs.size := by obtain ⟨o, ho, _⟩ := id p'; exact Heap.lt_size ho
            refine enum1_begins (begins_tuple a its.toArray) (show s1.heap.IsTuple a its.toArray from p') fun h' he ho hsz hk => wpAny_pyIter_enum he ?_
            have I2 : L2.Inv X pins σ H1 { s1 with heap := h' } := I1.kept (t' := s1.toks) hk
            exact ⟨s1.heap.objs.size + 1, [s1.heap.objs.size + 1, s1.heap.objs.size], _, _, H1, rfl, I2, turn_enumT a (s1.heap.objs.size + 1) s1.heap.objs.size, ⟨⟨.none, he⟩, ⟨_, ho, rfl, rfl⟩, Nat.succ_ne_self _, Nat.ne_of_lt hlt, Nat.ne_of_lt (Nat.lt_succ_of_lt hlt)⟩, fp2, q _ (wk_enumT rd dr)⟩
          | str z =>
            cases hi
            rw [v1.str] at r
            obtain ⟨t, rfl⟩ := r
            refine enum1_begins (begins_text z t) trivial fun h' he ho hsz hk => wpAny_pyIter_enum he ?_
            have I2 : L2.Inv X pins σ H1 { s1 with heap := h' } := I1.kept (t' := s1.toks) hk
            exact ⟨s1.heap.objs.size + 1, [s1.heap.objs.size + 1, s1.heap.objs.size], _, _, H1, rfl, I2, turn_enumS z t (s1.heap.objs.size + 1) s1.heap.objs.size, ⟨⟨.none, he⟩, ⟨_, ho, rfl, rfl⟩, Nat.succ_ne_self _⟩, fp2, q _ (wk_enumS z)⟩
          | _ => cases hi
      · cases ei
end

/-! ### values, pairs of a dict -/
def baseOk : Expr → Bool
  | .Name _ _ => true
  | .Subscript _ _ _ => true
  | _ => false
theorem base_of {e : Expr} {m : Str} {env : PySem.Env} (h : baseOk e = true) : attributeBase e m env (eval e env) = eval e env := by
  cases e <;> first | rfl | cases h
section
variable {X : Cx} {tg e : Expr} {apos cpos : Pos}
/-- a reading with less asked behind it -/
def up (t : TE) : TE := fun σ H Q => ∃ P : VK, t σ H P ∧ ∀ v H', P v H' → Q v H'
theorem pe_up {t : TE} (h : PE X e t) : PE X e (up t) := ⟨fun pins s σ H Q I q => by
  obtain ⟨P, q1, q2⟩ := q
  exact thn (h.run pins s σ H P I q1) fun u s' ⟨v, H', I', r, p⟩ => ⟨v, H', I', r, q2 v H' p⟩⟩
def iDv (K : Fg) (te : TE) : TI := fun σ H R => te σ H fun v H1 => ∃ G Gv ds, Same G Gv ∧ Same Gv H1 ∧ View K none G Gv v (.dict ds) ∧ ∀ J, Wk K G Gv J (ds.map (·.2)) false → R J H1
def iDi (K : Fg) (te : TE) : TI := fun σ H R => te σ H fun v H1 => ∃ G Gv ds, Same G Gv ∧ Same Gv H1 ∧ View K none G Gv v (.dict ds) ∧ ∀ J, Wk K G Gv J (itmD ds) true → R J H1
theorem pi_valsD {te : TE} (he : PE X e te) (hb : baseOk e = true) (hl : (apos.endLine == cpos.line) = true) : PI X tg (.Call (.Attribute e "values" apos) [] [] cpos) (iDv X.K te) := by
  refine ⟨fun pins s σ H R I h => (pi_values (pe_up he) (base_of hb) hl).run pins s σ H R I ⟨_, h, fun v H1 ⟨G, Gv, ds, sm, sv, vw, q⟩ => ?_⟩⟩
  obtain ⟨a, od, ks, rfl, hd, dr⟩ := vw.dic sm
  exact ⟨a, od, ks, rfl, sv _ _ hd, q _ (wk_vals hd dr)⟩
theorem pi_itemsD {te : TE} {elts : List Expr} {kk : Nat} {tpos : Pos} (he : PE X e te) (hb : baseOk e = true) (hl : (apos.endLine == cpos.line) = true) : PI X (.Tuple elts kk tpos) (.Call (.Attribute e "items" apos) [] [] cpos) (iDi X.K te) := by
  refine ⟨fun pins s σ H R I h => (pi_items (pe_up he) (base_of hb) hl).run pins s σ H R I ⟨_, h, fun v H1 ⟨G, Gv, ds, sm, sv, vw, q⟩ => ?_⟩⟩
  obtain ⟨a, od, ks, rfl, hd, dr⟩ := vw.dic sm
  exact ⟨a, od, ks, rfl, sv _ _ hd, q _ (wk_items hd dr)⟩
end
/-! ### zip -/
theorem zipD_get : ∀ (xs ys : List D) (i : Nat) (d : D), (zipD xs ys)[i]? = some d → ∃ a b, xs[i]? = some a ∧ ys[i]? = some b ∧ d = .tuple [a, b]
  | [], ys, i, d, e => by simp [zipD] at e
  | a :: r, [], i, d, e => by simp [zipD] at e
  | a :: r, b :: q, 0, d, e => by
    simp only [zipD, List.getElem?_cons_zero, Option.some.injEq] at e
    exact ⟨a, b, rfl, rfl, e.symm⟩
  | a :: r, b :: q, i + 1, d, e => by
    simp only [zipD, List.getElem?_cons_succ] at e
    simpa using zipD_get r q i d e
theorem zipD_len : ∀ (xs ys : List D), (zipD xs ys).length = min xs.length ys.length
  | [], ys => by simp [zipD]
  | a :: r, [] => by simp [zipD]
  | a :: r, b :: q => by
    simp only [zipD, List.length_cons, zipD_len r q]
    omega
theorem SqB.same {K : Fg} {G H : Hp} (s : Same G H) {a : Addr} {xs : List V} : ∀ {q : Bool}, SqB K q G a xs → SqB K q H a xs
  | true, h => s.seq h
  | false, h => SqT.same s h
theorem wk_zipG {K : Fg} {q p : Bool} {G Gv : Hp} {a b : Addr} {xs ys : List V} {ds es : List D} (h : SqB K q Gv a xs) (r : DRs K G xs ds) (h' : SqB K p Gv b ys) (r' : DRs K G ys es) : Wk K G Gv (Itzg K q p a b) (zipD ds es) true where
  go := fun i H s hi => by
    rw [zipD_len] at hi
    obtain ⟨u, hu, _⟩ := r.get (List.getElem?_eq_getElem (show i < ds.length by omega))
    obtain ⟨w, hw, _⟩ := r'.get (List.getElem?_eq_getElem (show i < es.length by omega))
    exact ⟨xs, ys, u, w, SqB.same s h, SqB.same s h', hu, hw⟩
  stop := fun H s => ⟨xs, ys, SqB.same s h, SqB.same s h', by rw [zipD_len, r.length, r'.length]; omega⟩
  yld := fun i H x H' d s e y => by
    obtain ⟨T, u, w, rfl, hT, rfl, y1, y2⟩ := y
    obtain ⟨d1, d2, e1, e2, rfl⟩ := zipD_get _ _ _ _ e
    obtain ⟨u', hu, hd⟩ := r.get e1
    obtain ⟨w', hw, hd'⟩ := r'.get e2
    have q1 := y1 xs (SqB.same s h)
    have q2 := y2 ys (SqB.same s h')
    rw [hu] at q1
    rw [hw] at q2
    cases q1
    cases q2
    exact .inr ⟨rfl, T, _, _, _, _, rfl, hT, rfl, rfl, hd, hd'⟩

/-! ### the readings of texts -/
section
variable (K : Fg) (ta : Option Addr) (C : Nat → List D → M D)
def tE (k : Kd) (t : E) : TE := fun σ H Q => ∃ G ρ τ d τ', Rel K ta G σ H ρ τ ∧ evE C t ρ τ = some (d, τ') ∧
  ∀ v G' H', Ext ta G H G' H' → Rel K ta G' σ H' ρ τ' → Val K ta H G' H' k v d → Q v H'
def tT (t : E) : TT := fun σ H Q => ∃ G ρ τ b τ', Rel K ta G σ H ρ τ ∧ ((evE C t ρ).bnd fun x => M.of (truD x)) τ = some (b, τ') ∧
  ∀ G' H', Ext ta G H G' H' → Rel K ta G' σ H' ρ τ' → Q b H'
def tV (ts : List E) : TA := fun σ H Q => ∃ G ρ τ ds τ', Rel K ta G σ H ρ τ ∧ evEs C ts ρ τ = some (ds, τ') ∧
  ∀ vs G' H', Ext ta G H G' H' → Rel K ta G' σ H' ρ τ' → Views K ta G' H' vs ds → Q vs H'
end
theorem PE.mono {X : Cx} {e : Expr} {t t' : TE} (h : PE X e t) (i : ∀ σ H Q, t' σ H Q → t σ H Q) : PE X e t' := ⟨fun pins s σ H Q I q => h.run pins s σ H Q I (i σ H Q q)⟩
theorem PT.mono {X : Cx} {e : Expr} {t t' : TT} (h : PT X e t) (i : ∀ σ H Q, t' σ H Q → t σ H Q) : PT X e t' := ⟨fun pins s σ H Q I q => h.run pins s σ H Q I (i σ H Q q)⟩
theorem PW.mono {X : Cx} {e : Expr} {t t' : TT} (h : PW X e t) (i : ∀ σ H Q, t' σ H Q → t σ H Q) : PW X e t' := ⟨fun wh pins s σ H Q I q => h.run wh pins s σ H Q I (i σ H Q q)⟩
theorem PA.mono {X : Cx} {es : List Expr} {t t' : TA} (h : PA X es t) (i : ∀ σ H Q, t' σ H Q → t σ H Q) : PA X es t' := ⟨fun p pins s σ H Q I q => h.run p pins s σ H Q I (i σ H Q q)⟩
theorem PS.mono {X : Cx} {st : Stmt} {t t' : TS} (h : PS X st t) (i : ∀ D σ H, t' D σ H → t D σ H) : PS X st t' := ⟨fun pins s σ H D I q => h.run pins s σ H D I (i D σ H q)⟩
theorem PSs.mono {X : Cx} {st : List Stmt} {t t' : TS} (h : PSs X st t) (i : ∀ D σ H, t' D σ H → t D σ H) : PSs X st t' := ⟨fun pins s σ H D I q => h.run pins s σ H D I (i D σ H q)⟩
theorem PI.mono {X : Cx} {tg it : Expr} {t t' : TI} (h : PI X tg it t) (i : ∀ σ H R, t' σ H R → t σ H R) : PI X tg it t' := ⟨fun pins s σ H R I q => h.run pins s σ H R I (i σ H R q)⟩
section
variable {K : Fg} {ta : Option Addr} {C : Nat → List D → M D} {t : E}
/-- a list just made is laid to the frozen part -/
theorem Fresh.freeze {H₀ G G' H' : Hp} {σ : L2.St} {ρ : En} {τ : List D} {v : V} {d : D} (f : Fresh K ta H₀ G' H' v d) (x : Ext ta G H₀ G' H') (r : Rel K ta G' σ H' ρ τ) (r0 : ∀ (i : Nat) ds, ρ[i]? = some (some (.own ds)) → ∀ a, σ[i]? = some (some (.ref a)) → H₀ a ≠ none) :
    ∃ G'', Ext ta G H₀ G'' H' ∧ Rel K ta G'' σ H' ρ τ ∧ DR K G'' v d := by
  obtain ⟨a, o, od, rfl, rfl, h0, h1, h2, h3, h4⟩ := f
  have sm : Same G' (upd G' a o) := fun b u h => by rw [upd_ne (ne_of_none h h2)]; exact h
  refine ⟨upd G' a o, ⟨x.g.trans sm, fun b u h => ?_, x.keep, x.there⟩, ⟨fun b u h => ?_, fun b e => ?_, fun i d e => ?_, fun i ds' e => ?_, r.apart, r.tn, r.len⟩, h4.dr sm upd_same⟩
  · by_cases e : b = a
    · subst e; exact .inr h0
    · rw [upd_ne e] at h; exact x.new b u h
  · by_cases e : b = a
    · subst e; rw [upd_same] at h; cases h; exact h3
    · rw [upd_ne e] at h; exact r.sub b u h
  · obtain ⟨n, ws, q1, q2⟩ := r.tin b e
    have : b ≠ a := fun z => h1 (by rw [e, z])
    exact ⟨by rw [upd_ne this]; exact n, ws, q1, q2.same sm⟩
  · obtain ⟨w, q1, q2⟩ := r.dat i d e
    exact ⟨w, q1, q2.same sm⟩
  · obtain ⟨b, ws, q1, q2, q3, q4, q5⟩ := r.own i ds' e
    have : b ≠ a := fun z => by
      subst z
      exact r0 i ds' e b q1 h0
    exact ⟨b, ws, q1, q2, by rw [upd_ne this]; exact q3, q4, q5.same sm⟩
theorem Rel.ownThere {G : Hp} {σ : L2.St} {H : Hp} {ρ : En} {τ : List D} (r : Rel K ta G σ H ρ τ) : ∀ (i : Nat) ds, ρ[i]? = some (some (.own ds)) → ∀ a, σ[i]? = some (some (.ref a)) → H a ≠ none := fun i ds e a q => by
  obtain ⟨b, ws, q1, q2, q3, q4, q5⟩ := r.own i ds e
  rw [q] at q1
  cases q1
  rw [q4]
  exact fun z => nomatch z
theorem tE_dat {k : Kd} (hk : k ≠ .peek) : ∀ σ H Q, tE K ta C .dat t σ H Q → tE K ta C k t σ H Q := by
  intro σ H Q h
  obtain ⟨G, ρ, τ, d, τ', r, e, q⟩ := h
  refine ⟨G, ρ, τ, d, τ', r, e, fun v G' H' x r' vl => ?_⟩
  cases k with
  | dat => exact q v G' H' x r' vl
  | peek => exact absurd rfl hk
  | fresh =>
    rcases vl with ⟨h, _⟩ | h
    · exact q v G' H' x r' h
    · obtain ⟨G'', x', r'', dr⟩ := h.freeze x r' r.ownThere
      exact q v G'' H' x' r'' dr
end
end KN

set_option maxRecDepth 100000
set_option maxHeartbeats 1000000
namespace KN
open PySem L2 PyProof.Rows

/-! ### a text is the row's -/
structure Kw where
  f : Nat
  np : Nat
  ks : List Str
  perm : List Nat
  deriving DecidableEq
structure Cn where
  N : List Str
  sc : Scope
  blk : Option Scope
  T : List (Nat × Fn)
  B : Tb
  gl : List (Str × D)
  kw : List Kw
  xs : List Nat
def kdOf : E → Kd
  | .peek _ => .peek
  | .bin _ _ _ => .fresh
  | .bi _ _ => .fresh
  | .slice _ _ _ => .fresh
  | .rev _ => .fresh
  | .sset _ => .fresh
  | .lrg _ => .fresh
  | .lst _ => .fresh
  | .comp _ _ _ _ _ => .fresh
  | .comp2 _ _ _ _ _ _ _ _ _ => .fresh
  | .dcomp _ _ _ _ _ _ => .fresh
  | .dic0 => .fresh
  | .dic1 _ _ => .fresh
  | .sitm _ => .fresh
  | .callN _ _ => .fresh
  | .or a b => if kdOf a = .fresh ∧ kdOf b = .fresh then .fresh else .dat
  | _ => .dat
def plain (t : E) : Bool := match kdOf t with
  | .peek => false
  | _ => true
def visB (sc : Scope) (x : Str) : Bool := match sc.names.lookup x with
  | some .local => true
  | some .cell => true
  | some .free => true
  | _ => false
def nameOk (Γ : Cn) (i : Nat) (x : Str) : Bool := decide (Γ.N[i]? = some x) && visB Γ.sc x && !(x == ("__debug__" : Str)) && !(x == ("__classdict__" : Str))
def glOk (Γ : Cn) (x : Str) : Bool := (match Γ.sc.names.lookup x with
  | some .globalImplicit => true
  | _ => false) && !(x == ("__debug__" : Str)) && decide (x ≠ "__name__")
def stOk (Γ : Cn) (x : Str) : Bool := match Γ.sc.names.lookup x with
  | some .local => true
  | some .cell => (match Γ.blk with
    | none => true
    | some s => s.names.lookup x == some .cell)
  | _ => false
/-- a target -/
def mNames (Γ : Cn) : List Nat → List Expr → Bool
  | [], [] => true
  | i :: is, .Name x _ :: es => decide (Γ.N[i]? = some x) && stOk Γ x && mNames Γ is es
  | _, _ => false
def mTg (Γ : Cn) : Tg → Expr → Bool
  | .nm i, .Name x _ => decide (Γ.N[i]? = some x) && stOk Γ x
  | .tup is, .Tuple es _ _ => mNames Γ is es
  | _, _ => false
def isTupE : Expr → Bool
  | .Tuple _ _ _ => true
  | _ => false
def notStar : Expr → Bool
  | .Starred _ _ => false
  | _ => true
def notSet : Expr → Bool
  | .Set _ _ _ => false
  | _ => true
def notSlice : Expr → Bool
  | .Slice _ _ _ _ => false
  | _ => true
def fnIs (Γ : Cn) (f : Nat) (x : Str) (tin fresh : Bool) : Bool := match Γ.T.lookup f with
  | some F => decide (F.name = x) && (F.tin == tin) && (F.fresh == fresh)
  | none => false
/-- a def that draws nothing, whatever its value is -/
def fnAny (Γ : Cn) (f : Nat) (x : Str) : Bool := match Γ.T.lookup f with
  | some F => decide (F.name = x) && (F.tin == false)
  | none => false
def biL : List Str := ["len", "list", "tuple", "int", "abs", "sum", "max", "min", "all", "any", "sorted", "isinstance", "range", "enumerate", "zip", "bool", "str", "dict", "set", "super", "LookupError", "ValueError"]
/-- a display of defs -/
def mFs (Γ : Cn) : List Nat → List Expr → Bool
  | [], [] => true
  | f :: fs, .Name x _ :: es => fnAny Γ f x && glOk Γ x && mFs Γ fs es
  | _, _ => false
def tysOk (Γ : Cn) : List String → List Expr → Bool
  | [], [] => true
  | t :: ts, .Name x _ :: es => decide (x = Str.ofString t) && glOk Γ x && decide (x ∈ biL) && (bootBuiltins x == some (.type t)) && tysOk Γ ts es
  | _, _ => false
def blkOf2 (Γ : Cn) (tg tg1 : Tg) : List (Str × Nat) := (tg.slots ++ tg1.slots).map fun i => (Γ.N.getD i "", i)
/-- what is walked; m: how the sources are read, mr: those of a range -/
def srcB (ik : IK) (Γ : Cn) (t it : Expr) (m mr : List Expr → Bool) : Bool := match ik with
  | .ex => m [it]
  | .range => (match it with
    | .Call (.Name x _) args [] _ => decide (x = "range") && glOk Γ x && mr args && decide (args.length = 1 ∨ args.length = 2)
    | _ => false)
  | .enum => isTupE t && (match it with
    | .Call (.Name x _) args [] _ => decide (x = "enumerate") && glOk Γ x && m args && decide (args.length = 1)
    | _ => false)
  | .zip => isTupE t && (match it with
    | .Call (.Name x _) args [] _ => decide (x = "zip") && glOk Γ x && m args && decide (args.length = 2)
    | _ => false)
  | .items => isTupE t && (match it with
    | .Call (.Attribute o w ap) [] [] cp => decide (w = "items") && baseOk o && (ap.endLine == cp.line) && m [o]
    | _ => false)
  | .vals => (match it with
    | .Call (.Attribute o w ap) [] [] cp => decide (w = "values") && baseOk o && (ap.endLine == cp.line) && m [o]
    | _ => false)
def blkOf (Γ : Cn) (tg : Tg) : List (Str × Nat) := tg.slots.map fun i => (Γ.N.getD i "", i)
def Cn.inner (Γ : Cn) (scope : Scope) : Cn := { Γ with sc := relS scope Γ.sc, blk := some scope }
def kwNames : List Keyword → List Str
  | [] => []
  | ⟨some x, _, _⟩ :: r => x :: kwNames r
  | ⟨none, _, _⟩ :: r => kwNames r
def kwAll : List Keyword → Bool
  | [] => true
  | ⟨some _, _, _⟩ :: r => kwAll r
  | ⟨none, _, _⟩ :: _ => false
def kwVals : List Keyword → List Expr
  | [] => []
  | ⟨_, e, _⟩ :: r => e :: kwVals r

mutual
def mE : E → Cn → Expr → Bool
  | .var i, Γ, e => (match e with
    | .Name x _ => nameOk Γ i x
    | _ => false)
  | .peek i, Γ, e => (match e with
    | .Name x _ => nameOk Γ i x
    | _ => false)
  | .non, Γ, e => (match e with
    | .Constant .none _ _ => true
    | _ => false)
  | .bl b, Γ, e => (match e with
    | .Constant (.bool c) _ _ => b == c
    | _ => false)
  | .int i, Γ, e => (match e with
    | .Constant (.int j) _ _ => i == j
    | _ => false)
  | .str x, Γ, e => (match e with
    | .Constant (.str y) _ _ => decide (x = y)
    | _ => false)
  | .glob x z, Γ, e => (match e with
    | .Name y _ => decide (x = y) && glOk Γ x && (Γ.gl.any fun p => decide (p.1 = x) && eqK p.2 z)
    | _ => false)
  | .bin op a b, Γ, e => (match e with
    | .BinOp l op' r _ => decide (op = op') && mE a Γ l && mE b Γ r
    | _ => false)
  | .cmp op a b, Γ, e => (match e with
    | .Compare l [op'] [r] _ => decide (op = op') && mE a Γ l && mE b Γ r && !behindInMarks op r
    | _ => false)
  | .chain o1 o2 a b c, Γ, e => (match e with
    | .Compare l [p1, p2] [m, r] _ => decide (o1 = p1) && decide (o2 = p2) && mE a Γ l && mE b Γ m && mE c Γ r && !lastMarks [p1, p2] [m, r]
    | _ => false)
  | .neg a, Γ, e => (match e with
    | .UnaryOp .USub x _ => mE a Γ x
    | _ => false)
  | .not a, Γ, e => (match e with
    | .UnaryOp .Not x _ => mE a Γ x
    | _ => false)
  | .and a b, Γ, e => plain a && plain b && (match e with
    | .BoolOp .And (x :: y :: r) pos => mE a Γ x && (match r with
      | [] => mE b Γ y
      | _ :: _ => mE b Γ (.BoolOp .And (y :: r) pos))
    | _ => false)
  | .or a b, Γ, e => plain a && plain b && (match e with
    | .BoolOp .Or (x :: y :: r) pos => mE a Γ x && (match r with
      | [] => mE b Γ y
      | _ :: _ => mE b Γ (.BoolOp .Or (y :: r) pos))
    | _ => false)
  | .ite c a b, Γ, e => plain a && plain b && (match e with
    | .IfExp x y z _ => mE c Γ x && mE a Γ y && mE b Γ z
    | _ => false)
  | .bi f es, Γ, e => (match e with
    | .Call (.Name x _) (y :: r) [] _ => decide (x = biName f) && glOk Γ x && mEs es Γ (y :: r)
    | _ => false)
  | .isi a ts tup, Γ, e => (match e with
    | .Call (.Name x _) [y, c] [] _ => decide (x = "isinstance") && glOk Γ x && notStar y && mE a Γ y && (match tup, c with
      | true, .Tuple cs _ _ => tysOk Γ ts cs && decide (cs.length ≤ 8)
      | false, c => tysOk Γ ts [c]
      | _, _ => false)
    | _ => false)
  | .get a b, Γ, e => (match e with
    | .Subscript x y _ => mE a Γ x && mE b Γ y && notSlice y
    | _ => false)
  | .tget i b, Γ, e => (match e with
    | .Subscript (.Name x _) y _ => nameOk Γ i x && mE b Γ y && notSlice y
    | _ => false)
  | .slice a lo hi, Γ, e => (match e with
    | .Subscript x (.Slice l h none _) _ => mE a Γ x && (match l with
      | none => lo.gone
      | some l => !lo.gone && mE lo Γ l) && (match h with
      | none => hi.gone
      | some h => !hi.gone && mE hi Γ h)
    | _ => false)
  | .rev a, Γ, e => (match e with
    | .Subscript x (.Slice none none (some (.UnaryOp .USub (.Constant (.int 1) _ _) _)) _) _ => mE a Γ x
    | _ => false)
  | .sset a, Γ, e => (match e with
    | .Call (.Name x _) [.Call (.Name y _) [z] [] _] [] _ => decide (x = "sorted") && decide (y = "set") && glOk Γ "sorted" && glOk Γ "set" && notStar z && mE a Γ z
    | _ => false)
  | .lrg es, Γ, e => (match e with
    | .Call (.Name x _) [.Call (.Name y _) args [] _] [] _ => decide (x = "list") && decide (y = "range") && glOk Γ "list" && glOk Γ "range" && decide (args.length = 1 ∨ args.length = 2) && mEs es Γ args
    | _ => false)
  | .lst es, Γ, e => (match e with
    | .List xs _ => mIs es Γ xs
    | _ => false)
  | .tup es, Γ, e => (match e with
    | .Tuple xs _ _ => mIs es Γ xs
    | _ => false)
  | .star _, _, _ => false
  | .call f es, Γ, e => (match e with
    | .Call (.Name x _) args [] _ => fnAny Γ f x && glOk Γ x && mDs es Γ args
    | _ => false)
  | .callN f es, Γ, e => (match e with
    | .Call (.Name x _) args [] _ => fnIs Γ f x false true && glOk Γ x && mDs es Γ args
    | _ => false)
  | .callK f perm es ks, Γ, e => (match e with
    | .Call (.Name x _) args kws _ => fnAny Γ f x && glOk Γ x && kwAll kws && mDs es Γ args && mDs ks Γ (kwVals kws) && decide ((⟨f, es.length, kwNames kws, perm⟩ : Kw) ∈ Γ.kw)
    | _ => false)
  | .callT f i es, Γ, e => (match e with
    | .Call (.Name x _) (.Name y _ :: args) [] _ => fnIs Γ f x true false && glOk Γ x && nameOk Γ i y && mDs es Γ args
    | _ => false)
  | .callR f a es, Γ, e => (match e with
    | .Call (.Name x _) (y :: args) [] _ => fnIs Γ f x true false && glOk Γ x && notStar y && decide (kdOf a = .fresh) && mE a Γ y && mDs es Γ args
    | _ => false)
  | .callI fs ix es, Γ, e => (match e with
    | .Call (.Subscript (.List ns _) y _) (a :: args) [] _ => mFs Γ fs ns && decide (ns.length ≤ 8) && mE ix Γ y && notSlice y && mDs es Γ (a :: args)
    | _ => false)
  | .dic0, _, e => (match e with
    | .Dict [] [] _ => true
    | _ => false)
  | .dic1 a b, Γ, e => (match e with
    | .Dict [some k] [v] _ => plain a && plain b && mE a Γ k && mE b Γ v
    | _ => false)
  | .dget a k x, Γ, e => (match e with
    | .Call (.Attribute o m ap) [y, z] [] cp => decide (m = "get") && baseOk o && notStar y && notStar z && (ap.endLine == cp.line) && plain x && mE a Γ o && mE k Γ y && mE x Γ z
    | _ => false)
  | .sitm a, Γ, e => (match e with
    | .Call (.Name x _) [.Call (.Attribute o m ap) [] [] cp] [] _ => decide (x = "sorted") && decide (m = "items") && glOk Γ "sorted" && baseOk o && (ap.endLine == cp.line) && mE a Γ o
    | _ => false)
  | .idx a b, Γ, e => (match e with
    | .Call (.Attribute o m ap) [y] [] cp => decide (m = "index") && baseOk o && notStar y && (ap.endLine == cp.line) && mE a Γ o && mE b Γ y
    | _ => false)
  | .comp elt tg ik src cond, Γ, e => (match e with
    | .ListComp el [⟨t, it, ifs, 0⟩] scope _ => plain elt && blkC Γ.N Γ.sc scope (blkOf Γ tg) && mTg (Γ.inner scope) tg t && notSet it && decide (tg.slots.all (fun i => decide (i < Γ.N.length)) = true) &&
      mE elt (Γ.inner scope) el && (match ifs with
      | [] => cond.gone
      | [c] => !cond.gone && mE cond (Γ.inner scope) c
      | _ => false) && srcB ik Γ t it (fun xs => mEs src Γ xs) (fun xs => mEs src Γ xs)
    | _ => false)
  | .comp2 elt tg ik src cond tg1 ik1 src1 cond1, Γ, e => (match e with
    | .ListComp el [⟨t, it, ifs, 0⟩, ⟨t1, it1, ifs1, 0⟩] scope _ => plain elt && blkC Γ.N Γ.sc scope (blkOf2 Γ tg tg1) && mTg (Γ.inner scope) tg t && mTg (Γ.inner scope) tg1 t1 && notSet it && notSet it1 && decide ((tg.slots ++ tg1.slots).all (fun i => decide (i < Γ.N.length)) = true) &&
      mE elt (Γ.inner scope) el && (match ifs with
      | [] => cond.gone
      | [c] => !cond.gone && mE cond (Γ.inner scope) c
      | _ => false) && (match ifs1 with
      | [] => cond1.gone
      | [c] => !cond1.gone && mE cond1 (Γ.inner scope) c
      | _ => false) && srcB ik Γ t it (fun xs => mEs src Γ xs) (fun xs => mEs src Γ xs) && srcB ik1 (Γ.inner scope) t1 it1 (fun xs => mDs src1 (Γ.inner scope) xs) (fun xs => mEs src1 (Γ.inner scope) xs)
    | _ => false)
  | .dcomp ke ve tg ik src cond, Γ, e => (match e with
    | .DictComp kx vx [⟨t, it, ifs, 0⟩] scope _ => plain ke && plain ve && blkC Γ.N Γ.sc scope (blkOf Γ tg) && mTg (Γ.inner scope) tg t && notSet it && decide (tg.slots.all (fun i => decide (i < Γ.N.length)) = true) &&
      mE ke (Γ.inner scope) kx && mE ve (Γ.inner scope) vx && (match ifs with
      | [] => cond.gone
      | [c] => !cond.gone && mE cond (Γ.inner scope) c
      | _ => false) && srcB ik Γ t it (fun xs => mEs src Γ xs) (fun xs => mEs src Γ xs)
    | _ => false)
  | .absent, _, _ => false
/-- arguments that are read -/
def mEs : List E → Cn → List Expr → Bool
  | [], _, xs => xs.isEmpty
  | t :: r, Γ, xs => (match xs with
    | x :: q => notStar x && mE t Γ x && mEs r Γ q
    | [] => false)
/-- arguments that are kept -/
def mDs : List E → Cn → List Expr → Bool
  | [], _, xs => xs.isEmpty
  | t :: r, Γ, xs => (match xs with
    | x :: q => notStar x && plain t && mE t Γ x && mDs r Γ q
    | [] => false)
/-- the members of a display -/
def mIs : List E → Cn → List Expr → Bool
  | [], _, xs => xs.isEmpty
  | .star t :: r, Γ, xs => (match xs with
    | .Starred x _ :: q => mE t Γ x && mIs r Γ q
    | _ => false)
  | t :: r, Γ, xs => (match xs with
    | x :: q => notStar x && plain t && mE t Γ x && mIs r Γ q
    | [] => false)
end

/-! ### promises -/
def TinOk (K : Fg) (ta : Option Addr) (G H : Hp) (τ : List D) : Prop := ∀ a, ta = some a → G a = none ∧ ∃ vs, H a = some (.lst vs) ∧ DRs K G vs τ
def spF (K : Fg) (C : Nat → List D → M D) (i : Nat) (tin fr : Bool) : Sp := fun vs H Q _ =>
  ∃ G ta ws ds τ d τ', Same G H ∧ TinOk K ta G H τ ∧ (match tin with
    | true => ∃ a, ta = some a ∧ vs = .ref a :: ws
    | false => ta = none ∧ vs = ws) ∧ DRs K G ws ds ∧ C i ds τ = some (d, τ') ∧
   ∀ v G' H', Ext ta G H G' H' → Same G' H' → TinOk K ta G' H' τ' → Val K ta H G' H' (if fr then .fresh else .dat) v d → Q v H'
instance : Inhabited V := ⟨.non⟩
def gP {α : Type} [Inhabited α] (p : Kw) (us ws : List α) : List α := if us.length = p.np ∧ ws.length = p.ks.length then permL p.perm (us ++ ws) else []
/-- a name of the module that holds a number, a text -/
def GlV (mg : Str → Option Value) (p : Str × D) : Prop := (∃ z t, p.2 = .str z ∧ mg p.1 = some (.str z t)) ∨ ∃ i t, p.2 = .int i ∧ mg p.1 = some (.int i t)
/-- an error as it lies: its class, its dict -/
def ExcR (K : Fg) (mg : Str → Option Value) (xs : List Nat) (G H : Hp) (cls : Value) (d : Option Addr) (x : Exn) : Prop := x.c ∈ xs ∧ ∃ C k, cls = .ref C ∧ xcs[x.c]? = some k ∧ mg k.name = some (.ref C) ∧ (match k.fld with
  | none => d = none
  | some f => ∃ dd v, d = some dd ∧ H dd = some (.xd [(f, v)]) ∧ DR K G v x.v)
/-- a def that ends in an error -/
def spR (K : Fg) (mg : Str → Option Value) (xs : List Nat) (C : Nat → List D → M D) (i : Nat) : Sp := fun vs H _ E =>
  ∃ G ds x y τ', Same G H ∧ DRs K G vs ds ∧ C (XB + i) ds [] = some (y, τ') ∧ exDec y = some x ∧ ∀ cls d G' H', Ext none G H G' H' → Same G' H' → ExcR K mg xs G' H' cls d x → E cls d H'
/-- what the written part says of an error's class, at C -/
structure XcOk (prog : Program) (K : Fg) (mg : Str → Option Value) (k : Xc) (C : Addr) : Prop where
  gC : mg k.name = some (.ref C)
  kC : PySem.W.keepIn K (.ref C) = true
  bC : PySem.W.subIn K (.ref C) (.type "BaseException") = some true
  tC : PySem.W.typeIn K (.ref C) = some (.type "type")
  eC : ExcC K C
  xf : XfC K C
  mak : match k.fld with
    | none => ∃ B newId initId bmB, ExcBaseFacts B newId initId bmB ∧ PySem.W.excIn K C bmB newId = true
    | some f => PySem.W.findIn K (.ref C) f = some none ∧ ∃ fI B newId initId bmB cda cc nm qual params scope y sf, IniC prog K C fI f B newId initId bmB cda cc nm qual params scope y sf
  kit : ∀ T ∈ (["LookupError", "ValueError"] : List String), PySem.W.kitOne K (.ref C) (.type T) = some (k.base == T)
structure XsOk (prog : Program) (K : Fg) (mg : Str → Option Value) (xs : List Nat) : Prop where
  ex : ∃ ad : Nat → Addr, ∀ c ∈ xs, (∃ k, xcs[c]? = some k ∧ XcOk prog K mg k (ad c)) ∧ ∀ c' ∈ xs, PySem.W.exmOne K (.ref (ad c)) (.ref (ad c')) = some (decide (c = c'))
structure XOk (Γ : Cn) (n : Nat) (X : Cx) : Prop where
  N : X.N = Γ.N
  nd : X.N.Nodup
  sc : X.env.scope = Γ.sc
  fn : X.fn = (match Γ.blk with
    | none => fun _ => true
    | some s => fun x => s.names.lookup x == some .cell)
  calm : X.calm = true
  room : Room n X.A
  bi : ∀ x ∈ biL, X.mg x = none
  gl : ∀ p ∈ Γ.gl, GlV X.mg p
  fns : ∀ (i : Nat) (F : Fn), Γ.T.lookup i = some F → ∃ f fd, X.mg F.name = some (.ref f) ∧ PySem.W.keepIn X.K (.ref f) = true ∧ Binds X.K fd F.ps [] ∧
    FnOk X.prog X.w X.K X.mg X.base CX0 n f fd F.ps (spF X.K (callF Γ.B n) i F.tin F.fresh) ∧ ∀ p ∈ Γ.kw, p.f = i → KBinds X.K fd F.ps p.ks (gP p) (gP p)
  fnx : ∀ (i : Nat) (F : Fn), Γ.T.lookup i = some F → F.tin = false → ∃ f fd, X.mg F.name = some (.ref f) ∧ PySem.W.keepIn X.K (.ref f) = true ∧ Binds X.K fd F.ps [] ∧
    FnOk X.prog X.w X.K X.mg X.base (L2.CX X.prog X.w) n f fd F.ps (spR X.K X.mg Γ.xs (callF Γ.B n) i)
  xok : XsOk X.prog X.K X.mg Γ.xs
end KN

set_option maxRecDepth 100000
set_option maxHeartbeats 1000000
set_option autoImplicit true
set_option relaxedAutoImplicit true
namespace KN
open PySem L2 PyProof.Rows
/-! ### the matching, clause by clause (printed by a program) -/
theorem mE_var : mE (.var i : E) Γ e = ((match e with
    | .Name x _ => nameOk Γ i x
    | _ => false)) := rfl
theorem mE_peek : mE (.peek i : E) Γ e = ((match e with
    | .Name x _ => nameOk Γ i x
    | _ => false)) := rfl
theorem mE_non : mE (.non : E) Γ e = ((match e with
    | .Constant .none _ _ => true
    | _ => false)) := rfl
theorem mE_bl : mE (.bl b : E) Γ e = ((match e with
    | .Constant (.bool c) _ _ => b == c
    | _ => false)) := rfl
theorem mE_int : mE (.int i : E) Γ e = ((match e with
    | .Constant (.int j) _ _ => i == j
    | _ => false)) := rfl
theorem mE_str : mE (.str x : E) Γ e = ((match e with
    | .Constant (.str y) _ _ => decide (x = y)
    | _ => false)) := rfl
theorem mE_glob : mE (.glob x z : E) Γ e = ((match e with
    | .Name y _ => decide (x = y) && glOk Γ x && (Γ.gl.any fun p => decide (p.1 = x) && eqK p.2 z)
    | _ => false)) := rfl
theorem mE_bin : mE (.bin op a b : E) Γ e = ((match e with
    | .BinOp l op' r _ => decide (op = op') && mE a Γ l && mE b Γ r
    | _ => false)) := rfl
theorem mE_cmp : mE (.cmp op a b : E) Γ e = ((match e with
    | .Compare l [op'] [r] _ => decide (op = op') && mE a Γ l && mE b Γ r && !behindInMarks op r
    | _ => false)) := rfl
theorem mE_chain : mE (.chain o1 o2 a b c : E) Γ e = ((match e with
    | .Compare l [p1, p2] [m, r] _ => decide (o1 = p1) && decide (o2 = p2) && mE a Γ l && mE b Γ m && mE c Γ r && !lastMarks [p1, p2] [m, r]
    | _ => false)) := rfl
theorem mE_neg : mE (.neg a : E) Γ e = ((match e with
    | .UnaryOp .USub x _ => mE a Γ x
    | _ => false)) := rfl
theorem mE_not : mE (.not a : E) Γ e = ((match e with
    | .UnaryOp .Not x _ => mE a Γ x
    | _ => false)) := rfl
theorem mE_and : mE (.and a b : E) Γ e = (plain a && plain b && (match e with
    | .BoolOp .And (x :: y :: r) pos => mE a Γ x && (match r with
      | [] => mE b Γ y
      | _ :: _ => mE b Γ (.BoolOp .And (y :: r) pos))
    | _ => false)) := rfl
theorem mE_or : mE (.or a b : E) Γ e = (plain a && plain b && (match e with
    | .BoolOp .Or (x :: y :: r) pos => mE a Γ x && (match r with
      | [] => mE b Γ y
      | _ :: _ => mE b Γ (.BoolOp .Or (y :: r) pos))
    | _ => false)) := rfl
theorem mE_ite : mE (.ite c a b : E) Γ e = (plain a && plain b && (match e with
    | .IfExp x y z _ => mE c Γ x && mE a Γ y && mE b Γ z
    | _ => false)) := rfl
theorem mE_bi : mE (.bi f es : E) Γ e = ((match e with
    | .Call (.Name x _) (y :: r) [] _ => decide (x = biName f) && glOk Γ x && mEs es Γ (y :: r)
    | _ => false)) := rfl
theorem mE_isi : mE (.isi a ts tup : E) Γ e = ((match e with
    | .Call (.Name x _) [y, c] [] _ => decide (x = "isinstance") && glOk Γ x && notStar y && mE a Γ y && (match tup, c with
      | true, .Tuple cs _ _ => tysOk Γ ts cs && decide (cs.length ≤ 8)
      | false, c => tysOk Γ ts [c]
      | _, _ => false)
    | _ => false)) := rfl
theorem mE_get : mE (.get a b : E) Γ e = ((match e with
    | .Subscript x y _ => mE a Γ x && mE b Γ y && notSlice y
    | _ => false)) := rfl
theorem mE_tget : mE (.tget i b : E) Γ e = ((match e with
    | .Subscript (.Name x _) y _ => nameOk Γ i x && mE b Γ y && notSlice y
    | _ => false)) := rfl
theorem mE_slice {lo hi : E} : mE (.slice a lo hi : E) Γ e = ((match e with
    | .Subscript x (.Slice l h none _) _ => mE a Γ x && (match l with
      | none => lo.gone
      | some l => !lo.gone && mE lo Γ l) && (match h with
      | none => hi.gone
      | some h => !hi.gone && mE hi Γ h)
    | _ => false)) := rfl
theorem mE_rev : mE (.rev a : E) Γ e = ((match e with
    | .Subscript x (.Slice none none (some (.UnaryOp .USub (.Constant (.int 1) _ _) _)) _) _ => mE a Γ x
    | _ => false)) := rfl
theorem mE_sset : mE (.sset a : E) Γ e = ((match e with
    | .Call (.Name x _) [.Call (.Name y _) [z] [] _] [] _ => decide (x = "sorted") && decide (y = "set") && glOk Γ "sorted" && glOk Γ "set" && notStar z && mE a Γ z
    | _ => false)) := rfl
theorem mE_lrg : mE (.lrg es : E) Γ e = ((match e with
    | .Call (.Name x _) [.Call (.Name y _) args [] _] [] _ => decide (x = "list") && decide (y = "range") && glOk Γ "list" && glOk Γ "range" && decide (args.length = 1 ∨ args.length = 2) && mEs es Γ args
    | _ => false)) := rfl
theorem mE_lst : mE (.lst es : E) Γ e = ((match e with
    | .List xs _ => mIs es Γ xs
    | _ => false)) := rfl
theorem mE_tup : mE (.tup es : E) Γ e = ((match e with
    | .Tuple xs _ _ => mIs es Γ xs
    | _ => false)) := rfl
theorem mE_star : mE (.star w1 : E) w2 w3 = (false) := rfl
theorem mE_call : mE (.call f es : E) Γ e = ((match e with
    | .Call (.Name x _) args [] _ => fnAny Γ f x && glOk Γ x && mDs es Γ args
    | _ => false)) := rfl
theorem mE_callN : mE (.callN f es : E) Γ e = ((match e with
    | .Call (.Name x _) args [] _ => fnIs Γ f x false true && glOk Γ x && mDs es Γ args
    | _ => false)) := rfl
theorem mE_callK : mE (.callK f perm es ks : E) Γ e = ((match e with
    | .Call (.Name x _) args kws _ => fnAny Γ f x && glOk Γ x && kwAll kws && mDs es Γ args && mDs ks Γ (kwVals kws) && decide ((⟨f, es.length, kwNames kws, perm⟩ : Kw) ∈ Γ.kw)
    | _ => false)) := rfl
theorem mE_callT : mE (.callT f i es : E) Γ e = ((match e with
    | .Call (.Name x _) (.Name y _ :: args) [] _ => fnIs Γ f x true false && glOk Γ x && nameOk Γ i y && mDs es Γ args
    | _ => false)) := rfl
theorem mE_callR : mE (.callR f a es : E) Γ e = ((match e with
    | .Call (.Name x _) (y :: args) [] _ => fnIs Γ f x true false && glOk Γ x && notStar y && decide (kdOf a = .fresh) && mE a Γ y && mDs es Γ args
    | _ => false)) := rfl
theorem mE_callI : mE (.callI fs ix es : E) Γ e = ((match e with
    | .Call (.Subscript (.List ns _) y _) (a :: args) [] _ => mFs Γ fs ns && decide (ns.length ≤ 8) && mE ix Γ y && notSlice y && mDs es Γ (a :: args)
    | _ => false)) := rfl
theorem mE_dic0 : mE (.dic0 : E) w1 e = ((match e with
    | .Dict [] [] _ => true
    | _ => false)) := rfl
theorem mE_dic1 : mE (.dic1 a b : E) Γ e = ((match e with
    | .Dict [some k] [v] _ => plain a && plain b && mE a Γ k && mE b Γ v
    | _ => false)) := rfl
theorem mE_dget : mE (.dget a k x : E) Γ e = ((match e with
    | .Call (.Attribute o m ap) [y, z] [] cp => decide (m = "get") && baseOk o && notStar y && notStar z && (ap.endLine == cp.line) && plain x && mE a Γ o && mE k Γ y && mE x Γ z
    | _ => false)) := rfl
theorem mE_sitm : mE (.sitm a : E) Γ e = ((match e with
    | .Call (.Name x _) [.Call (.Attribute o m ap) [] [] cp] [] _ => decide (x = "sorted") && decide (m = "items") && glOk Γ "sorted" && baseOk o && (ap.endLine == cp.line) && mE a Γ o
    | _ => false)) := rfl
theorem mE_idx : mE (.idx a b : E) Γ e = ((match e with
    | .Call (.Attribute o m ap) [y] [] cp => decide (m = "index") && baseOk o && notStar y && (ap.endLine == cp.line) && mE a Γ o && mE b Γ y
    | _ => false)) := rfl
theorem mE_comp {cond : E} : mE (.comp elt tg ik src cond : E) Γ e = ((match e with
    | .ListComp el [⟨t, it, ifs, 0⟩] scope _ => plain elt && blkC Γ.N Γ.sc scope (blkOf Γ tg) && mTg (Γ.inner scope) tg t && notSet it && decide (tg.slots.all (fun i => decide (i < Γ.N.length)) = true) &&
      mE elt (Γ.inner scope) el && (match ifs with
      | [] => cond.gone
      | [c] => !cond.gone && mE cond (Γ.inner scope) c
      | _ => false) && srcB ik Γ t it (fun xs => mEs src Γ xs) (fun xs => mEs src Γ xs)
    | _ => false)) := rfl
theorem mE_comp2 {cond cond1 : E} : mE (.comp2 elt tg ik src cond tg1 ik1 src1 cond1 : E) Γ e = ((match e with
    | .ListComp el [⟨t, it, ifs, 0⟩, ⟨t1, it1, ifs1, 0⟩] scope _ => plain elt && blkC Γ.N Γ.sc scope (blkOf2 Γ tg tg1) && mTg (Γ.inner scope) tg t && mTg (Γ.inner scope) tg1 t1 && notSet it && notSet it1 && decide ((tg.slots ++ tg1.slots).all (fun i => decide (i < Γ.N.length)) = true) &&
      mE elt (Γ.inner scope) el && (match ifs with
      | [] => cond.gone
      | [c] => !cond.gone && mE cond (Γ.inner scope) c
      | _ => false) && (match ifs1 with
      | [] => cond1.gone
      | [c] => !cond1.gone && mE cond1 (Γ.inner scope) c
      | _ => false) && srcB ik Γ t it (fun xs => mEs src Γ xs) (fun xs => mEs src Γ xs) && srcB ik1 (Γ.inner scope) t1 it1 (fun xs => mDs src1 (Γ.inner scope) xs) (fun xs => mEs src1 (Γ.inner scope) xs)
    | _ => false)) := rfl
theorem mE_dcomp {cond : E} : mE (.dcomp ke ve tg ik src cond : E) Γ e = ((match e with
    | .DictComp kx vx [⟨t, it, ifs, 0⟩] scope _ => plain ke && plain ve && blkC Γ.N Γ.sc scope (blkOf Γ tg) && mTg (Γ.inner scope) tg t && notSet it && decide (tg.slots.all (fun i => decide (i < Γ.N.length)) = true) &&
      mE ke (Γ.inner scope) kx && mE ve (Γ.inner scope) vx && (match ifs with
      | [] => cond.gone
      | [c] => !cond.gone && mE cond (Γ.inner scope) c
      | _ => false) && srcB ik Γ t it (fun xs => mEs src Γ xs) (fun xs => mEs src Γ xs)
    | _ => false)) := rfl
theorem mE_absent : mE (.absent : E) w1 w2 = (false) := rfl
theorem mEs_nil : mEs ([] : List E) w1 xs = (xs.isEmpty) := rfl
theorem mEs_cons : mEs (t :: r) Γ xs = ((match xs with
    | x :: q => notStar x && mE t Γ x && mEs r Γ q
    | [] => false)) := rfl
theorem mDs_nil : mDs ([] : List E) w1 xs = (xs.isEmpty) := rfl
theorem mDs_cons : mDs (t :: r) Γ xs = ((match xs with
    | x :: q => notStar x && plain t && mE t Γ x && mDs r Γ q
    | [] => false)) := rfl
theorem mIs_nil : mIs ([] : List E) w1 xs = (xs.isEmpty) := rfl
theorem mIs_star : mIs (.star t :: r) Γ xs = ((match xs with
    | .Starred x _ :: q => mE t Γ x && mIs r Γ q
    | _ => false)) := rfl
end KN

set_option maxRecDepth 100000
set_option maxHeartbeats 1000000
namespace KN
open PySem L2 PyProof.Rows

/-! ### steps of the evaluator, taken apart -/
theorem bnd_some {α β : Type} {x : M α} {f : α → M β} {τ : List D} {r : β × List D} (h : x.bnd f τ = some r) : ∃ a τ1, x τ = some (a, τ1) ∧ f a τ1 = some r := by
  unfold M.bnd at h
  cases e : x τ with
  | none => rw [e] at h; cases h
  | some p =>
    obtain ⟨a, τ1⟩ := p
    rw [e] at h
    exact ⟨a, τ1, rfl, h⟩
theorem of_some {α : Type} {o : Option α} {τ τ' : List D} {a : α} (h : M.of o τ = some (a, τ')) : o = some a ∧ τ' = τ := by
  unfold M.of at h
  cases o with
  | none => cases h
  | some b => cases h; exact ⟨rfl, rfl⟩
theorem ret_some {α : Type} {a b : α} {τ τ' : List D} (h : M.ret a τ = some (b, τ')) : (b, τ') = (a, τ) := by
  cases h; rfl

section
variable {K : Fg} {ta : Option Addr} {C : Nat → List D → M D} {G G1 G2 G3 H H1 H2 H3 H' : Hp} {σ : L2.St} {ρ : En} {τ τ' : List D} {v : V} {d : D} {k : Kd} {Q : VK}
theorem Ext.weak (x : Ext none G H G1 H1) : Ext ta G H G1 H1 := ⟨x.g, x.new, fun b o _ h => x.keep b o (by simp) h, x.there⟩
theorem Ext.none_of (x : Ext ta G H G1 H1) {b : Addr} (h : H1 b = none) : H b = none := by
  cases q : H b with
  | none => rfl
  | some o =>
    obtain ⟨o', e⟩ := x.there b o q
    rw [h] at e; cases e
theorem Rel.step (R : Rel K ta G σ H ρ τ) (x : Ext none G H G1 H1) (s : Same G1 H1) : Rel K ta G1 σ H1 ρ τ :=
  R.ext' x.weak s fun a e => by
    obtain ⟨_, vs, h, _⟩ := R.tin a e
    rw [h, x.keep a _ (by simp) h]
theorem View.weak (h : View K ta G H v d) : View K none G H v d := by
  rcases h with h | ⟨a, vs, ds, h1, h2, h3, h4, h5⟩
  · exact .inl h
  · exact .inr ⟨a, vs, ds, h1, h2, by simp, h4, h5⟩
theorem Views.weak : ∀ {vs : List V} {ds : List D}, Views K ta G H vs ds → Views K none G H vs ds
  | _, _, .nil => .nil
  | _, _, .cons h r => .cons h.weak (Views.weak r)
theorem Val.back (R : Rel K ta G2 σ H2 ρ τ) (x : Ext ta G H G2 H2) (h : Val K none H2 G3 H3 k v d) (hk : k ≠ .peek := by decide) : Val K ta H G3 H3 k v d := by
  cases k with
  | dat => exact h
  | peek => exact absurd rfl hk
  | fresh =>
    rcases h with h | ⟨a, vs, ds, h1, h2, h3, _, h4, h5, h6⟩
    · exact .inl h
    · refine .inr ⟨a, vs, ds, h1, h2, x.none_of h3, fun e => ?_, h4, h5, h6⟩
      obtain ⟨_, ws, q, _⟩ := R.tin a e
      rw [h3] at q; cases q
/-- the end of an operation on values -/
theorem op_end (R : Rel K ta G2 σ H2 ρ τ) (x : Ext ta G H G2 H2) (q : ∀ v G' H', Ext ta G H G' H' → Rel K ta G' σ H' ρ τ → Val K ta H G' H' k v d → Q v H') (hk : k ≠ .peek := by decide) :
    ∀ v G' H', Ext none G2 H2 G' H' → Same G' H' → Val K none H2 G' H' k v d → Q v H' :=
  fun v G' H' x' s' h => q v G' H' (x.trans x'.weak) (R.step x' s') (h.back R x hk)
theorem Val.dr_of (h : DR K G v d) (n : still d = true) (hk : k ≠ .peek := by decide) : Val K ta H₀ G H k v d := by
  cases k with
  | dat => exact h
  | fresh => exact .inl ⟨h, n⟩
  | peek => exact absurd rfl hk

variable {X : Cx} {a b c : E} {l r m : Expr} {pos : Pos}
theorem rd_bin {op : Operator} {ka kb : Kd} (ha : PE X l (tE X.K ta C ka a)) (hb : PE X r (tE X.K ta C kb b)) : PE X (.BinOp l op r pos) (tE X.K ta C .fresh (.bin op a b)) :=
  PE.mono (pe_op (op_binD op) ha hb) fun σ H Q h => by
    obtain ⟨G, ρ, τ, d, τ', R, e, q⟩ := h
    obtain ⟨x, τ1, e1, e_1⟩ := bnd_some (x := evE C a ρ) e
    obtain ⟨y, τ2, e2, e_2⟩ := bnd_some (x := evE C b ρ) e_1
    obtain ⟨e3, rfl⟩ := of_some e_2
    refine ⟨G, ρ, τ, x, τ1, R, e1, fun v1 G1 H1 x1 R1 w1 => ⟨G1, ρ, τ1, y, _, R1, e2, fun v2 G2 H2 x2 R2 w2 => ?_⟩⟩
    exact ⟨G2, x, y, d, R2.sub, ((w1.view).ext x2).weak, w2.view.weak, e3, op_end R2 (x1.trans x2) q⟩
theorem rd_cmp {op : CmpOp} {ka kb : Kd} (hu : X.A.units + 64 < cLine) (ha : PE X l (tE X.K ta C ka a)) (hb : PE X r (tE X.K ta C kb b)) (hm : behindInMarks op r = false) : PE X (.Compare l [op] [r] pos) (tE X.K ta C .dat (.cmp op a b)) :=
  PE.mono (pe_cmpR (op_cmpD op hu) ha hb hm) fun σ H Q h => by
    obtain ⟨G, ρ, τ, d, τ', R, e, q⟩ := h
    obtain ⟨x, τ1, e1, e_1⟩ := bnd_some (x := evE C a ρ) e
    obtain ⟨y, τ2, e2, e_2⟩ := bnd_some (x := evE C b ρ) e_1
    obtain ⟨e3, rfl⟩ := of_some e_2
    refine ⟨G, ρ, τ, x, τ1, R, e1, fun v1 G1 H1 x1 R1 w1 => ⟨G1, ρ, τ1, y, _, R1, e2, fun v2 G2 H2 x2 R2 w2 => ?_⟩⟩
    exact ⟨G2, x, y, d, R2.sub, ((w1.view).ext x2).weak, w2.view.weak, e3, op_end R2 (x1.trans x2) q⟩
theorem cmp_bool {op : CmpOp} {x y d : D} (h : cmpD op x y = some d) : ∃ k, d = .bool k := by
  have m : ∀ {o : Option Bool} {f : Bool → D}, (∀ b, ∃ k, f b = .bool k) → o.map f = some d → ∃ k, d = .bool k := fun {o f} hf e => by
    obtain ⟨b, _, rfl⟩ := Option.map_eq_some_iff.mp e
    exact hf b
  cases op with
  | Lt => exact m (fun b => ⟨_, rfl⟩) (show (ltD x y).map PyData.bool = some d from h)
  | LtE => exact m (fun b => ⟨_, rfl⟩) (show (ltD y x).map (fun k => PyData.bool !k) = some d from h)
  | Gt => exact m (fun b => ⟨_, rfl⟩) (show (ltD y x).map PyData.bool = some d from h)
  | GtE => exact m (fun b => ⟨_, rfl⟩) (show (ltD x y).map (fun k => PyData.bool !k) = some d from h)
  | Eq =>
    simp only [cmpD] at h
    split at h
    · cases h; exact ⟨_, rfl⟩
    · cases h
  | NotEq =>
    simp only [cmpD] at h
    split at h
    · cases h; exact ⟨_, rfl⟩
    · cases h
  | Is => cases y <;> first | (cases h; exact ⟨_, rfl⟩) | (cases x <;> cases h)
  | IsNot => cases y <;> first | (cases h; exact ⟨_, rfl⟩) | (cases x <;> cases h)
  | In =>
    have sq : ∀ {ys : List D}, inSeq false x ys = some d → ∃ k, d = .bool k := fun {ys} h => by
      unfold inSeq at h
      split at h
      · cases h; exact ⟨_, rfl⟩
      · cases h
    cases y with
    | list ys => exact sq (by cases x <;> exact h)
    | tuple ys => exact sq (by cases x <;> exact h)
    | dict ys =>
      cases x with
      | int i => cases h; exact ⟨_, rfl⟩
      | str i => cases h; exact ⟨_, rfl⟩
      | _ => cases h
    | str z =>
      cases x with
      | str w =>
        simp only [cmpD] at h
        split at h
        · cases h; exact ⟨_, rfl⟩
        · cases h
      | _ => cases h
    | _ => cases x <;> cases h
  | NotIn =>
    have sq : ∀ {ys : List D}, inSeq true x ys = some d → ∃ k, d = .bool k := fun {ys} h => by
      unfold inSeq at h
      split at h
      · cases h; exact ⟨_, rfl⟩
      · cases h
    cases y with
    | list ys => exact sq (by cases x <;> exact h)
    | tuple ys => exact sq (by cases x <;> exact h)
    | dict ys =>
      cases x with
      | int i => cases h; exact ⟨_, rfl⟩
      | str i => cases h; exact ⟨_, rfl⟩
      | _ => cases h
    | str z =>
      cases x with
      | str w =>
        simp only [cmpD] at h
        split at h
        · cases h; exact ⟨_, rfl⟩
        · cases h
      | _ => cases h
    | _ => cases x <;> cases h
theorem rt_cmp {op : CmpOp} {ka kb : Kd} (hu : X.A.units + 64 < cLine) (ha : PE X l (tE X.K ta C ka a)) (hb : PE X r (tE X.K ta C kb b)) (hm : behindInMarks op r = false) : PT X (.Compare l [op] [r] pos) (tT X.K ta C (.cmp op a b)) :=
  PT.mono (pt_cmpR (op_cmpD op hu) ha hb hm) fun σ H Q h => by
    obtain ⟨G, ρ, τ, d, τ', R, e, q⟩ := h
    obtain ⟨z, τ3, e, et⟩ := bnd_some (x := evE C (.cmp op a b) ρ) e
    obtain ⟨x, τ1, e1, e_1⟩ := bnd_some (x := evE C a ρ) e
    obtain ⟨y, τ2, e2, e_2⟩ := bnd_some (x := evE C b ρ) e_1
    obtain ⟨e3, rfl⟩ := of_some e_2
    obtain ⟨et_3, rfl⟩ := of_some et
    refine ⟨G, ρ, τ, x, τ1, R, e1, fun v1 G1 H1 x1 R1 w1 => ⟨G1, ρ, τ1, y, _, R1, e2, fun v2 G2 H2 x2 R2 w2 => ?_⟩⟩
    obtain ⟨k, rfl⟩ := cmp_bool e3
    refine ⟨G2, x, y, _, R2.sub, ((w1.view).ext x2).weak, w2.view.weak, e3, fun v G' H' x' s' w' => ?_⟩
    cases et_3
    cases w'
    exact ⟨_, rfl, q G' H' ((x1.trans x2).trans x'.weak) (R2.step x' s')⟩
theorem rd_chain {o1 o2 : CmpOp} {ka kb kc : Kd} (hu : X.A.units + 64 < cLine) (ha : PE X l (tE X.K ta C ka a)) (hb : PE X m (tE X.K ta C kb b)) (hc : PE X r (tE X.K ta C kc c)) (hm : lastMarks [o1, o2] [m, r] = false) :
    PE X (.Compare l [o1, o2] [m, r] pos) (tE X.K ta C .dat (.chain o1 o2 a b c)) :=
  PE.mono (pe_chain (op_cmpD o1 hu) (op_cmpD o2 hu) ha hb hc hm) fun σ H Q h => by
    obtain ⟨G, ρ, τ, d, τ', R, e, q⟩ := h
    obtain ⟨x, τ1, e1, e_1⟩ := bnd_some (x := evE C a ρ) e
    obtain ⟨y, τ2, e2, e_2⟩ := bnd_some (x := evE C b ρ) e_1
    obtain ⟨z, τ3, e3, e_3⟩ := bnd_some e_2
    obtain ⟨e3_4, rfl⟩ := of_some e3
    refine ⟨G, ρ, τ, x, τ1, R, e1, fun v1 G1 H1 x1 R1 w1 => ⟨G1, ρ, τ1, y, _, R1, e2, fun v2 G2 H2 x2 R2 w2 => ?_⟩⟩
    obtain ⟨k, rfl⟩ := cmp_bool e3_4
    refine ⟨G2, x, y, _, R2.sub, ((w1.view).ext x2).weak, w2.view.weak, e3_4, fun v G' H' x' s' w' => ?_⟩
    cases w'
    have R3 := R2.step x' s'
    cases k with
    | true =>
      obtain ⟨u, τ4, e4, e_5⟩ := bnd_some (x := evE C c ρ) e_3
      obtain ⟨e5, rfl⟩ := of_some e_5
      refine ⟨true, rfl, iteT ⟨G', ρ, _, u, _, R3, e4, fun v3 G3 H3 x3 R4 w3 => ?_⟩⟩
      exact ⟨G3, y, u, d, R4.sub, ((w2.view.ext x'.weak).ext x3).weak, w3.view.weak, e5, op_end R4 (((x1.trans x2).trans x'.weak).trans x3) q⟩
    | false =>
      cases ret_some e_3
      exact ⟨false, rfl, iteF (q _ G' H' ((x1.trans x2).trans x'.weak) R3 (.bl false))⟩
theorem rd_neg {ka : Kd} (ha : PE X l (tE X.K ta C ka a)) : PE X (.UnaryOp .USub l pos) (tE X.K ta C .dat (.neg a)) :=
  PE.mono (pe_un un_neg ha) fun σ H Q h => by
    obtain ⟨G, ρ, τ, d, τ', R, e, q⟩ := h
    obtain ⟨x, τ1, e1, e_1⟩ := bnd_some (x := evE C a ρ) e
    refine ⟨G, ρ, τ, x, τ1, R, e1, fun v1 G1 H1 x1 R1 w1 => ?_⟩
    cases x with
    | int i =>
      cases ret_some e_1
      exact ⟨i, w1.view.int, q _ G1 H1 x1 R1 (.int _)⟩
    | _ => cases e_1
theorem rd_not {ka : Kd} (ha : PE X l (tE X.K ta C ka a)) : PE X (.UnaryOp .Not l pos) (tE X.K ta C .dat (.not a)) :=
  PE.mono (pe_notT ha) fun σ H Q h => by
    obtain ⟨G, ρ, τ, d, τ', R, e, q⟩ := h
    obtain ⟨x, τ1, e1, e_1⟩ := bnd_some (x := evE C a ρ) e
    obtain ⟨k, τ2, e2, e_2⟩ := bnd_some e_1
    obtain ⟨e2_3, rfl⟩ := of_some e2
    cases ret_some e_2
    refine ⟨G, ρ, τ, x, _, R, e1, fun v1 G1 H1 x1 R1 w1 => ?_⟩
    exact ⟨k, tru_of R1.sub w1.view.weak e2_3, q _ G1 H1 x1 R1 (.bl _)⟩
/-- a test by its value's truth -/
theorem rt_plain {ka : Kd} (ha : PE X l (tE X.K ta C ka a)) (he : ∀ whole, isTrue l X.env whole = (do let v ← whole; standAt l.pos; holding [v] (truthy v))) : PT X l (tT X.K ta C a) :=
  PT.mono (pt_truth ha he) fun σ H Q h => by
    obtain ⟨G, ρ, τ, d, τ', R, e, q⟩ := h
    obtain ⟨x, τ1, e1, e_1⟩ := bnd_some (x := evE C a ρ) e
    obtain ⟨e2, rfl⟩ := of_some e_1
    refine ⟨G, ρ, τ, x, _, R, e1, fun v1 G1 H1 x1 R1 w1 => ?_⟩
    exact ⟨_, tru_of R1.sub w1.view.weak e2, q G1 H1 x1 R1⟩
theorem rt_not (ha : PT X l (tT X.K ta C a)) : PT X (.UnaryOp .Not l pos) (tT X.K ta C (.not a)) :=
  PT.mono (pt_not ha) fun σ H Q h => by
    obtain ⟨G, ρ, τ, d, τ', R, e, q⟩ := h
    obtain ⟨z, τ3, e, et⟩ := bnd_some (x := evE C (.not a) ρ) e
    obtain ⟨x, τ1, e1, e_1⟩ := bnd_some (x := evE C a ρ) e
    obtain ⟨k, τ2, e2, e_2⟩ := bnd_some e_1
    obtain ⟨e2_3, rfl⟩ := of_some e2
    cases ret_some e_2
    obtain ⟨et_4, rfl⟩ := of_some et
    cases et_4
    refine ⟨G, ρ, τ, k, _, R, ?_, fun G1 H1 x1 R1 => q G1 H1 x1 R1⟩
    unfold M.bnd
    rw [e1]
    show (M.of (truD x)) _ = _
    rw [e2_3]
    rfl
theorem tru_bnd {x : M D} {τ τ1 τ2 : List D} {d : D} {k : Bool} (e1 : x τ = some (d, τ1)) (e2 : truD d = some k) : (x.bnd fun x => M.of (truD x)) τ = some (k, τ1) := by
  unfold M.bnd
  rw [e1]
  show (M.of (truD d)) τ1 = _
  rw [e2]
  rfl
theorem rt_and {rest : List Expr} (ha : PT X l (tT X.K ta C a)) (hb : PW X (.BoolOp .And (r :: rest) pos) (tT X.K ta C b)) : PW X (.BoolOp .And (l :: r :: rest) pos) (tT X.K ta C (.and a b)) :=
  PW.mono (pw_and ha hb) fun σ H Q h => by
    obtain ⟨G, ρ, τ, d, τ', R, e, q⟩ := h
    obtain ⟨z, τ3, e, et⟩ := bnd_some (x := evE C (.and a b) ρ) e
    obtain ⟨x, τ1, e1, e_1⟩ := bnd_some (x := evE C a ρ) e
    obtain ⟨k, τ2, e2, e_2⟩ := bnd_some e_1
    obtain ⟨e2_3, rfl⟩ := of_some e2
    refine ⟨G, ρ, τ, k, _, R, tru_bnd (τ2 := τ) e1 e2_3, fun G1 H1 x1 R1 => ?_⟩
    cases k with
    | true =>
      refine iteT ⟨G1, ρ, _, d, τ', R1, ?_, fun G2 H2 x2 R2 => q G2 H2 (x1.trans x2) R2⟩
      obtain ⟨et_4, rfl⟩ := of_some et
      exact tru_bnd (τ2 := τ) e_2 et_4
    | false =>
      cases ret_some e_2
      obtain ⟨et_5, rfl⟩ := of_some et
      rw [e2_3] at et_5
      cases et_5
      exact iteF (q G1 H1 x1 R1)
theorem rt_or {rest : List Expr} (ha : PT X l (tT X.K ta C a)) (hb : PW X (.BoolOp .Or (r :: rest) pos) (tT X.K ta C b)) : PW X (.BoolOp .Or (l :: r :: rest) pos) (tT X.K ta C (.or a b)) :=
  PW.mono (pw_or ha hb) fun σ H Q h => by
    obtain ⟨G, ρ, τ, d, τ', R, e, q⟩ := h
    obtain ⟨z, τ3, e, et⟩ := bnd_some (x := evE C (.or a b) ρ) e
    obtain ⟨x, τ1, e1, e_1⟩ := bnd_some (x := evE C a ρ) e
    obtain ⟨k, τ2, e2, e_2⟩ := bnd_some e_1
    obtain ⟨e2_3, rfl⟩ := of_some e2
    refine ⟨G, ρ, τ, k, _, R, tru_bnd (τ2 := τ) e1 e2_3, fun G1 H1 x1 R1 => ?_⟩
    cases k with
    | false =>
      refine iteF ⟨G1, ρ, _, d, τ', R1, ?_, fun G2 H2 x2 R2 => q G2 H2 (x1.trans x2) R2⟩
      obtain ⟨et_4, rfl⟩ := of_some et
      exact tru_bnd (τ2 := τ) e_2 et_4
    | true =>
      cases ret_some e_2
      obtain ⟨et_5, rfl⟩ := of_some et
      rw [e2_3] at et_5
      cases et_5
      exact iteT (q G1 H1 x1 R1)
/-- a kept value as one that may be new -/
theorem Val.trans_fresh {H0 : Hp} (x : Ext ta G H G1 H1) (h : Val K ta H1 G2 H2 .fresh v d) : Val K ta H G2 H2 .fresh v d := by
  rcases h with h | ⟨p, vs, ds, h1, h2, h3, h4, h5, h6, h7⟩
  · exact .inl h
  · exact .inr ⟨p, vs, ds, h1, h2, x.none_of h3, h4, h5, h6, h7⟩
theorem Val.first (x : Ext ta G H G1 H1) (h : Val K ta H1 G2 H2 k v d) (hk : k ≠ .peek) : Val K ta H G2 H2 k v d := by
  cases k with
  | dat => exact h
  | fresh => exact Val.trans_fresh (H0 := H) x h
  | peek => exact absurd rfl hk
theorem rd_and {rest : List Expr} (ha : PE X l (tE X.K ta C .dat a)) (hb : PE X (.BoolOp .And (r :: rest) pos) (tE X.K ta C .dat b)) : PE X (.BoolOp .And (l :: r :: rest) pos) (tE X.K ta C .dat (.and a b)) :=
  PE.mono (pe_andT ha hb) fun σ H Q h => by
    obtain ⟨G, ρ, τ, d, τ', R, e, q⟩ := h
    obtain ⟨x, τ1, e1, e_1⟩ := bnd_some (x := evE C a ρ) e
    obtain ⟨k, τ2, e2, e_2⟩ := bnd_some e_1
    obtain ⟨e2_3, rfl⟩ := of_some e2
    refine ⟨G, ρ, τ, x, _, R, e1, fun v1 G1 H1 x1 R1 w1 => ⟨k, tru_of R1.sub (.inl w1) e2_3, ?_⟩⟩
    cases k with
    | true => exact iteT ⟨G1, ρ, _, d, τ', R1, e_2, fun v2 G2 H2 x2 R2 w2 => q _ G2 H2 (x1.trans x2) R2 w2⟩
    | false =>
      cases ret_some e_2
      exact iteF (q _ G1 H1 x1 R1 w1)
theorem rd_or {rest : List Expr} {ko : Kd} (hko : ko ≠ .peek) (ha : PE X l (tE X.K ta C ko a)) (hb : PE X (.BoolOp .Or (r :: rest) pos) (tE X.K ta C ko b)) : PE X (.BoolOp .Or (l :: r :: rest) pos) (tE X.K ta C ko (.or a b)) :=
  PE.mono (pe_orT ha hb) fun σ H Q h => by
    obtain ⟨G, ρ, τ, d, τ', R, e, q⟩ := h
    obtain ⟨x, τ1, e1, e_1⟩ := bnd_some (x := evE C a ρ) e
    obtain ⟨k, τ2, e2, e_2⟩ := bnd_some e_1
    obtain ⟨e2_3, rfl⟩ := of_some e2
    refine ⟨G, ρ, τ, x, _, R, e1, fun v1 G1 H1 x1 R1 w1 => ⟨k, tru_of R1.sub w1.view.weak e2_3, ?_⟩⟩
    cases k with
    | false => exact iteF ⟨G1, ρ, _, d, τ', R1, e_2, fun v2 G2 H2 x2 R2 w2 => q _ G2 H2 (x1.trans x2) R2 (w2.first x1 hko)⟩
    | true =>
      cases ret_some e_2
      exact iteT (q _ G1 H1 x1 R1 w1)
theorem rd_ite {c' : Expr} (hc : PT X c' (tT X.K ta C c)) (ha : PE X l (tE X.K ta C .dat a)) (hb : PE X r (tE X.K ta C .dat b)) : PE X (.IfExp c' l r pos) (tE X.K ta C .dat (.ite c a b)) :=
  PE.mono (pe_ifExp hc ha hb) fun σ H Q h => by
    obtain ⟨G, ρ, τ, d, τ', R, e, q⟩ := h
    obtain ⟨x, τ1, e1, e_1⟩ := bnd_some (x := evE C c ρ) e
    obtain ⟨k, τ2, e2, e_2⟩ := bnd_some e_1
    obtain ⟨e2_3, rfl⟩ := of_some e2
    refine ⟨G, ρ, τ, k, _, R, tru_bnd (τ2 := τ) e1 e2_3, fun G1 H1 x1 R1 => ?_⟩
    cases k with
    | true => exact iteT ⟨G1, ρ, _, d, τ', R1, e_2, fun v2 G2 H2 x2 R2 w2 => q _ G2 H2 (x1.trans x2) R2 w2⟩
    | false => exact iteF ⟨G1, ρ, _, d, τ', R1, e_2, fun v2 G2 H2 x2 R2 w2 => q _ G2 H2 (x1.trans x2) R2 w2⟩
theorem rd_get {ka kb : Kd} (ha : PE X l (tE X.K ta C ka a)) (hb : PE X r (tE X.K ta C kb b)) (hs : PlainIx r) : PE X (.Subscript l r pos) (tE X.K ta C .dat (.get a b)) :=
  PE.mono (pe_ix ix_D ha hb hs) fun σ H Q h => by
    obtain ⟨G, ρ, τ, d, τ', R, e, q⟩ := h
    obtain ⟨x, τ1, e1, e_1⟩ := bnd_some (x := evE C a ρ) e
    obtain ⟨y, τ2, e2, e_2⟩ := bnd_some (x := evE C b ρ) e_1
    obtain ⟨e3, rfl⟩ := of_some e_2
    refine ⟨G, ρ, τ, x, τ1, R, e1, fun v1 G1 H1 x1 R1 w1 => ⟨G1, ρ, τ1, y, _, R1, e2, fun v2 G2 H2 x2 R2 w2 => ?_⟩⟩
    exact ⟨G2, x, y, d, R2.sub, ((w1.view).ext x2).weak, w2.view.weak, e3, op_end R2 (x1.trans x2) q⟩
/-- a slice's parts -/
def tP (K : Fg) (ta : Option Addr) (C : Nat → List D → M D) (t : E) : TO := fun σ H Q => ∃ G ρ τ o τ', Rel K ta G σ H ρ τ ∧ (if t.gone then M.ret none else (evE C t ρ).bnd intP) τ = some (o, τ') ∧
  ∀ G' H', Ext ta G H G' H' → Rel K ta G' σ H' ρ τ' → Q o H'
theorem PO.mono {X : Cx} {e : Option Expr} {t t' : TO} (h : PO X e t) (i : ∀ σ H Q, t' σ H Q → t σ H Q) : PO X e t' := ⟨fun pins s σ H Q I q => h.run pins s σ H Q I (i σ H Q q)⟩
theorem rp_none (hg : a.gone = true) : PO X none (tP X.K ta C a) :=
  PO.mono po_none fun σ H Q h => by
    obtain ⟨G, ρ, τ, o, τ', R, e, q⟩ := h
    rw [if_pos hg] at e
    cases ret_some e
    exact q G H Ext.refl R
theorem rp_some {ka : Kd} (hg : a.gone = false) (ha : PE X l (tE X.K ta C ka a)) : PO X (some l) (tP X.K ta C a) :=
  PO.mono (po_some ha) fun σ H Q h => by
    obtain ⟨G, ρ, τ, o, τ', R, e, q⟩ := h
    rw [if_neg (by rw [hg]; simp)] at e
    obtain ⟨x, τ1, e1, e_1⟩ := bnd_some (x := evE C a ρ) e
    refine ⟨G, ρ, τ, x, τ1, R, e1, fun v1 G1 H1 x1 R1 w1 => ?_⟩
    cases x with
    | int i =>
      cases ret_some e_1
      exact ⟨i, w1.view.int, q G1 H1 x1 R1⟩
    | _ => cases e_1
theorem rd_slice {ka : Kd} {lo hi : Option Expr} {p2 : Pos} (ha : PE X l (tE X.K ta C ka a)) (hl : PO X lo (tP X.K ta C b)) (hh : PO X hi (tP X.K ta C c)) : PE X (.Subscript l (.Slice lo hi none p2) pos) (tE X.K ta C .fresh (.slice a b c)) :=
  PE.mono (pe_slice sl_D ha hl hh) fun σ H Q h => by
    obtain ⟨G, ρ, τ, d, τ', R, e, q⟩ := h
    obtain ⟨x, τ1, e1, e_1⟩ := bnd_some (x := evE C a ρ) e
    obtain ⟨y, τ2, e2, e_2⟩ := bnd_some e_1
    obtain ⟨z, τ3, e3, e_3⟩ := bnd_some e_2
    obtain ⟨e4, rfl⟩ := of_some e_3
    refine ⟨G, ρ, τ, x, τ1, R, e1, fun v1 G1 H1 x1 R1 w1 => ⟨G1, ρ, τ1, y, τ2, R1, e2, fun G2 H2 x2 R2 => ⟨G2, ρ, τ2, z, _, R2, e3, fun G3 H3 x3 R3 => ?_⟩⟩⟩
    exact ⟨G3, x, d, R3.sub, (((w1.view).ext x2).ext x3).weak, e4, op_end R3 ((x1.trans x2).trans x3) q⟩
theorem rd_rev {ka : Kd} {kk : Nat} {p1 p2 p3 : Pos} (ha : PE X l (tE X.K ta C ka a)) : PE X (.Subscript l (.Slice none none (some (.UnaryOp .USub (.Constant (.int 1) kk p1) p2)) p3) pos) (tE X.K ta C .fresh (.rev a)) :=
  PE.mono (pe_revL ha) fun σ H Q h => by
    obtain ⟨G, ρ, τ, d, τ', R, e, q⟩ := h
    obtain ⟨x, τ1, e1, e_1⟩ := bnd_some (x := evE C a ρ) e
    obtain ⟨e2, rfl⟩ := of_some e_1
    refine ⟨G, ρ, τ, x, _, R, e1, fun v1 G1 H1 x1 R1 w1 => ?_⟩
    cases x with
    | list ds =>
      cases e2
      obtain ⟨p, xs, rfl, rd, dr⟩ := w1.view.lst R1.sub
      exact ⟨p, xs, rfl, rd, fresh_out R1.sub (op_end R1 x1 q) dr.reverse⟩
    | _ => cases e2
end
end KN

set_option maxRecDepth 100000
set_option maxHeartbeats 1000000
namespace KN
open PySem L2 PyProof.Rows
def notStarE : E → Bool
  | .star _ => false
  | _ => true
theorem evEs_cons {C : Nat → List D → M D} {t : E} {ts : List E} {ρ : En} (h : notStarE t = true) : evEs C (t :: ts) ρ = (evE C t ρ).bnd fun x => (evEs C ts ρ).bnd fun ys => .ret (x :: ys) := by
  cases t <;> first | rfl | cases h
theorem star_no {x : Expr} {xs : List Expr} {env : PySem.Env} (h : notStar x = true) : starEach (x :: xs) env = (false, eval x env) :: starEach xs env := by
  cases x <;> first | rfl | cases h
def noStars : List Expr → Bool
  | [] => true
  | x :: r => notStar x && noStars r
theorem back_no {pos : Pos} {env : PySem.Env} : ∀ {xs : List Expr}, noStars xs = true → (backTo pos (starEach xs env)).any (·.1) = false
  | [], _ => rfl
  | x :: r, h => by
    simp only [noStars, Bool.and_eq_true] at h
    rw [star_no h.1]
    have ih := back_no (pos := pos) (env := env) h.2
    unfold backTo at ih ⊢
    rw [List.map_cons, List.any_cons, ih]
    rfl

/-- the arguments kept -/
def tK (K : Fg) (ta : Option Addr) (C : Nat → List D → M D) (ts : List E) : TA := fun σ H Q => ∃ G ρ τ ds τ', Rel K ta G σ H ρ τ ∧ evEs C ts ρ τ = some (ds, τ') ∧
  ∀ vs G' H', Ext ta G H G' H' → Rel K ta G' σ H' ρ τ' → DRs K G' vs ds → Q vs H'
theorem DRs.views {K : Fg} {ta : Option Addr} {G H : Hp} : ∀ {vs : List V} {ds : List D}, DRs K G vs ds → Views K ta G H vs ds
  | _, _, .nil => .nil
  | _, _, .cons h r => .cons (.inl h) (DRs.views r)
section
variable {ta : Option Addr} {C : Nat → List D → M D} {X : Cx} {t : E} {ts : List E} {x : Expr} {xs : List Expr} {pos p : Pos}
theorem rv_nil : PA X [] (tV X.K ta C []) :=
  PA.mono pa_nil fun σ H Q h => by
    obtain ⟨G, ρ, τ, d, τ', R, e, q⟩ := h
    cases ret_some e
    exact q [] G H Ext.refl R .nil
theorem rv_cons {k : Kd} (ha : PE X x (tE X.K ta C k t)) (hr : PA X xs (tV X.K ta C ts)) (hx : notStar x = true) (ht : notStarE t = true) : PA X (x :: xs) (tV X.K ta C (t :: ts)) :=
  PA.mono (pa_cons ha hr (star_no hx)) fun σ H Q h => by
    obtain ⟨G, ρ, τ, d, τ', R, e, q⟩ := h
    rw [evEs_cons ht] at e
    obtain ⟨y, τ1, e1, f1⟩ := bnd_some (x := evE C t ρ) e
    obtain ⟨ys, τ2, e2, f2⟩ := bnd_some f1
    cases ret_some f2
    refine ⟨G, ρ, τ, y, τ1, R, e1, fun v1 G1 H1 x1 R1 w1 => ⟨G1, ρ, τ1, ys, _, R1, e2, fun vs G2 H2 x2 R2 w2 => ?_⟩⟩
    exact q _ G2 H2 (x1.trans x2) R2 (.cons (w1.view.ext x2) w2)
theorem rk_nil : PA X [] (tK X.K ta C []) :=
  PA.mono pa_nil fun σ H Q h => by
    obtain ⟨G, ρ, τ, d, τ', R, e, q⟩ := h
    cases ret_some e
    exact q [] G H Ext.refl R .nil
theorem rk_cons (ha : PE X x (tE X.K ta C .dat t)) (hr : PA X xs (tK X.K ta C ts)) (hx : notStar x = true) (ht : notStarE t = true) : PA X (x :: xs) (tK X.K ta C (t :: ts)) :=
  PA.mono (pa_cons ha hr (star_no hx)) fun σ H Q h => by
    obtain ⟨G, ρ, τ, d, τ', R, e, q⟩ := h
    rw [evEs_cons ht] at e
    obtain ⟨y, τ1, e1, f1⟩ := bnd_some (x := evE C t ρ) e
    obtain ⟨ys, τ2, e2, f2⟩ := bnd_some f1
    cases ret_some f2
    refine ⟨G, ρ, τ, y, τ1, R, e1, fun v1 G1 H1 x1 R1 w1 => ⟨G1, ρ, τ1, ys, _, R1, e2, fun vs G2 H2 x2 R2 w2 => ?_⟩⟩
    exact q _ G2 H2 (x1.trans x2) R2 (.cons (DR.same x2.g w1) w2)
theorem rk_star {k : Kd} (ha : PE X x (tE X.K ta C k t)) (hr : PA X xs (tK X.K ta C ts)) : PA X (.Starred x p :: xs) (tK X.K ta C (.star t :: ts)) :=
  PA.mono (StX.pa_star ha hr) fun σ H Q h => by
    obtain ⟨G, ρ, τ, d, τ', R, e, q⟩ := h
    obtain ⟨y, τ1, e1, f1⟩ := bnd_some (x := evE C t ρ) e
    obtain ⟨ss, τ2, e2, f2⟩ := bnd_some f1
    obtain ⟨ys, τ3, e3, f3⟩ := bnd_some f2
    obtain ⟨g2, rfl⟩ := of_some e2
    cases ret_some f3
    refine ⟨G, ρ, τ, y, _, R, e1, fun v1 G1 H1 x1 R1 w1 => ?_⟩
    cases y with
    | list ds =>
      cases g2
      obtain ⟨a, zs, rfl, rd, dr⟩ := w1.view.lst R1.sub
      exact ⟨a, zs, rfl, .inr rd, G1, ρ, _, ys, _, R1, e3, fun vs G2 H2 x2 R2 w2 => q _ G2 H2 (x1.trans x2) R2 ((dr.same x2.g).append w2)⟩
    | tuple ds =>
      cases g2
      obtain ⟨a, zs, rfl, rd, dr⟩ := w1.view.tup R1.sub
      exact ⟨a, zs, rfl, .inl rd, G1, ρ, _, ys, _, R1, e3, fun vs G2 H2 x2 R2 w2 => q _ G2 H2 (x1.trans x2) R2 ((dr.same x2.g).append w2)⟩
    | _ => cases g2
theorem rd_lst (hr : PA X xs (tK X.K ta C ts)) : PE X (.List xs pos) (tE X.K ta C .fresh (.lst ts)) :=
  PE.mono (pe_lst hr) fun σ H Q h => by
    obtain ⟨G, ρ, τ, d, τ', R, e, q⟩ := h
    obtain ⟨ds, τ1, e1, f1⟩ := bnd_some (x := evEs C ts ρ) e
    split at f1
    · rename_i hz
      cases ret_some f1
      refine ⟨G, ρ, τ, ds, _, R, e1, fun vs G1 H1 x1 R1 w1 => ⟨by rw [w1.length]; exact lineOk_le hz, fresh_out R1.sub (op_end R1 x1 q) w1⟩⟩
    · cases f1
theorem rd_tup {kk : Nat} (hr : PA X xs (tK X.K ta C ts)) : PE X (.Tuple xs kk pos) (tE X.K ta C .dat (.tup ts)) :=
  PE.mono (pe_tupP hr) fun σ H Q h => by
    obtain ⟨G, ρ, τ, d, τ', R, e, q⟩ := h
    obtain ⟨ds, τ1, e1, f1⟩ := bnd_some (x := evEs C ts ρ) e
    split at f1
    · rename_i hz
      cases ret_some f1
      refine ⟨G, ρ, τ, ds, _, R, e1, fun vs G1 H1 x1 R1 w1 => ⟨by rw [w1.length]; exact lineOk_le hz, tup_out R1.sub (op_end R1 x1 q) w1⟩⟩
    · cases f1
/-! ### names, constants -/
theorem rd_var {i : Nat} {x : Str} (hN : X.N[i]? = some x) (hv : Vis X.env.scope x) (hd : (x == ("__debug__" : Str)) = false) (hcd : (x == ("__classdict__" : Str)) = false) : PE X (.Name x pos) (tE X.K ta C .dat (.var i)) :=
  PE.mono (pe_var hN hv hd hcd) fun σ H Q h => by
    obtain ⟨G, ρ, τ, d, τ', R, e, q⟩ := h
    have e : (match ρ[i]? with
      | some (some (.dat d)) => some (d, τ)
      | _ => none) = some (d, τ') := e
    split at e
    · rename_i d' hd'
      cases e
      obtain ⟨v, h1, h2⟩ := R.dat i d hd'
      exact ⟨v, h1, q v G H Ext.refl R h2⟩
    · cases e
theorem rd_peek {i : Nat} {x : Str} (hN : X.N[i]? = some x) (hv : Vis X.env.scope x) (hd : (x == ("__debug__" : Str)) = false) (hcd : (x == ("__classdict__" : Str)) = false) : PE X (.Name x pos) (tE X.K ta C .peek (.peek i)) :=
  PE.mono (pe_var hN hv hd hcd) fun σ H Q h => by
    obtain ⟨G, ρ, τ, d, τ', R, e, q⟩ := h
    have e : (match ρ[i]? with
      | some (some (.own o)) => some (o.data, τ)
      | _ => none) = some (d, τ') := e
    split at e
    · rename_i d' hd'
      cases e
      obtain ⟨a, o, h1, h2, h3, h4, h5⟩ := R.own i _ hd'
      exact ⟨_, h1, q _ G H Ext.refl R (.inr ⟨a, o, _, rfl, rfl, h2, h4, h5⟩)⟩
    · cases e
theorem rd_const {v : V} {d : D} (hp : PE X x (tC v)) (hd : ∀ G, DR X.K G v d) (ht : ∀ ρ, evE C t ρ = M.ret d) : PE X x (tE X.K ta C .dat t) :=
  PE.mono hp fun σ H Q h => by
    obtain ⟨G, ρ, τ, d', τ', R, e, q⟩ := h
    rw [ht] at e
    cases ret_some e
    exact q v G H Ext.refl R (hd G)
/-! ### the box -/
theorem isTin_at {ρ : En} {i : Nat} (h : isTin ρ i = true) : ρ[i]? = some (some .tin) := by
  unfold isTin at h
  split at h
  · assumption
  · cases h
theorem rd_tget {k : Kd} {i : Nat} {y : Str} (hN : X.N[i]? = some y) (hv : Vis X.env.scope y) (hd : (y == ("__debug__" : Str)) = false) (hcd : (y == ("__classdict__" : Str)) = false) (ha : PE X x (tE X.K ta C k t)) (hs : PlainIx x) :
    PE X (.Subscript (.Name y p) x pos) (tE X.K ta C .dat (.tget i t)) :=
  PE.mono (pe_ix ix_list (pe_var hN hv hd hcd) ha hs) fun σ H Q h => by
    obtain ⟨G, ρ, τ, d, τ', R, e, q⟩ := h
    obtain ⟨w, τ1, e1, f1⟩ := bnd_some (x := evE C t ρ) e
    have f1 : (if isTin ρ i then (match getD (.list τ1) w with
      | some d => some (d, τ1)
      | none => none) else none) = some (d, τ') := f1
    split at f1
    · rename_i ht
      split at f1
      · rename_i d' hd'
        cases f1
        obtain ⟨a, rfl, h1⟩ := R.tn i (isTin_at ht)
        refine ⟨_, h1, G, ρ, τ, w, _, R, e1, fun v1 G1 H1 x1 R1 w1 => ?_⟩
        cases w with
        | int j =>
          obtain ⟨n, vs, h2, h3⟩ := R1.tin a rfl
          obtain ⟨u, h4, h5⟩ := h3.atI hd'
          exact ⟨a, vs, j, u, rfl, w1.view.int, .inl (.inl h2), h4, q _ G1 H1 x1 R1 h5⟩
        | _ => cases hd'
      · cases f1
    · cases f1
end
end KN

set_option maxRecDepth 100000
set_option maxHeartbeats 1000000
namespace KN
open PySem L2 PyProof.Rows
section
variable {ta : Option Addr} {C : Nat → List D → M D} {X : Cx} {t : E} {ts : List E} {x y : Expr} {xs : List Expr} {pos p p2 : Pos}
theorem bi_mem (f : Bi) : biName f ∈ biL := by cases f <;> decide
theorem rd_bi {f : Bi} (hc : X.calm = true) (hu : X.A.units + 64 < cLine) (hb : ∀ x ∈ biL, X.mg x = none) (hg : Gl X (biName f)) (hn : biName f ≠ "__name__") (hd : (biName f == ("__debug__" : Str)) = false) (hr : PA X (y :: xs) (tV X.K ta C ts)) (hs : noStars (y :: xs) = true) :
    PE X (.Call (.Name (biName f) p) (y :: xs) [] pos) (tE X.K ta C .fresh (.bi f ts)) := by
  have hm := hb _ (bi_mem f)
  have hv := bi_boot f
  simp only [noStars, Bool.and_eq_true] at hs
  have main : PE X (.Call (.Name (biName f) p) (y :: xs) [] pos) (tCB (rVs X.K (biD f) .fresh) (tV X.K ta C ts)) := by
    have cr : CallR X (biVal f) (rVs X.K (biD f) .fresh) := cr_bi f hc hu
    cases f with
    | list => exact pe_callTy cr hg hm hv hr hn hd (star_no hs.1) (back_no hs.2)
    | tuple => exact pe_callTy cr hg hm hv hr hn hd (star_no hs.1) (back_no hs.2)
    | int => exact pe_callTy cr hg hm hv hr hn hd (star_no hs.1) (back_no hs.2)
    | dict => exact pe_callTy cr hg hm hv hr hn hd (star_no hs.1) (back_no hs.2)
    | len => exact pe_callB cr hg hm hv hr hn hd (star_no hs.1) (back_no hs.2)
    | abs => exact pe_callB cr hg hm hv hr hn hd (star_no hs.1) (back_no hs.2)
    | sum => exact pe_callB cr hg hm hv hr hn hd (star_no hs.1) (back_no hs.2)
    | max => exact pe_callB cr hg hm hv hr hn hd (star_no hs.1) (back_no hs.2)
    | min => exact pe_callB cr hg hm hv hr hn hd (star_no hs.1) (back_no hs.2)
    | all => exact pe_callB cr hg hm hv hr hn hd (star_no hs.1) (back_no hs.2)
    | any => exact pe_callB cr hg hm hv hr hn hd (star_no hs.1) (back_no hs.2)
    | sorted => exact pe_callB cr hg hm hv hr hn hd (star_no hs.1) (back_no hs.2)
  refine PE.mono main fun σ H Q h => ?_
  obtain ⟨G, ρ, τ, d, τ', R, e, q⟩ := h
  obtain ⟨ds, τ1, e1, f1⟩ := bnd_some (x := evEs C ts ρ) e
  obtain ⟨g1, rfl⟩ := of_some f1
  refine ⟨G, ρ, τ, ds, _, R, e1, fun vs G1 H1 x1 R1 w1 => ⟨G1, ds, d, R1.sub, w1.weak, g1, op_end R1 x1 q⟩⟩

theorem ded_some {α : Type} {f : α → D} (hk : ∀ a, isKey (f a) = true) (hf : ∀ a b, f a = f b → a = b) : ∀ l : List α, ∃ zs : List α, dedD (l.map f) = zs.map f ∧ ∀ x ∈ l, x ∈ zs
  | [] => ⟨[], rfl, fun _ h => h⟩
  | x :: l => by
    obtain ⟨zs, h1, h2⟩ := ded_some hk hf l
    simp only [List.map_cons, dedD]
    by_cases c : ((l.map f).any fun y => eqK y (f x)) = true
    · rw [if_pos c]
      refine ⟨zs, h1, fun y hy => ?_⟩
      rcases List.mem_cons.1 hy with rfl | hy
      · obtain ⟨z, hz, e⟩ := List.any_eq_true.1 c
        obtain ⟨u, hu, rfl⟩ := List.mem_map.1 hz
        exact hf _ _ ((eqK_iff (hk u)).1 e) ▸ h2 u hu
      · exact h2 y hy
    · rw [if_neg c]
      refine ⟨x :: zs, by rw [h1]; rfl, fun y hy => ?_⟩
      rcases List.mem_cons.1 hy with rfl | hy
      · exact List.mem_cons_self
      · exact List.mem_cons_of_mem _ (h2 y hy)
theorem rd_sset {k : Kd} {p3 : Pos} (hc : X.calm = true) (hb : ∀ x ∈ biL, X.mg x = none) (hg : Gl X "sorted") (hg2 : Gl X "set") (ha : PE X y (tE X.K ta C k t)) (hy : notStar y = true) :
    PE X (.Call (.Name "sorted" p) [.Call (.Name "set" p2) [y] [] p3] [] pos) (tE X.K ta C .fresh (.sset t)) := by
  refine PE.mono (pe_sset hc hg (hb _ (by decide)) hg2 (hb _ (by decide)) ha (star_no hy)) fun σ H Q h => ?_
  obtain ⟨G, ρ, τ, d, τ', R, e, q⟩ := h
  obtain ⟨w, τ1, e1, f1⟩ := bnd_some (x := evE C t ρ) e
  obtain ⟨g1, rfl⟩ := of_some f1
  refine ⟨G, ρ, τ, w, _, R, e1, fun v1 G1 H1 x1 R1 w1 => ?_⟩
  have key : ∀ (l : Addr) (zs : List V) (ds : List D), SeqB X.K H1 l zs → DRs X.K G1 zs ds → ssetL ds = some d → v1 = .ref l → ∃ l, v1 = .ref l ∧
      ((∃ xs : List Str, SeqB X.K H1 l (xs.map V.str) ∧ (xs.length ≤ 4000 ∧ ∃ zs : List Str, zs.length < 64 ∧ ∀ x ∈ xs, x ∈ zs) ∧ ∀ (ys : List Str) p, sortedS ys = true → ys.Nodup → (∀ x, x ∈ ys ↔ x ∈ xs) → H1 p = none → Q (.ref p) (upd H1 p (.lst (ys.map V.str)))) ∨
       (∃ xs : List Int, SeqB X.K H1 l (xs.map V.int) ∧ (xs.length ≤ 4000 ∧ ∃ zs : List Int, zs.length < 64 ∧ ∀ x ∈ xs, x ∈ zs) ∧ ∀ (ys : List Int) p, ys.Pairwise (· ≤ ·) → ys.Nodup → (∀ x, x ∈ ys ↔ x ∈ xs) → H1 p = none → Q (.ref p) (upd H1 p (.lst (ys.map V.int))))) := fun l zs ds hq dr hd hv => by
    refine ⟨l, hv, ?_⟩
    unfold ssetL setOk at hd
    split at hd
    · rename_i hz
      simp only [Bool.and_eq_true, decide_eq_true_eq, Bool.or_eq_true] at hz
      obtain ⟨⟨h4k, h64⟩, hz⟩ := hz
      cases hd
      have ln := dr.length
      rcases hz with hz | hz
      · obtain ⟨ns, en⟩ := Option.isSome_iff_exists.mp hz
        obtain rfl := dr.ints en
        obtain rfl := intsOf_eq en
        rw [List.length_map] at ln h4k
        obtain ⟨zs, z1, z2⟩ := ded_some (f := PyData.int) (fun _ => rfl) (fun a b h => by cases h; rfl) ns
        rw [z1, List.length_map] at h64
        exact .inr ⟨ns, hq, ⟨by omega, zs, h64, z2⟩, fun ys p s1 s2 s3 np => fresh_out R1.sub (op_end R1 x1 q) (by rw [← sset_ints s1 s2 s3]; exact DRs.ofInts _) p np⟩
      · obtain ⟨ns, en⟩ := Option.isSome_iff_exists.mp hz
        obtain rfl := dr.strs en
        obtain rfl := strsOf_eq en
        rw [List.length_map] at ln h4k
        obtain ⟨zs, z1, z2⟩ := ded_some (f := PyData.str) (fun _ => rfl) (fun a b h => by cases h; rfl) ns
        rw [z1, List.length_map] at h64
        exact .inl ⟨ns, hq, ⟨by omega, zs, h64, z2⟩, fun ys p s1 s2 s3 np => fresh_out R1.sub (op_end R1 x1 q) (by rw [← sset_strs s1 s2 s3]; exact DRs.ofStrs _) p np⟩
    · cases hd
  cases w with
  | list ds =>
    obtain ⟨l, xs, rfl, rd, dr⟩ := w1.view.lst R1.sub
    exact key l xs ds (.inl rd) dr g1 rfl
  | tuple ds =>
    obtain ⟨l, xs, rfl, rd, dr⟩ := w1.view.tup R1.sub
    exact key l xs ds (.inr rd) dr g1 rfl
  | _ => cases g1
/-! ### isinstance -/
def tTys (ts : List String) : TA := fun _ H Q => Q (ts.map V.ty) H
theorem pa_tys {Γ : Cn} (hb : ∀ x ∈ biL, X.mg x = none) (hg : ∀ x, glOk Γ x = true → Gl X x ∧ x ≠ "__name__" ∧ (x == ("__debug__" : Str)) = false) : ∀ {ts : List String} {cs : List Expr}, tysOk Γ ts cs = true → PA X cs (tTys ts)
  | [], [], _ => PA.mono pa_nil fun σ H Q h => h
  | [], _ :: _, h => by simp [tysOk] at h
  | t :: ts, [], h => by simp [tysOk] at h
  | t :: ts, c :: cs, h => by
    cases c with
    | Name z q =>
      simp only [tysOk, Bool.and_eq_true, decide_eq_true_eq, beq_iff_eq] at h
      obtain ⟨⟨⟨⟨h1, h2⟩, h3⟩, h4⟩, h5⟩ := h
      obtain ⟨g1, g2, g3⟩ := hg z h2
      exact PA.mono (pa_cons (pe_bltn (v := .ty t) g1 (hb z h3) h4 rfl g2 g3) (pa_tys hb hg h5)) fun σ H Q h => h
    | _ => simp [tysOk] at h
theorem rd_isi1 {k : Kd} {T : String} {c : Expr} (hb : ∀ x ∈ biL, X.mg x = none) (hg : Gl X "isinstance") (ha : PE X y (tE X.K ta C k t)) (hy : notStar y = true) (hc : PA X [c] (tTys [T])) (hcs : notStar c = true) :
    PE X (.Call (.Name "isinstance" p) [y, c] [] pos) (tE X.K ta C .dat (.isi t [T] false)) := by
  have hm := hb "isinstance" (by decide)
  have hv : bootBuiltins "isinstance" = some (.builtin "isinstance") := by decide +kernel
  refine PE.mono (pe_callB call_isi hg hm hv (pa_cons ha hc (star_no hy)) (by decide) (by decide) (star_no hy) (back_no (by simp [noStars, hcs]))) fun σ H Q h => ?_
  obtain ⟨G, ρ, τ, d, τ', R, e, q⟩ := h
  obtain ⟨w, τ1, e1, f1⟩ := bnd_some (x := evE C t ρ) e
  obtain ⟨g1, rfl⟩ := of_some f1
  refine ⟨G, ρ, τ, w, _, R, e1, fun v1 G1 H1 x1 R1 w1 => ?_⟩
  unfold isiD at g1
  split at g1
  · rename_i b hb'
    cases g1
    have hk : kitB (tyD w) T = some b := by
      unfold kitAnyB at hb'
      split at hb'
      · rename_i hq; cases hb'; exact hq
      · rename_i hq
        cases hb'
        exact hq
      · cases hb'
    exact ⟨v1, .ty T, .type (tyD w), .type T, b, rfl, .ty T, ty_of (w1.view.at R1.sub), kit_ty hk, q _ G1 H1 x1 R1 (.bl b)⟩
  · cases g1
theorem rd_isiT {k : Kd} {Ts : List String} {cs : List Expr} {kk : Nat} (hb : ∀ x ∈ biL, X.mg x = none) (hg : Gl X "isinstance") (ha : PE X y (tE X.K ta C k t)) (hy : notStar y = true) (hc : PA X cs (tTys Ts)) (hl : Ts.length ≤ 8) :
    PE X (.Call (.Name "isinstance" p) [y, .Tuple cs kk p2] [] pos) (tE X.K ta C .dat (.isi t Ts true)) := by
  have hm := hb "isinstance" (by decide)
  have hv : bootBuiltins "isinstance" = some (.builtin "isinstance") := by decide +kernel
  refine PE.mono (pe_callB call_isiT hg hm hv (pa_cons ha (pa_cons (pe_tup hc) pa_nil) (star_no hy)) (by decide) (by decide) (star_no hy) rfl) fun σ H Q h => ?_
  obtain ⟨G, ρ, τ, d, τ', R, e, q⟩ := h
  obtain ⟨w, τ1, e1, f1⟩ := bnd_some (x := evE C t ρ) e
  obtain ⟨g1, rfl⟩ := of_some f1
  refine ⟨G, ρ, τ, w, _, R, e1, fun v1 G1 H1 x1 R1 w1 => ?_⟩
  refine ⟨by rw [List.length_map, sizeLine_eq]; omega, fun tp hp => ?_⟩
  unfold isiD at g1
  split at g1
  · rename_i b hb'
    cases g1
    have sm : Same H1 (upd H1 tp (.tup (Ts.map V.ty))) := fun b o h => by rw [upd_ne (ne_of_none h hp)]; exact h
    exact ⟨v1, tp, Ts.map V.ty, .type (tyD w), Ts.map Value.type, b, rfl, upd_same, clsV_all Ts, ty_of ((w1.view.at R1.sub).same sm), kit_any hb', q _ G1 _ (x1.trans (Ext.fresh hp)) (R1.fresh hp) (.bl b)⟩
  · cases g1

/-! ### calls of the text's own defs -/
variable {Γ : Cn} {n : Nat}
theorem getT {F : Fn} {f : Nat} {x : Str} {a b : Bool} (h : fnIs Γ f x a b = true) : ∃ F, Γ.T.lookup f = some F ∧ F.name = x ∧ F.tin = a ∧ F.fresh = b := by
  unfold fnIs at h
  split at h
  · rename_i F hF
    simp only [Bool.and_eq_true, decide_eq_true_eq, beq_iff_eq] at h
    exact ⟨F, hF, h.1.1, h.1.2, h.2⟩
  · cases h
/-- the call's end: from what the arguments are to the promise -/
theorem call_sp {K : Fg} {G G1 H H1 : Hp} {σ : L2.St} {ρ : En} {τ : List D} {vs : List V} {ds : List D} {f : Nat} {d : D} {τ1 : List D} {fr : Bool} {Q : VK} {E : XK} (R1 : Rel K ta G1 σ H1 ρ τ) (x1 : Ext ta G H G1 H1) (w : DRs K G1 vs ds) (e : C f ds [] = some (d, τ1))
    (q : ∀ v G' H', Ext ta G H G' H' → Rel K ta G' σ H' ρ τ → Val K ta H G' H' (if fr then .fresh else .dat) v d → Q v H') : spF K C f false fr vs H1 Q E := by
  have hk : (if fr then Kd.fresh else Kd.dat) ≠ .peek := by cases fr <;> decide
  exact ⟨G1, none, vs, ds, [], d, τ1, R1.sub, (fun _ z => nomatch z), ⟨rfl, rfl⟩, w, e, fun v G' H' x' s' _ h => op_end R1 x1 q hk v G' H' x' s' h⟩
theorem app_nil {α : Type} (l : List α) : l ++ [] = l := List.append_nil l
theorem call_ev {f : Nat} {ts : List E} {ρ : En} {τ τ' : List D} {d : D} (e : ((evEs C ts ρ).bnd fun ds τ => match C f ds [] with
    | some (d, _) => some (d, τ)
    | none => none) τ = some (d, τ')) : ∃ ds τ1, evEs C ts ρ τ = some (ds, τ') ∧ C f ds [] = some (d, τ1) := by
  obtain ⟨ds, τ2, e1, f1⟩ := bnd_some e
  have f1 : (match C f ds [] with
    | some (d, _) => some (d, τ2)
    | none => none) = some (d, τ') := f1
  split at f1
  · rename_i d' τ3 h
    cases f1
    exact ⟨ds, τ3, e1, h⟩
  · cases f1
/-- a new value may be taken as a kept one -/
theorem spF_dat {K : Fg} {f : Nat} {fr : Bool} {vs : List V} {H : Hp} {Q : VK} {E : XK} (h : spF K C f false false vs H Q E) : spF K C f false fr vs H Q E := by
  obtain ⟨G, ta, ws, ds, τ, d, τ', sm, ht, hv, dr, ec, q⟩ := h
  refine ⟨G, ta, ws, ds, τ, d, τ', sm, ht, hv, dr, ec, fun v G' H' x s t w => ?_⟩
  cases fr with
  | false => exact q v G' H' x s t w
  | true =>
    rcases w with ⟨h, _⟩ | ⟨a, o, od, rfl, rfl, h0, h1, h2, h3, h4⟩
    · exact q v G' H' x s t h
    · have sm' : Same G' (upd G' a o) := fun b u h => by rw [upd_ne (ne_of_none h h2)]; exact h
      refine q _ (upd G' a o) H' ⟨x.g.trans sm', fun b u h => ?_, x.keep, x.there⟩ (fun b u h => ?_) (fun b e => ?_) (h4.dr sm' upd_same)
      · by_cases e : b = a
        · subst e; exact .inr h0
        · rw [upd_ne e] at h; exact x.new b u h
      · by_cases e : b = a
        · subst e; rw [upd_same] at h; cases h; exact h3
        · rw [upd_ne e] at h; exact s b u h
      · rw [hv.1] at e; cases e
theorem fn_any {f : Nat} {z : Str} (O : XOk Γ n X) (h : fnAny Γ f z = true) : ∃ (F : Fn) (fa : Addr) (fd : FuncData), F.name = z ∧ X.mg F.name = some (.ref fa) ∧ PySem.W.keepIn X.K (.ref fa) = true ∧ Binds X.K fd F.ps [] ∧ FnOk X.prog X.w X.K X.mg X.base CX0 n fa fd F.ps (spF X.K (callF Γ.B n) f false false) ∧ ∀ p ∈ Γ.kw, p.f = f → KBinds X.K fd F.ps p.ks (gP p) (gP p) := by
  unfold fnAny at h
  split at h
  · rename_i F hF
    simp only [Bool.and_eq_true, decide_eq_true_eq, beq_iff_eq] at h
    obtain ⟨fa, fd, g1, g2, g3, g4, g5⟩ := O.fns f F hF
    rw [h.2] at g4
    exact ⟨F, fa, fd, h.1, g1, g2, g3, g4.imp fun _ _ _ _ q => spF_dat q, g5⟩
  · cases h
theorem fn_new {f : Nat} {z : Str} (O : XOk Γ n X) (h : fnIs Γ f z false true = true) : ∃ (F : Fn) (fa : Addr) (fd : FuncData), F.name = z ∧ X.mg F.name = some (.ref fa) ∧ PySem.W.keepIn X.K (.ref fa) = true ∧ Binds X.K fd F.ps [] ∧ FnOk X.prog X.w X.K X.mg X.base CX0 n fa fd F.ps (spF X.K (callF Γ.B n) f false true) := by
  obtain ⟨F, hF, rfl, h2, h3⟩ := getT (F := ⟨"", [], [], false, false, []⟩) h
  obtain ⟨fa, fd, g1, g2, g3, g4, _⟩ := O.fns f F hF
  rw [h2, h3] at g4
  exact ⟨F, fa, fd, rfl, g1, g2, g3, g4⟩
theorem rd_call {f : Nat} {z : Str} {fr : Bool} (O : XOk Γ n X) (hf : ∃ (F : Fn) (fa : Addr) (fd : FuncData), F.name = z ∧ X.mg F.name = some (.ref fa) ∧ PySem.W.keepIn X.K (.ref fa) = true ∧ Binds X.K fd F.ps [] ∧ FnOk X.prog X.w X.K X.mg X.base CX0 n fa fd F.ps (spF X.K (callF Γ.B n) f false fr)) (hg : Gl X z) (hd : (z == ("__debug__" : Str)) = false) (hr : PA X xs (tK X.K ta (callF Γ.B n) ts)) (hs : noStars xs = true) (hl : xs = [] → ts = []) :
    PE X (.Call (.Name z p) xs [] pos) (tE X.K ta (callF Γ.B n) (if fr then .fresh else .dat) (if fr then .callN f ts else .call f ts)) := by
  obtain ⟨F, fa, fd, rfl, g1, g2, g3, g4⟩ := hf
  have ev : ∀ {ρ : En} {τ τ' : List D} {d : D}, evE (callF Γ.B n) (if fr then .callN f ts else .call f ts) ρ τ = some (d, τ') → ∃ ds τ1, evEs (callF Γ.B n) ts ρ τ = some (ds, τ') ∧ callF Γ.B n f ds [] = some (d, τ1) := fun {ρ τ τ' d} e => by
    cases fr with
    | true => exact call_ev e
    | false => exact call_ev e
  cases xs with
  | nil =>
    refine PE.mono (pe_call0 g4 O.room hg g1 g2 g3 .nil pass0 hd) fun σ H Q h => ?_
    obtain ⟨G, ρ, τ, d, τ', R, e, q⟩ := h
    obtain ⟨ds, τ1, e1, e2⟩ := ev e
    cases hl rfl
    cases ret_some e1
    exact call_sp (E := E0) R Ext.refl .nil e2 q
  | cons y ys =>
    simp only [noStars, Bool.and_eq_true] at hs
    refine PE.mono (pe_call g4 O.room hg g1 g2 g3 .nil pass0 hr hd (star_no hs.1) (back_no hs.2)) fun σ H Q h => ?_
    obtain ⟨G, ρ, τ, d, τ', R, e, q⟩ := h
    obtain ⟨ds, τ1, e1, e2⟩ := ev e
    refine ⟨G, ρ, τ, ds, τ', R, e1, fun vs G1 H1 x1 R1 w1 => ?_⟩
    show spF X.K (callF Γ.B n) f false fr (vs ++ []) H1 Q E0
    rw [app_nil]
    exact call_sp R1 x1 w1 e2 q
/-- with keywords -/
theorem kw_all {env : PySem.Env} : ∀ {kws : List Keyword}, kwAll kws = true → (backToKw pos (keywordEach kws env)).all (·.1.isSome) = true ∧ (backToKw pos (keywordEach kws env)).filterMap (·.1) = kwNames kws ∧ (backToKw pos (keywordEach kws env)).any (·.1.isNone) = false
  | [], _ => ⟨rfl, rfl, rfl⟩
  | ⟨some z, e, q⟩ :: r, h => by
    obtain ⟨h1, h2, h3⟩ := kw_all (env := env) (kws := r) h
    unfold backToKw at h1 h2 h3 ⊢
    refine ⟨?_, ?_, ?_⟩
    · simp only [keywordEach, List.map_cons, List.all_cons, Option.isSome_some, Bool.true_and]
      exact h1
    · simp only [keywordEach, List.map_cons, kwNames]
      rw [List.filterMap_cons]
      simp only [h2]
    · simp only [keywordEach, List.map_cons, List.any_cons, Option.isNone_some, Bool.false_or]
      exact h3
  | ⟨none, e, q⟩ :: r, h => by cases h
theorem PK.mono {kws : List Keyword} {t t' : TA} (h : PK X kws t) (i : ∀ σ H Q, t' σ H Q → t σ H Q) : PK X kws t' := ⟨fun p pins s σ H Q I q => h.run p pins s σ H Q I (i σ H Q q)⟩
theorem pk_nilK : PK X [] (tK X.K ta C []) :=
  PK.mono pk_nil fun σ H Q h => by
    obtain ⟨G, ρ, τ, d, τ', R, e, q⟩ := h
    cases ret_some e
    exact q [] G H Ext.refl R .nil
theorem pk_consK {nm : Option Str} {kws : List Keyword} {kp : Pos} (ha : PE X x (tE X.K ta C .dat t)) (hr : PK X kws (tK X.K ta C ts)) (ht : notStarE t = true) : PK X (⟨nm, x, kp⟩ :: kws) (tK X.K ta C (t :: ts)) :=
  PK.mono (pk_cons ha hr) fun σ H Q h => by
    obtain ⟨G, ρ, τ, d, τ', R, e, q⟩ := h
    rw [evEs_cons ht] at e
    obtain ⟨y, τ1, e1, f1⟩ := bnd_some (x := evE C t ρ) e
    obtain ⟨ys, τ2, e2, f2⟩ := bnd_some f1
    cases ret_some f2
    refine ⟨G, ρ, τ, y, τ1, R, e1, fun v1 G1 H1 x1 R1 w1 => ⟨G1, ρ, τ1, ys, _, R1, e2, fun vs G2 H2 x2 R2 w2 => ?_⟩⟩
    exact q _ G2 H2 (x1.trans x2) R2 (.cons (DR.same x2.g w1) w2)
theorem DRs.getD {K : Fg} {G : Hp} {vs : List V} {ds : List D} (h : DRs K G vs ds) (i : Nat) : DR K G (vs.getD i default) (ds.getD i default) := by
  rw [List.getD_eq_getElem?_getD, List.getD_eq_getElem?_getD]
  cases e : ds[i]? with
  | none =>
    have : vs[i]? = none := by
      rw [List.getElem?_eq_none_iff] at e ⊢
      rw [h.length]; exact e
    rw [this]
    exact .non
  | some d =>
    obtain ⟨v, e1, e2⟩ := h.get e
    rw [e1]
    exact e2
theorem DRs.perm {K : Fg} {G : Hp} {vs : List V} {ds : List D} (h : DRs K G vs ds) : ∀ perm : List Nat, DRs K G (permL perm vs) (permL perm ds)
  | [] => .nil
  | i :: r => .cons (h.getD i) (DRs.perm h r)
theorem rd_callK {f : Nat} {z : Str} {perm : List Nat} {ks : List E} {kws : List Keyword} (O : XOk Γ n X) (hf : fnAny Γ f z = true) (hg : Gl X z) (hd : (z == ("__debug__" : Str)) = false) (hr : PA X xs (tK X.K ta (callF Γ.B n) ts)) (hs : noStars xs = true) (hl : xs.length = ts.length) (hl2 : (kwNames kws).length = ks.length)
    (hk : PK X kws (tK X.K ta (callF Γ.B n) ks)) (ha : kwAll kws = true) (hp : (⟨f, ts.length, kwNames kws, perm⟩ : Kw) ∈ Γ.kw) (hst : ∀ t ∈ ts, notStarE t = true) (hst2 : ∀ t ∈ ks, notStarE t = true) :
    PE X (.Call (.Name z p) xs kws pos) (tE X.K ta (callF Γ.B n) .dat (.callK f perm ts ks)) := by
  obtain ⟨F, fa, fd, rfl, g1, g2, g3, g4, g5⟩ := fn_any O hf
  have kb := g5 _ hp rfl
  obtain ⟨k1, k2, k3⟩ := kw_all (pos := pos) (env := X.env) ha
  have evl : ∀ {us : List E} (_ : ∀ t ∈ us, notStarE t = true) {ρ : En} {τ τ' : List D} {ds : List D}, evEs (callF Γ.B n) us ρ τ = some (ds, τ') → ds.length = us.length := by
    intro us
    induction us with
    | nil => intro _ ρ τ τ' ds e; cases ret_some e; rfl
    | cons u r ih =>
      intro hu ρ τ τ' ds e
      rw [evEs_cons (hu u List.mem_cons_self)] at e
      obtain ⟨y, τ1, e1, f1⟩ := bnd_some (x := evE (callF Γ.B n) u ρ) e
      obtain ⟨ys, τ2, e2, f2⟩ := bnd_some f1
      cases ret_some f2
      rw [List.length_cons, List.length_cons, ih (fun t ht => hu t (List.mem_cons_of_mem _ ht)) e2]
  have fin : ∀ σ H Q, tE X.K ta (callF Γ.B n) .dat (.callK f perm ts ks) σ H Q → tCallK (spF X.K (callF Γ.B n) f false false) (gP ⟨f, ts.length, kwNames kws, perm⟩) E0 (tK X.K ta (callF Γ.B n) ts) (tK X.K ta (callF Γ.B n) ks) σ H Q := by
    intro σ H Q h
    obtain ⟨G, ρ, τ, d, τ', R, e, q⟩ := h
    obtain ⟨ds, τ1, e1, f1⟩ := bnd_some (x := evEs (callF Γ.B n) ts ρ) e
    obtain ⟨zs, τ2, e2, f2⟩ := bnd_some f1
    have f2 : (match callF Γ.B n f (permL perm (ds ++ zs)) [] with
      | some (d, _) => some (d, τ2)
      | none => none) = some (d, τ') := f2
    split at f2
    · rename_i d' τ3 hc
      cases f2
      refine ⟨G, ρ, τ, ds, τ1, R, e1, fun vs G1 H1 x1 R1 w1 => ⟨G1, ρ, τ1, zs, _, R1, e2, fun us G2 H2 x2 R2 w2 => ?_⟩⟩
      have gv : gP ⟨f, ts.length, kwNames kws, perm⟩ vs us = permL perm (vs ++ us) := by
        unfold gP
        rw [if_pos]
        exact ⟨w1.length.trans (evl hst e1), (w2.length.trans (evl hst2 e2)).trans hl2.symm⟩
      show spF X.K (callF Γ.B n) f false false (gP ⟨f, ts.length, kwNames kws, perm⟩ vs us) H2 Q E0
      rw [gv]
      exact call_sp (fr := false) R2 (x1.trans x2) (((w1.same x2.g).append w2).perm perm) hc q
    · cases f2
  cases xs with
  | cons y ys =>
    simp only [noStars, Bool.and_eq_true] at hs
    exact PE.mono (pe_callK g4 O.room hg g1 g2 kb pass0 hr hk k1 k2 hd (star_no hs.1) (by rw [back_no (xs := y :: ys) (by simp [noStars, hs]), k3]; rfl)) fin
  | nil =>
    cases ts with
    | cons _ _ => simp at hl
    | nil =>
      refine PE.mono ?_ fin
      refine ⟨fun pins s σ H Q I h => ?_⟩
      obtain ⟨G, ρ, τ, ds, τ', R, e, q⟩ := h
      cases ret_some e
      have h := q [] G H Ext.refl R .nil
      refine wpAny_Call_Name_kw (ld_glob I hg g1 ?_ hd)
      refine PySem.W.callWith_KW0 (h₀ := X.base) I.ok.mod.kin g2 k1 (thn (hk.run pos pins s σ H _ I h) fun ws s2 ⟨zs, H2, I2, rz, q2⟩ => ⟨I2.kIn, ?_⟩) ?_
      · rw [k2]
        exact run_fnk g4 O.room kb pass0 I2 (us := []) .nil rz q2
      · rw [k3]
        rfl
end
end KN

set_option maxRecDepth 100000
set_option maxHeartbeats 1000000
namespace KN
open PySem L2 PyProof.Rows
section
variable {ta : Option Addr} {C : Nat → List D → M D} {X : Cx} {t : E} {ts : List E} {x y : Expr} {xs : List Expr} {pos p p2 : Pos} {Γ : Cn} {n : Nat}
theorem rd_callT {f i : Nat} {z w : Str} (O : XOk Γ n X) (hf : fnIs Γ f z true false = true) (hg : Gl X z) (hd : (z == ("__debug__" : Str)) = false)
    (hN : X.N[i]? = some w) (hv : Vis X.env.scope w) (hwd : (w == ("__debug__" : Str)) = false) (hcd : (w == ("__classdict__" : Str)) = false)
    (hr : PA X xs (tK X.K ta (callF Γ.B n) ts)) (hs : noStars xs = true) :
    PE X (.Call (.Name z p) (.Name w p2 :: xs) [] pos) (tE X.K ta (callF Γ.B n) .dat (.callT f i ts)) := by
  obtain ⟨F, hF, rfl, h2, h3⟩ := getT (F := ⟨"", [], [], false, false, []⟩) hf
  obtain ⟨fa, fd, g1, g2, g3, g4, _⟩ := O.fns f F hF
  rw [h2, h3] at g4
  refine PE.mono (pe_call g4 O.room hg g1 g2 g3 .nil pass0 (pa_cons (pe_var hN hv hwd hcd) hr (star_no rfl)) hd (star_no rfl) (back_no hs)) fun σ H Q h => ?_
  obtain ⟨G, ρ, τ, d, τ', R, e, q⟩ := h
  obtain ⟨ds, τ1, e1, f1⟩ := bnd_some (x := evEs (callF Γ.B n) ts ρ) e
  have f1 : (if isTin ρ i then callF Γ.B n f ds τ1 else none) = some (d, τ') := f1
  split at f1
  · rename_i ht
    obtain ⟨a, rfl, h1⟩ := R.tn i (isTin_at ht)
    refine ⟨_, h1, G, ρ, τ, ds, τ1, R, e1, fun vs G1 H1 x1 R1 w1 => ?_⟩
    show spF X.K (callF Γ.B n) f true false ((V.ref a :: vs) ++ []) H1 Q E0
    rw [app_nil]
    exact ⟨G1, some a, vs, ds, τ1, d, τ', R1.sub, R1.tin, ⟨a, rfl, rfl⟩, w1, f1, fun v G' H' x' s' ht' h => q v G' H' (x1.trans x') (R1.ext x' s' fun b e => (ht' b e).2) h⟩
  · cases f1
theorem rd_callR {f : Nat} {z : Str} (O : XOk Γ n X) (hf : fnIs Γ f z true false = true) (hg : Gl X z) (hd : (z == ("__debug__" : Str)) = false)
    (ha : PE X y (tE X.K ta (callF Γ.B n) .fresh t)) (hy : notStar y = true) (hr : PA X xs (tK X.K ta (callF Γ.B n) ts)) (hs : noStars xs = true) :
    PE X (.Call (.Name z p) (y :: xs) [] pos) (tE X.K ta (callF Γ.B n) .dat (.callR f t ts)) := by
  obtain ⟨F, hF, rfl, h2, h3⟩ := getT (F := ⟨"", [], [], false, false, []⟩) hf
  obtain ⟨fa, fd, g1, g2, g3, g4, _⟩ := O.fns f F hF
  rw [h2, h3] at g4
  refine PE.mono (pe_call g4 O.room hg g1 g2 g3 .nil pass0 (pa_cons ha hr (star_no hy)) hd (star_no hy) (back_no hs)) fun σ H Q h => ?_
  obtain ⟨G, ρ, τ, d, τ', R, e, q⟩ := h
  obtain ⟨w, τ1, e1, f1⟩ := bnd_some (x := evE (callF Γ.B n) t ρ) e
  obtain ⟨ds, τ2, e2, f2⟩ := bnd_some f1
  cases w with
  | list τ0 =>
    have f2 : (match callF Γ.B n f ds τ0 with
      | some (d, _) => some (d, τ2)
      | none => none) = some (d, τ') := f2
    split at f2
    · rename_i d' τ3 hc
      cases f2
      refine ⟨G, ρ, τ, _, τ1, R, e1, fun v1 G1 H1 x1 R1 w1 => ?_⟩
      rcases w1 with ⟨_, z⟩ | ⟨a, ob, es, rfl, hes, h0, hta, hga, hha, hds⟩
      · cases z
      cases es with
      | dic _ => cases hes
      | lst es =>
      cases hes
      obtain ⟨us, rfl, hdl⟩ := hds.ofL
      refine ⟨G1, ρ, τ1, ds, _, R1, e2, fun vs G2 H2 x2 R2 w2 => ?_⟩
      show spF X.K (callF Γ.B n) f true false ((V.ref a :: vs) ++ []) H2 Q E0
      rw [app_nil]
      have hh2 : H2 a = some (.lst us) := x2.keep a _ hta hha
      have hg2 : G2 a = none := by
        cases q2 : G2 a with
        | none => rfl
        | some o =>
          rcases x2.new a o q2 with z | z
          · rw [hga] at z; cases z
          · rw [hha] at z; cases z
      refine ⟨G2, some a, vs, ds, τ0, d, τ3, R2.sub, (fun b e => ?_), ⟨a, rfl, rfl⟩, w2, hc, fun v G' H' x' s' ht' h => ?_⟩
      · cases e
        exact ⟨hg2, us, hh2, hdl.same x2.g⟩
      · have x12 := x1.trans x2
        have ex : Ext ta G H G' H' := ⟨x12.g.trans x'.g, fun b o hb => by
            rcases x'.new b o hb with z | z
            · exact x12.new b o z
            · exact .inr (x12.none_of z), fun b o nb hb => by
            have nab : some a ≠ some b := fun z => by
              cases z
              rw [h0] at hb; cases hb
            exact x'.keep b o nab (x12.keep b o nb hb), fun b o hb => by
            obtain ⟨o', e'⟩ := x12.there b o hb
            exact x'.there b o' e'⟩
        refine q v G' H' ex ⟨s', fun b e => ?_, fun i d e => ?_, fun i ds e => ?_, R2.apart, R2.tn, R2.len⟩ ?_
        · obtain ⟨k1, ws, k2, k3⟩ := R2.tin b e
          have nab : some a ≠ some b := fun z => hta (e.trans z.symm)
          refine ⟨?_, ws, x'.keep b _ nab k2, k3.same x'.g⟩
          cases q2 : G' b with
          | none => rfl
          | some o =>
            rcases x'.new b o q2 with z | z
            · rw [k1] at z; cases z
            · rw [k2] at z; cases z
        · obtain ⟨w, k1, k2⟩ := R2.dat i d e
          exact ⟨w, k1, k2.same x'.g⟩
        · obtain ⟨b, ws, k1, k2, k3, k4, k5⟩ := R2.own i ds e
          have nab : some a ≠ some b := fun z => by
            cases z
            exact R.ownThere i ds e a k1 h0
          refine ⟨b, ws, k1, k2, ?_, x'.keep b _ nab k4, k5.same x'.g⟩
          cases q2 : G' b with
          | none => rfl
          | some o =>
            rcases x'.new b o q2 with z | z
            · rw [k3] at z; cases z
            · rw [k4] at z; cases z
        · exact h
    · cases f2
  | _ => cases f2

/-! ### what a for walks -/
/-- H without the box -/
def minus (ta : Option Addr) (H : Hp) : Hp := fun b => if ta = some b then none else H b
theorem minus_same {ta : Option Addr} {H : Hp} : Same (minus ta H) H := fun b o h => by
  unfold minus at h
  split at h
  · cases h
  · exact h
theorem minus_ext {ta : Option Addr} {G H G' H' : Hp} (x : Ext ta G H G' H') : Same (minus ta H) H' := fun b o h => by
  unfold minus at h
  split at h
  · cases h
  · rename_i e
    exact x.keep b o e h
theorem Rel.minus {K : Fg} {ta : Option Addr} {G H : Hp} {σ : L2.St} {ρ : En} {τ : List D} (R : Rel K ta G σ H ρ τ) : Same G (minus ta H) := fun b o h => by
  unfold KN.minus
  split
  · rename_i e
    rw [(R.tin b e).1] at h; cases h
  · exact R.sub b o h
theorem View.minus {K : Fg} {ta : Option Addr} {G H : Hp} {v : V} {d : D} (h : View K ta G H v d) : View K none G (minus ta H) v d := by
  rcases h with h | ⟨a, o, od, h1, h2, h3, h4, h5⟩
  · exact .inl h
  · exact .inr ⟨a, o, od, h1, h2, by simp, by unfold KN.minus; rw [if_neg h3]; exact h4, h5⟩
theorem Views.minus {K : Fg} {ta : Option Addr} {G H : Hp} : ∀ {vs : List V} {ds : List D}, Views K ta G H vs ds → Views K none G (KN.minus ta H) vs ds
  | _, _, .nil => .nil
  | _, _, .cons h r => .cons h.minus (Views.minus r)
/-- what is walked in a comprehension: nothing but the box changes meanwhile -/
def tI (K : Fg) (ta : Option Addr) (C : Nat → List D → M D) (ik : IK) (src : List E) : TI := fun σ H R => ∃ G ρ τ xs τ1 items, Rel K ta G σ H ρ τ ∧ evEs C src ρ τ = some (xs, τ1) ∧ walkD ik xs = some items ∧
  ∀ G1 H1 J, Ext ta G H G1 H1 → Rel K ta G1 σ H1 ρ τ1 → Wk K G1 (minus ta H1) J items (pairIk ik) → R J H1
/-- .. in a loop: the frozen part alone stays -/
def tIf (K : Fg) (ta : Option Addr) (C : Nat → List D → M D) (ik : IK) (src : List E) : TI := fun σ H R => ∃ G ρ τ xs τ1 items, Rel K ta G σ H ρ τ ∧ evEs C src ρ τ = some (xs, τ1) ∧ walkD ik xs = some items ∧
  ∀ G1 H1 J, Ext ta G H G1 H1 → Rel K ta G1 σ H1 ρ τ1 → Wk K G1 G1 J items (pairIk ik) → R J H1
variable {tg it : Expr} {elts : List Expr} {kk : Nat} {tp : Pos}
theorem evEs_one {ρ : En} {τ τ1 : List D} {xs : List D} (ht : notStarE t = true) (e : evEs C [t] ρ τ = some (xs, τ1)) : ∃ d, xs = [d] ∧ evE C t ρ τ = some (d, τ1) := by
  rw [evEs_cons ht] at e
  obtain ⟨y, τ2, e1, f1⟩ := bnd_some (x := evE C t ρ) e
  obtain ⟨ys, τ3, e2, f2⟩ := bnd_some f1
  cases ret_some e2
  cases ret_some f2
  exact ⟨y, rfl, e1⟩
theorem ri_ex {k : Kd} (ha : PE X it (tE X.K ta C k t)) (ht : notStarE t = true) : PI X tg it (tI X.K ta C .ex [t]) :=
  PI.mono (pi_ex ha) fun σ H R h => by
    obtain ⟨G, ρ, τ, xs, τ1, items, Re, e, w, q⟩ := h
    obtain ⟨d, rfl, e1⟩ := evEs_one ht e
    refine ⟨G, ρ, τ, d, τ1, Re, e1, fun v G1 H1 x1 R1 w1 => ?_⟩
    exact ⟨G1, minus ta H1, d, items, R1.minus, minus_same, w1.view.minus, w, fun J hJ => q G1 H1 J x1 R1 hJ⟩
theorem rif_ex (ha : PE X it (tE X.K ta C .dat t)) (ht : notStarE t = true) : PI X tg it (tIf X.K ta C .ex [t]) :=
  PI.mono (pi_ex ha) fun σ H R h => by
    obtain ⟨G, ρ, τ, xs, τ1, items, Re, e, w, q⟩ := h
    obtain ⟨d, rfl, e1⟩ := evEs_one ht e
    refine ⟨G, ρ, τ, d, τ1, Re, e1, fun v G1 H1 x1 R1 w1 => ?_⟩
    exact ⟨G1, G1, d, items, fun _ _ h => h, R1.sub, .inl w1, w, fun J hJ => q G1 H1 J x1 R1 hJ⟩
theorem ri_enum (hb : ∀ x ∈ biL, X.mg x = none) (hg : Gl X "enumerate") (ha : PA X [x] (tV X.K ta C ts)) (hx : notStar x = true) : PI X (.Tuple elts kk tp) (.Call (.Name "enumerate" p) [x] [] pos) (tI X.K ta C .enum ts) :=
  PI.mono (pi_enumD hg (hb _ (by decide)) ha (star_no hx)) fun σ H R h => by
    obtain ⟨G, ρ, τ, xs, τ1, items, Re, e, w, q⟩ := h
    refine ⟨G, ρ, τ, xs, τ1, Re, e, fun v G1 H1 x1 R1 w1 => ?_⟩
    exact ⟨G1, minus ta H1, xs, items, R1.minus, minus_same, w1.minus, w, fun J hJ => q G1 H1 J x1 R1 hJ⟩
theorem rif_enum (hb : ∀ x ∈ biL, X.mg x = none) (hg : Gl X "enumerate") (ha : PA X [x] (tK X.K ta C ts)) (hx : notStar x = true) : PI X (.Tuple elts kk tp) (.Call (.Name "enumerate" p) [x] [] pos) (tIf X.K ta C .enum ts) :=
  PI.mono (pi_enumD hg (hb _ (by decide)) ha (star_no hx)) fun σ H R h => by
    obtain ⟨G, ρ, τ, xs, τ1, items, Re, e, w, q⟩ := h
    refine ⟨G, ρ, τ, xs, τ1, Re, e, fun v G1 H1 x1 R1 w1 => ?_⟩
    exact ⟨G1, G1, xs, items, fun _ _ h => h, R1.sub, w1.views, w, fun J hJ => q G1 H1 J x1 R1 hJ⟩
theorem ri_vals {k : Kd} {o : Expr} {ap cp : Pos} (ha : PE X o (tE X.K ta C k t)) (ht : notStarE t = true) (hb : baseOk o = true) (hl : (ap.endLine == cp.line) = true) : PI X tg (.Call (.Attribute o "values" ap) [] [] cp) (tI X.K ta C .vals [t]) :=
  PI.mono (pi_valsD ha hb hl) fun σ H R h => by
    obtain ⟨G, ρ, τ, xs, τ1, items, R0, e, w, q⟩ := h
    obtain ⟨d, rfl, e1⟩ := evEs_one ht e
    refine ⟨G, ρ, τ, d, τ1, R0, e1, fun v G1 H1 x1 R1 w1 => ?_⟩
    cases d with
    | dict ds =>
      cases w
      exact ⟨G1, KN.minus ta H1, ds, R1.minus, minus_same, w1.view.minus, fun J wk => q G1 H1 J x1 R1 wk⟩
    | _ => cases w
theorem rif_vals {o : Expr} {ap cp : Pos} (ha : PE X o (tE X.K ta C .dat t)) (ht : notStarE t = true) (hb : baseOk o = true) (hl : (ap.endLine == cp.line) = true) : PI X tg (.Call (.Attribute o "values" ap) [] [] cp) (tIf X.K ta C .vals [t]) :=
  PI.mono (pi_valsD ha hb hl) fun σ H R h => by
    obtain ⟨G, ρ, τ, xs, τ1, items, R0, e, w, q⟩ := h
    obtain ⟨d, rfl, e1⟩ := evEs_one ht e
    refine ⟨G, ρ, τ, d, τ1, R0, e1, fun v G1 H1 x1 R1 w1 => ?_⟩
    cases d with
    | dict ds =>
      cases w
      exact ⟨G1, G1, ds, fun _ _ h => h, R1.sub, .inl w1, fun J wk => q G1 H1 J x1 R1 wk⟩
    | _ => cases w
theorem ri_items {k : Kd} {o : Expr} {ap cp : Pos} (ha : PE X o (tE X.K ta C k t)) (ht : notStarE t = true) (hb : baseOk o = true) (hl : (ap.endLine == cp.line) = true) : PI X (.Tuple elts kk tp) (.Call (.Attribute o "items" ap) [] [] cp) (tI X.K ta C .items [t]) :=
  PI.mono (pi_itemsD ha hb hl) fun σ H R h => by
    obtain ⟨G, ρ, τ, xs, τ1, items, R0, e, w, q⟩ := h
    obtain ⟨d, rfl, e1⟩ := evEs_one ht e
    refine ⟨G, ρ, τ, d, τ1, R0, e1, fun v G1 H1 x1 R1 w1 => ?_⟩
    cases d with
    | dict ds =>
      cases w
      exact ⟨G1, KN.minus ta H1, ds, R1.minus, minus_same, w1.view.minus, fun J wk => q G1 H1 J x1 R1 wk⟩
    | _ => cases w
theorem rif_items {o : Expr} {ap cp : Pos} (ha : PE X o (tE X.K ta C .dat t)) (ht : notStarE t = true) (hb : baseOk o = true) (hl : (ap.endLine == cp.line) = true) : PI X (.Tuple elts kk tp) (.Call (.Attribute o "items" ap) [] [] cp) (tIf X.K ta C .items [t]) :=
  PI.mono (pi_itemsD ha hb hl) fun σ H R h => by
    obtain ⟨G, ρ, τ, xs, τ1, items, R0, e, w, q⟩ := h
    obtain ⟨d, rfl, e1⟩ := evEs_one ht e
    refine ⟨G, ρ, τ, d, τ1, R0, e1, fun v G1 H1 x1 R1 w1 => ?_⟩
    cases d with
    | dict ds =>
      cases w
      exact ⟨G1, G1, ds, fun _ _ h => h, R1.sub, .inl w1, fun J wk => q G1 H1 J x1 R1 wk⟩
    | _ => cases w
theorem near_of {i : Int} (h : near62 i = true) : -(2 ^ 62) ≤ i ∧ i < 2 ^ 62 := by
  simpa [near62] using h
theorem walk_range1 {K : Fg} {G H : Hp} {vs : List V} {ds items : List D} (w : Views K none G H vs ds) (h : walkD .range ds = some items) (hl : vs.length = 1) : ∃ j : Int, vs = [.int j] ∧ -(2 ^ 62) ≤ j ∧ j < 2 ^ 62 ∧ items = rangeD 0 j.toNat := by
  cases w with
  | nil => cases hl
  | cons v1 vr =>
    cases vr with
    | cons _ _ => simp at hl
    | nil =>
      rename_i v d
      cases d with
      | int j =>
        simp only [walkD] at h
        split at h
        · rename_i hz
          simp only [Bool.and_eq_true] at hz
          cases h
          obtain ⟨h1, h2⟩ := near_of hz.1
          exact ⟨j, by rw [v1.int], h1, h2, rfl⟩
        · cases h
      | _ => cases h
theorem walk_range2 {K : Fg} {G H : Hp} {vs : List V} {ds items : List D} (w : Views K none G H vs ds) (h : walkD .range ds = some items) (hl : vs.length = 2) : ∃ i j : Int, vs = [.int i, .int j] ∧ (-(2 ^ 62) ≤ i ∧ i < 2 ^ 62 ∧ -(2 ^ 62) ≤ j ∧ j < 2 ^ 62) ∧ items = rangeD i (j - i).toNat := by
  cases w with
  | nil => cases hl
  | cons v1 vr =>
    cases vr with
    | nil => simp at hl
    | cons v2 vr =>
      cases vr with
      | cons _ _ => simp at hl
      | nil =>
        rename_i v d v' d'
        cases d with
        | int i =>
          cases d' with
          | int j =>
            simp only [walkD] at h
            split at h
            · rename_i hz
              simp only [Bool.and_eq_true] at hz
              cases h
              obtain ⟨h1, h2⟩ := near_of hz.1.1
              obtain ⟨h3, h4⟩ := near_of hz.1.2
              exact ⟨i, j, by rw [v1.int, v2.int], ⟨h1, h2, h3, h4⟩, rfl⟩
            · cases h
          | _ => cases h
        | _ => cases h
theorem evEs_len : ∀ {us : List E} (_ : ∀ t ∈ us, notStarE t = true) {ρ : En} {τ τ' : List D} {ds : List D}, evEs C us ρ τ = some (ds, τ') → ds.length = us.length := by
  intro us
  induction us with
  | nil => intro _ ρ τ τ' ds e; cases ret_some e; rfl
  | cons u r ih =>
    intro hu ρ τ τ' ds e
    rw [evEs_cons (hu u List.mem_cons_self)] at e
    obtain ⟨y, τ1, e1, f1⟩ := bnd_some (x := evE C u ρ) e
    obtain ⟨ys, τ2, e2, f2⟩ := bnd_some f1
    cases ret_some f2
    rw [List.length_cons, List.length_cons, ih (fun t ht => hu t (List.mem_cons_of_mem _ ht)) e2]
theorem Views.length {K : Fg} {G H : Hp} : ∀ {vs : List V} {ds : List D}, Views K ta G H vs ds → vs.length = ds.length
  | _, _, .nil => rfl
  | _, _, .cons _ r => by rw [List.length_cons, List.length_cons, Views.length r]
theorem ri_range1 (hb : ∀ x ∈ biL, X.mg x = none) (hg : Gl X "range") (ha : PA X [x] (tV X.K ta C ts)) (hx : notStar x = true) (ht : ∀ t ∈ ts, notStarE t = true) (hl : ts.length = 1) : PI X tg (.Call (.Name "range" p) [x] [] pos) (tI X.K ta C .range ts) :=
  PI.mono (pi_range1 hg (hb _ (by decide)) ha (star_no hx)) fun σ H R h => by
    obtain ⟨G, ρ, τ, xs, τ1, items, Re, e, w, q⟩ := h
    refine ⟨G, ρ, τ, xs, τ1, Re, e, fun vs G1 H1 x1 R1 w1 => ?_⟩
    obtain ⟨j, rfl, h1, h2, rfl⟩ := walk_range1 w1.weak w (by rw [w1.length, evEs_len ht e, hl])
    exact ⟨j, rfl, h1, h2, q G1 H1 _ x1 R1 (wk_range _ _)⟩
theorem ri_range2 (hb : ∀ x ∈ biL, X.mg x = none) (hg : Gl X "range") (ha : PA X [x, y] (tV X.K ta C ts)) (hx : notStar x = true) (hy : notStar y = true) (ht : ∀ t ∈ ts, notStarE t = true) (hl : ts.length = 2) : PI X tg (.Call (.Name "range" p) [x, y] [] pos) (tI X.K ta C .range ts) :=
  PI.mono (pi_range2 hg (hb _ (by decide)) ha (by rw [star_no hx, star_no hy]; rfl) (star_no hy)) fun σ H R h => by
    obtain ⟨G, ρ, τ, xs, τ1, items, Re, e, w, q⟩ := h
    refine ⟨G, ρ, τ, xs, τ1, Re, e, fun vs G1 H1 x1 R1 w1 => ?_⟩
    obtain ⟨i, j, rfl, h1, rfl⟩ := walk_range2 w1.weak w (by rw [w1.length, evEs_len ht e, hl])
    exact ⟨i, j, rfl, h1, q G1 H1 _ x1 R1 (wk_range _ _)⟩
theorem rif_range1 (hb : ∀ x ∈ biL, X.mg x = none) (hg : Gl X "range") (ha : PA X [x] (tV X.K ta C ts)) (hx : notStar x = true) (ht : ∀ t ∈ ts, notStarE t = true) (hl : ts.length = 1) : PI X tg (.Call (.Name "range" p) [x] [] pos) (tIf X.K ta C .range ts) :=
  PI.mono (pi_range1 hg (hb _ (by decide)) ha (star_no hx)) fun σ H R h => by
    obtain ⟨G, ρ, τ, xs, τ1, items, Re, e, w, q⟩ := h
    refine ⟨G, ρ, τ, xs, τ1, Re, e, fun vs G1 H1 x1 R1 w1 => ?_⟩
    obtain ⟨j, rfl, h1, h2, rfl⟩ := walk_range1 w1.weak w (by rw [w1.length, evEs_len ht e, hl])
    exact ⟨j, rfl, h1, h2, q G1 H1 _ x1 R1 (wk_range _ _)⟩
theorem rif_range2 (hb : ∀ x ∈ biL, X.mg x = none) (hg : Gl X "range") (ha : PA X [x, y] (tV X.K ta C ts)) (hx : notStar x = true) (hy : notStar y = true) (ht : ∀ t ∈ ts, notStarE t = true) (hl : ts.length = 2) : PI X tg (.Call (.Name "range" p) [x, y] [] pos) (tIf X.K ta C .range ts) :=
  PI.mono (pi_range2 hg (hb _ (by decide)) ha (by rw [star_no hx, star_no hy]; rfl) (star_no hy)) fun σ H R h => by
    obtain ⟨G, ρ, τ, xs, τ1, items, Re, e, w, q⟩ := h
    refine ⟨G, ρ, τ, xs, τ1, Re, e, fun vs G1 H1 x1 R1 w1 => ?_⟩
    obtain ⟨i, j, rfl, h1, rfl⟩ := walk_range2 w1.weak w (by rw [w1.length, evEs_len ht e, hl])
    exact ⟨i, j, rfl, h1, q G1 H1 _ x1 R1 (wk_range _ _)⟩
/-! ### list(range(..)) -/
theorem prg_a1 {a : Expr} {t1 : TA} {p pos : Pos} (hg : Gl X "range") (hm : X.mg "range" = none) (ha : PA X [a] t1) (hs : starEach [a] X.env = [(false, eval a X.env)]) : PRg X (.Call (.Name "range" p) [a] [] pos) (fun σ H Q => t1 σ H fun vs H1 => ∃ j : Int, vs = [.int j] ∧ Q 0 j H1) := by
  intro pins s σ H Q I h
  refine Call_ (ld_blt I hg hm boot_range (PyProof.Rows.callWith_type1 (thn (ha.run pos pins s σ H _ I h) fun us s1 k => ?_) hs rfl))
  obtain ⟨vs, H1, I1, r1, j, rfl, q⟩ := k
  cases r1 with
  | cons r rr =>
    cases rr
    obtain ⟨t, rfl⟩ := r
    exact call_range_1 ⟨_, 0, j, _, _, _, H1, rfl, IsRange.new _ _ _ _ _ _ _, I1.kept fun b u e => Heap.get?_push_of_some _ e, q⟩
theorem prg_a2 {a b : Expr} {t1 : TA} {p pos : Pos} (hg : Gl X "range") (hm : X.mg "range" = none) (ha : PA X [a, b] t1) (hs : starEach [a, b] X.env = [(false, eval a X.env), (false, eval b X.env)]) (hs2 : starEach [b] X.env = [(false, eval b X.env)]) : PRg X (.Call (.Name "range" p) [a, b] [] pos) (fun σ H Q => t1 σ H fun vs H1 => ∃ i j : Int, vs = [.int i, .int j] ∧ Q i j H1) := by
  intro pins s σ H Q I h
  refine Call_ (ld_blt I hg hm boot_range (PyProof.Rows.callWith_type1 (thn (ha.run pos pins s σ H _ I h) fun us s1 k => ?_) (by rw [hs, hs2]) (by rw [hs2]; rfl)))
  obtain ⟨vs, H1, I1, r1, i, j, rfl, q⟩ := k
  cases r1 with
  | cons r rr =>
    cases rr with
    | cons r' rr =>
      cases rr
      obtain ⟨t, rfl⟩ := r
      obtain ⟨t', rfl⟩ := r'
      exact call_range_2 ⟨_, i, j, _, _, _, H1, rfl, IsRange.new _ _ _ _ _ _ _, I1.kept fun b u e => Heap.get?_push_of_some _ e, q⟩
theorem drs_range {K : Fg} {G : Hp} : ∀ (n : Nat) (lo : Int), DRs K G ((List.range n).map fun i => V.int (lo + (i : Nat))) (rangeD lo n)
  | 0, _ => .nil
  | n + 1, lo => by
    rw [List.range_succ_eq_map, List.map_cons, List.map_map]
    have e : ((fun i : Nat => V.int (lo + (i : Nat))) ∘ Nat.succ) = fun i : Nat => V.int (lo + 1 + (i : Nat)) := by
      funext i
      simp only [Function.comp, Nat.succ_eq_add_one]
      congr 1
      push_cast
      omega
    rw [e]
    have z : lo + ((0 : Nat) : Int) = lo := by omega
    rw [z]
    exact .cons (.int lo) (drs_range n (lo + 1))
theorem lrg_some {xs : List D} {d : D} (h : lrgD xs = some d) : ∃ items, d = .list items ∧ walkD .range xs = some items ∧ items.length ≤ 2 ^ 24 := by
  unfold lrgD walkC at h
  cases e : walkD .range xs with
  | none => rw [e] at h; cases h
  | some items =>
    rw [e] at h
    simp only at h
    by_cases c : lineOk items.length = true
    · rw [if_pos c] at h
      cases h
      unfold lineOk at c
      exact ⟨items, rfl, rfl, of_decide_eq_true c⟩
    · rw [if_neg c] at h
      cases h
theorem rd_lrg1 {p3 : Pos} (hc : X.calm = true) (hb : ∀ x ∈ biL, X.mg x = none) (hg : Gl X "list") (hg2 : Gl X "range") (ha : PA X [x] (tV X.K ta C ts)) (hx : notStar x = true) (ht : ∀ t ∈ ts, notStarE t = true) (hl : ts.length = 1) :
    PE X (.Call (.Name "list" p) [.Call (.Name "range" p2) [x] [] p3] [] pos) (tE X.K ta C .fresh (.lrg ts)) := by
  refine PE.mono (pe_listRg hc hg (hb _ (by decide)) (prg_a1 hg2 (hb _ (by decide)) ha (star_no hx)) rfl) fun σ H Q h => ?_
  obtain ⟨G, ρ, τ, d, τ', R, e, q⟩ := h
  obtain ⟨ds, τ1, e1, f1⟩ := bnd_some (x := evEs C ts ρ) e
  obtain ⟨g1, rfl⟩ := of_some f1
  obtain ⟨items, rfl, w, l24⟩ := lrg_some g1
  refine ⟨G, ρ, τ, ds, _, R, e1, fun vs G1 H1 x1 R1 w1 => ?_⟩
  obtain ⟨j, rfl, h1, h2, rfl⟩ := walk_range1 w1.weak w (by rw [w1.length, evEs_len ht e1, hl])
  rw [rangeD_len] at l24
  refine ⟨j, rfl, ⟨by decide, by decide, h1, h2, by simpa using l24⟩, fresh_out R1.sub (op_end R1 x1 q) ?_⟩
  have := drs_range (K := X.K) (G := G1) j.toNat 0
  unfold rgV
  rw [Int.sub_zero]
  exact this
theorem rd_lrg2 {p3 : Pos} (hc : X.calm = true) (hb : ∀ x ∈ biL, X.mg x = none) (hg : Gl X "list") (hg2 : Gl X "range") (ha : PA X [x, y] (tV X.K ta C ts)) (hx : notStar x = true) (hy : notStar y = true) (ht : ∀ t ∈ ts, notStarE t = true) (hl : ts.length = 2) :
    PE X (.Call (.Name "list" p) [.Call (.Name "range" p2) [x, y] [] p3] [] pos) (tE X.K ta C .fresh (.lrg ts)) := by
  refine PE.mono (pe_listRg hc hg (hb _ (by decide)) (prg_a2 hg2 (hb _ (by decide)) ha (by rw [star_no hx, star_no hy]; rfl) (star_no hy)) rfl) fun σ H Q h => ?_
  obtain ⟨G, ρ, τ, d, τ', R, e, q⟩ := h
  obtain ⟨ds, τ1, e1, f1⟩ := bnd_some (x := evEs C ts ρ) e
  obtain ⟨g1, rfl⟩ := of_some f1
  obtain ⟨items, rfl, w, l24⟩ := lrg_some g1
  refine ⟨G, ρ, τ, ds, _, R, e1, fun vs G1 H1 x1 R1 w1 => ?_⟩
  obtain ⟨i, j, rfl, ⟨h1, h2, h3, h4⟩, rfl⟩ := walk_range2 w1.weak w (by rw [w1.length, evEs_len ht e1, hl])
  rw [rangeD_len] at l24
  exact ⟨i, j, rfl, ⟨h1, h2, h3, h4, l24⟩, fresh_out R1.sub (op_end R1 x1 q) (drs_range _ _)⟩
theorem walk_zip {K : Fg} {G Gv H : Hp} {vs : List V} {ds items : List D} {R : It → Hp → Prop} (s1 : Same G Gv) (s2 : Same Gv H) (w : Views K none G Gv vs ds) (h : walkD .zip ds = some items) (q : ∀ J, Wk K G Gv J items true → R J H) :
    ∃ a b xs ys k l, vs = [V.ref a, V.ref b] ∧ SqB K k H a xs ∧ SqB K l H b ys ∧ R (Itzg K k l a b) H := by
  cases w with
  | nil => cases h
  | cons v1 vr =>
    cases vr with
    | nil => rename_i v d; cases d <;> cases h
    | cons v2 vr =>
      cases vr with
      | cons _ _ =>
        rename_i d _ d' _ _ _ _ _ _
        cases d <;> first | cases h | (cases d' <;> cases h)
      | nil =>
        rename_i v d v' d'
        cases d with
        | list l1 =>
          obtain ⟨a, xs, rfl, r1, dr1⟩ := v1.lst s1
          cases d' with
          | list l2 =>
            cases h
            obtain ⟨b, ys, rfl, r2, dr2⟩ := v2.lst s1
            exact ⟨a, b, xs, ys, true, true, rfl, s2.seq r1, s2.seq r2, q _ (wk_zipG (q := true) (p := true) r1 dr1 r2 dr2)⟩
          | tuple l2 =>
            cases h
            obtain ⟨b, ys, rfl, r2, dr2⟩ := v2.tup s1
            exact ⟨a, b, xs, ys, true, false, rfl, s2.seq r1, SqT.same s2 r2, q _ (wk_zipG (q := true) (p := false) r1 dr1 r2 dr2)⟩
          | _ => cases h
        | tuple l1 =>
          obtain ⟨a, xs, rfl, r1, dr1⟩ := v1.tup s1
          cases d' with
          | list l2 =>
            cases h
            obtain ⟨b, ys, rfl, r2, dr2⟩ := v2.lst s1
            exact ⟨a, b, xs, ys, false, true, rfl, SqT.same s2 r1, s2.seq r2, q _ (wk_zipG (q := false) (p := true) r1 dr1 r2 dr2)⟩
          | tuple l2 =>
            cases h
            obtain ⟨b, ys, rfl, r2, dr2⟩ := v2.tup s1
            exact ⟨a, b, xs, ys, false, false, rfl, SqT.same s2 r1, SqT.same s2 r2, q _ (wk_zipG (q := false) (p := false) r1 dr1 r2 dr2)⟩
          | _ => cases h
        | _ => cases h
theorem ri_zip (hb : ∀ x ∈ biL, X.mg x = none) (hg : Gl X "zip") (ha : PA X [x, y] (tV X.K ta C ts)) (hx : notStar x = true) (hy : notStar y = true) : PI X (.Tuple elts kk tp) (.Call (.Name "zip" p) [x, y] [] pos) (tI X.K ta C .zip ts) :=
  PI.mono (pi_zipG hg (hb _ (by decide)) ha (star_no hx) (back_no (by simp [noStars, hy]))) fun σ H R h => by
    obtain ⟨G, ρ, τ, xs, τ1, items, Re, e, w, q⟩ := h
    exact ⟨G, ρ, τ, xs, τ1, Re, e, fun vs G1 H1 x1 R1 w1 => walk_zip R1.minus minus_same w1.minus w fun J hJ => q G1 H1 J x1 R1 hJ⟩
theorem rif_zip (hb : ∀ x ∈ biL, X.mg x = none) (hg : Gl X "zip") (ha : PA X [x, y] (tK X.K ta C ts)) (hx : notStar x = true) (hy : notStar y = true) : PI X (.Tuple elts kk tp) (.Call (.Name "zip" p) [x, y] [] pos) (tIf X.K ta C .zip ts) :=
  PI.mono (pi_zipG hg (hb _ (by decide)) ha (star_no hx) (back_no (by simp [noStars, hy]))) fun σ H R h => by
    obtain ⟨G, ρ, τ, xs, τ1, items, Re, e, w, q⟩ := h
    exact ⟨G, ρ, τ, xs, τ1, Re, e, fun vs G1 H1 x1 R1 w1 => walk_zip (fun _ _ h => h) R1.sub w1.views w fun J hJ => q G1 H1 J x1 R1 hJ⟩
end
end KN

set_option maxRecDepth 100000
set_option maxHeartbeats 1000000
namespace KN
open PySem L2 PyProof.Rows
/-! ### targets -/
def gNs : List Nat → TGs
  | [] => gNil
  | i :: is => gCons (gName i) (gNs is)
def gT (K : Fg) : Tg → TG
  | .nm i => gName i
  | .tup is => gTup K is.length (gNs is)
section
variable {X : Cx} {Γ : Cn}
structure Sto (Γ : Cn) (X : Cx) : Prop where
  N : X.N = Γ.N
  nd : X.N.Nodup
  sc : X.env.scope = Γ.sc
  fn : X.fn = (match Γ.blk with
    | none => fun _ => true
    | some s => fun x => s.names.lookup x == some .cell)
  calm : X.calm = true
theorem XOk.sto {n : Nat} (O : XOk Γ n X) : Sto Γ X := ⟨O.N, O.nd, O.sc, O.fn, O.calm⟩
theorem Sto.at (O : Sto Γ X) {x : Str} (h : stOk Γ x = true) : Loc X.env.scope x ∧ (X.fn x = true ∨ X.env.scope.names.lookup x = some .local) := by
  unfold stOk at h
  unfold L2.Loc
  rw [O.sc, O.fn]
  split at h
  · rename_i e; exact ⟨.inl e, .inr e⟩
  · rename_i e
    refine ⟨.inr e, .inl ?_⟩
    cases hb : Γ.blk with
    | none => rfl
    | some s0 =>
      rw [hb] at h
      exact h
  · cases h
theorem pg_nm {i : Nat} {x : Str} {pos : Pos} (O : Sto Γ X) (hi : Γ.N[i]? = some x) (h : stOk Γ x = true) : PG X (.Name x pos) (gName i) :=
  pg_name O.nd (by rw [O.N]; exact hi) (O.at h).1 (O.at h).2
theorem pgs_T (O : Sto Γ X) : ∀ {is : List Nat} {es : List Expr}, mNames Γ is es = true → PGs X es (gNs is) ∧ (assignEach es X.env).length = is.length ∧ (assignEach es X.env).findIdx? (·.1) = none
  | [], [], _ => ⟨pgs_nil, rfl, rfl⟩
  | [], _ :: _, h => by simp [mNames] at h
  | _ :: _, [], h => by simp [mNames] at h
  | i :: is, e :: es, h => by
    cases e with
    | Name x p =>
      simp only [mNames, Bool.and_eq_true, decide_eq_true_eq] at h
      obtain ⟨ih1, ih2, ih3⟩ := pgs_T O h.2
      refine ⟨pgs_cons (pg_nm O h.1.1 h.1.2) ih1 rfl, ?_, ?_⟩
      · show (assignEach es X.env).length + 1 = _
        rw [ih2]; rfl
      · show (((false, _) :: assignEach es X.env).findIdx? (·.1)) = none
        rw [List.findIdx?_cons]
        simp only [Bool.false_eq_true, if_false]
        rw [ih3]; rfl
    | _ => simp [mNames] at h
theorem pg_T (O : Sto Γ X) {tg : Tg} {e : Expr} (h : mTg Γ tg e = true) : PG X e (gT X.K tg) := by
  cases tg with
  | nm i =>
    cases e with
    | Name x p =>
      simp only [mTg, Bool.and_eq_true, decide_eq_true_eq] at h
      exact pg_nm O h.1 h.2
    | _ => simp [mTg] at h
  | tup is =>
    cases e with
    | Tuple es k p =>
      simp only [mTg] at h
      obtain ⟨h1, h2, h3⟩ := pgs_T O h
      exact pg_tup O.calm h1 h2 h3
    | _ => simp [mTg] at h
end
section
variable {K : Fg} {ta : Option Addr} {G H : Hp} {σ : L2.St} {ρ ρ' : En} {τ : List D} {v : V} {d : D}
theorem get_set {α : Type} {l : List α} {i j : Nat} {a x : α} (h : (l.set i a)[j]? = some x) : (j = i ∧ i < l.length ∧ x = a) ∨ (j ≠ i ∧ l[j]? = some x) := by
  rw [List.getElem?_set] at h
  split at h
  · rename_i e
    subst e
    split at h
    · rename_i hl
      cases h
      exact .inl ⟨rfl, hl, rfl⟩
    · cases h
  · rename_i e
    exact .inr ⟨fun z => e z.symm, h⟩
/-- data to a slot -/
theorem Rel.setDat (R : Rel K ta G σ H ρ τ) (h : DR K G v d) (i : Nat) : Rel K ta G (σ.set i (some v)) H (ρ.set i (some (.dat d))) τ := by
  have ne : ∀ {j : Nat}, j ≠ i → (σ.set i (some v))[j]? = σ[j]? := fun {j} hj => List.getElem?_set_ne (Ne.symm hj)
  refine ⟨R.sub, R.tin, fun j d' e => ?_, fun j ds e => ?_, fun j k ds es a hjk e1 e2 e3 => ?_, fun j e => ?_, by rw [List.length_set, List.length_set]; exact R.len⟩
  · rcases get_set e with ⟨rfl, hl, z⟩ | ⟨hj, e⟩
    · cases z
      exact ⟨v, List.getElem?_set_self (Nat.lt_of_lt_of_le hl R.len), h⟩
    · rw [ne hj]; exact R.dat j d' e
  · rcases get_set e with ⟨rfl, hl, z⟩ | ⟨hj, e⟩
    · cases z
    · rw [ne hj]; exact R.own j ds e
  · rcases get_set e1 with ⟨rfl, _, z⟩ | ⟨hj, e1⟩
    · cases z
    · rcases get_set e2 with ⟨rfl, _, z⟩ | ⟨hk, e2⟩
      · cases z
      · rw [ne hj] at e3
        rw [ne hk]
        exact R.apart j k ds es a hjk e1 e2 e3
  · rcases get_set e with ⟨rfl, hl, z⟩ | ⟨hj, e⟩
    · cases z
    · rw [ne hj]; exact R.tn j e
theorem wipe_get (vs : List Nat) (σ : L2.St) (j : Nat) : (wipe σ vs)[j]? = if j ∈ vs ∧ j < σ.length then some none else σ[j]? := by
  induction vs with
  | nil => simp [wipe]
  | cons w r ih =>
    unfold wipe
    rw [List.getElem?_set, wipe_length, ih]
    by_cases hj : w = j
    · subst hj
      by_cases hl : w < σ.length
      · simp [hl]
      · simp [hl, List.getElem?_eq_none (Nat.le_of_not_lt hl)]
    · rw [if_neg hj]
      have : j ≠ w := fun z => hj z.symm
      simp [this]
theorem wipeE_some {vs : List Nat} {i : Nat} {x : Ent} (h : (wipeE ρ vs)[i]? = some (some x)) : ρ[i]? = some (some x) ∧ i ∉ vs := by
  induction vs with
  | nil => exact ⟨h, by simp⟩
  | cons w r ih =>
    unfold wipeE at h
    rcases get_set h with ⟨rfl, _, z⟩ | ⟨hj, e⟩
    · cases z
    · obtain ⟨h1, h2⟩ := ih e
      exact ⟨h1, by simp [hj, h2]⟩
theorem wipeE_len {vs : List Nat} : (wipeE ρ vs).length = ρ.length := by
  induction vs with
  | nil => rfl
  | cons w r ih => unfold wipeE; rw [List.length_set, ih]
theorem Rel.wipe (R : Rel K ta G σ H ρ τ) (vs : List Nat) : Rel K ta G (L2.wipe σ vs) H (wipeE ρ vs) τ := by
  have ne : ∀ {j : Nat}, j ∉ vs → (L2.wipe σ vs)[j]? = σ[j]? := fun {j} hj => by rw [wipe_get, if_neg (fun z => hj z.1)]
  refine ⟨R.sub, R.tin, fun j d' e => ?_, fun j ds e => ?_, fun j k ds es a hjk e1 e2 e3 => ?_, fun j e => ?_, by rw [wipeE_len, wipe_length]; exact R.len⟩
  · obtain ⟨h1, h2⟩ := wipeE_some e
    rw [ne h2]; exact R.dat j d' h1
  · obtain ⟨h1, h2⟩ := wipeE_some e
    rw [ne h2]; exact R.own j ds h1
  · obtain ⟨h1, h2⟩ := wipeE_some e1
    obtain ⟨h3, h4⟩ := wipeE_some e2
    rw [ne h2] at e3
    rw [ne h4]
    exact R.apart j k ds es a hjk h1 h3 e3
  · obtain ⟨h1, h2⟩ := wipeE_some e
    rw [ne h2]; exact R.tn j h1
theorem wipe_set {vs : List Nat} {i : Nat} {x : Option V} (h : i ∈ vs) : L2.wipe (σ.set i x) vs = L2.wipe σ vs := by
  apply List.ext_getElem?
  intro j
  rw [wipe_get, wipe_get, List.length_set]
  by_cases hj : j ∈ vs ∧ j < σ.length
  · rw [if_pos hj, if_pos hj]
  · rw [if_neg hj, if_neg hj, List.getElem?_set]
    split
    · rename_i e
      subst e
      have : ¬ i < σ.length := fun z => hj ⟨h, z⟩
      rw [if_neg this, List.getElem?_eq_none (Nat.le_of_not_lt this)]
    · rfl
theorem wipe_wipe {vs : List Nat} : L2.wipe (L2.wipe σ vs) vs = L2.wipe σ vs := by
  apply List.ext_getElem?
  intro j
  rw [wipe_get, wipe_length, wipe_get]
  by_cases hj : j ∈ vs ∧ j < σ.length
  · simp [hj]
  · rw [if_neg hj]
/-- a target takes its value -/
theorem gNs_ok {Q : L2.St → Hp → Prop} : ∀ {is : List Nat} {us : List V} {ds : List D} {σ : L2.St} {ρ : En}, Rel K ta G σ H ρ τ → DRs K G us ds → setDs is ds ρ = some ρ' →
    (∀ σ', Rel K ta G σ' H ρ' τ → (∀ vs : List Nat, (∀ i ∈ is, i ∈ vs) → L2.wipe σ' vs = L2.wipe σ vs) → Q σ' H) → gNs is us σ H Q
  | [], _, _, σ, ρ, R, .nil, e, q => by
    cases e
    exact ⟨rfl, q σ R fun _ _ => rfl⟩
  | [], _, _, σ, ρ, R, .cons _ _, e, q => by cases e
  | i :: is, _, _, σ, ρ, R, .nil, e, q => by cases e
  | i :: is, _, _, σ, ρ, R, .cons h r, e, q => by
    refine ⟨_, _, rfl, gNs_ok (R.setDat h i) r e fun σ' R' w => q σ' R' fun vs hv => ?_⟩
    rw [w vs (fun j hj => hv j (List.mem_cons_of_mem _ hj)), wipe_set (hv i List.mem_cons_self)]
theorem setDs_len : ∀ {is : List Nat} {ds : List D} {ρ : En}, setDs is ds ρ = some ρ' → ds.length = is.length
  | [], [], _, _ => rfl
  | [], _ :: _, _, e => by cases e
  | _ :: _, [], _, e => by cases e
  | i :: is, d :: ds, ρ, e => by
    have := setDs_len (is := is) (ds := ds) e
    simp [this]
/-- an item that comes: data, or a pair in a tuple of the walk's own -/
def ItR (K : Fg) (G H : Hp) (tg : Tg) (v : V) (d : D) : Prop := DR K G v d ∨ (∃ is, tg = .tup is) ∧ ∃ a xs ds, v = .ref a ∧ d = .tuple ds ∧ SqT K H a xs ∧ DRs K G xs ds
theorem gT_ok {Q : L2.St → Hp → Prop} {tg : Tg} (R : Rel K ta G σ H ρ τ) (h : ItR K G H tg v d) (e : setTg tg d ρ = some ρ')
    (q : ∀ σ', Rel K ta G σ' H ρ' τ → (∀ vs : List Nat, (∀ i ∈ tg.slots, i ∈ vs) → L2.wipe σ' vs = L2.wipe σ vs) → Q σ' H) : gT K tg v σ H Q := by
  cases tg with
  | nm i =>
    cases e
    rcases h with h | ⟨⟨is, z⟩, _⟩
    · exact q _ (R.setDat h i) fun vs hv => wipe_set (hv i (by simp [Tg.slots]))
    · cases z
  | tup is =>
    rcases h with h | ⟨_, a, xs, ds, rfl, rfl, hs, dr⟩
    · cases d with
      | tuple ds =>
        cases h with
        | tup hs dr =>
          exact ⟨_, _, rfl, SqT.same R.sub hs.sq, by rw [dr.length]; exact setDs_len e, gNs_ok R dr e q⟩
      | _ => cases e
    · exact ⟨_, _, rfl, hs, by rw [dr.length]; exact setDs_len e, gNs_ok R dr e q⟩
/-! ### comprehensions -/
theorem Rel.updFree (R : Rel K ta G σ H ρ τ) {D : Addr} {o : HO} (hG : G D = none) (ht : ta ≠ some D) (ho : ∀ (i : Nat) ds, ρ[i]? = some (some (.own ds)) → σ[i]? ≠ some (some (.ref D))) : Rel K ta G σ (upd H D o) ρ τ := by
  refine ⟨fun b u h => ?_, fun a e => ?_, R.dat, fun i ds e => ?_, R.apart, R.tn, R.len⟩
  · rw [upd_ne (fun z => by subst z; rw [hG] at h; cases h)]; exact R.sub b u h
  · obtain ⟨h1, vs, h2, h3⟩ := R.tin a e
    exact ⟨h1, vs, by rw [upd_ne (fun z => ht (by rw [e, z]))]; exact h2, h3⟩
  · obtain ⟨a, o, h1, h2, h3, h4, h5⟩ := R.own i ds e
    exact ⟨a, o, h1, h2, h3, by rw [upd_ne (fun z => ho i ds e (by rw [h1, z]))]; exact h4, h5⟩
theorem Ext.updNew {G' H' : Hp} {D : Addr} {o : HO} (x : Ext ta G H G' H') (hD : H D = none) : Ext ta G H G' (upd H' D o) := by
  refine ⟨x.g, x.new, fun b u n h => ?_, fun b u h => ?_⟩
  · rw [upd_ne (ne_of_none h hD)]; exact x.keep b u n h
  · rw [upd_ne (ne_of_none h hD)]; exact x.there b u h
end
def tCond (K : Fg) (ta : Option Addr) (C : Nat → List D → M D) (c : E) : TT := fun σ H Q => ∃ G ρ τ b τ', Rel K ta G σ H ρ τ ∧ (if c.gone then M.ret true else (evE C c ρ).bnd fun x => M.of (truD x)) τ = some (b, τ') ∧
  ∀ G' H', Ext ta G H G' H' → Rel K ta G' σ H' ρ τ' → Q b H'
theorem item_ok {K : Fg} {ta : Option Addr} {G1 Gv Gi H1 H2 H' : Hp} {σ : L2.St} {ρ : En} {τi : List D} {J : It} {items : List D} {p : Bool} {i : Nat} {x : V} {d : D} {tg : Tg} (wk : Wk K G1 Gv J items p) (hp : p = true → ∃ is, tg = .tup is)
    (xi : Ext ta G1 H1 Gi H2) (Ri : Rel K ta Gi σ H2 ρ τi) (sv : Same Gv H2) (hd : items[i]? = some d) (y : J.yld i H2 x H') :
    Ext ta Gi H2 Gi H' ∧ Rel K ta Gi σ H' ρ τi ∧ ItR K Gi H' tg x d ∧ ∀ b o, H2 b = some o → H' b = some o := by
  rcases wk.yld i H2 x H' _ sv hd y with ⟨rfl, dr⟩ | ⟨pp, T, a, b, va, vb, rfl, hT, rfl, hdt, da, db⟩
  · exact ⟨Ext.refl, Ri, .inl (dr.same xi.g), fun _ _ h => h⟩
  · refine ⟨Ext.fresh hT, Ri.fresh hT, .inr ⟨hp pp, T, [va, vb], [a, b], rfl, hdt, .inl (.inl upd_same), .cons (da.same xi.g) (.cons (db.same xi.g) .nil)⟩, fun b o h => ?_⟩
    rw [upd_ne (ne_of_none h hT)]; exact h
theorem rd_comp {X : Cx} {ta : Option Addr} {C : Nat → List D → M D} {el tg' it : Expr} {ifs : List Expr} {scope : Scope} {own : List (Str × Nat)} {pos : Pos} {elt cond : E} {tg : Tg} {ik : IK} {src : List E}
    (hc : X.calm = true) (hN : X.N.Nodup) (hi : PI X tg' it (tI X.K ta C ik src)) (ok : BlkOk X.N X.env.scope scope own) (ho : own.map (·.2) = tg.slots)
    (hg : ∀ (s : Shared) (H : Hp) (C' : Addr) (cl : List (Str × Addr)) (fp : List Addr), PG (X.blk s H scope (compEnvC scope cl C' X.env) fp) tg' (gT X.K tg))
    (ht : ∀ (s : Shared) (H : Hp) (C' : Addr) (cl : List (Str × Addr)) (fp : List Addr), PTs (X.blk s H scope (compEnvC scope cl C' X.env) fp) ifs (tCond X.K ta C cond))
    (he : ∀ (s : Shared) (H : Hp) (C' : Addr) (cl : List (Str × Addr)) (fp : List Addr), PE (X.blk s H scope (compEnvC scope cl C' X.env) fp) el (tE X.K ta C .dat elt)) (hs : ∀ x, foldedSetIterable it X.env x = pure x) (hpr : pairIk ik = true → ∃ is, tg = .tup is) :
    (∀ σ H Q, tE X.K ta C .fresh (.comp elt tg ik src cond) σ H Q → tLc (tI X.K ta C ik src) (gT X.K tg) (tCond X.K ta C cond) (tE X.K ta C .dat elt) (own.map (·.2)) σ H Q) ∧
    PE X (.ListComp el [⟨tg', it, ifs, 0⟩] scope pos) (tE X.K ta C .fresh (.comp elt tg ik src cond)) := by
  have key : ∀ σ H Q, tE X.K ta C .fresh (.comp elt tg ik src cond) σ H Q → tLc (tI X.K ta C ik src) (gT X.K tg) (tCond X.K ta C cond) (tE X.K ta C .dat elt) (own.map (·.2)) σ H Q := by
    intro σ H Q h
    rw [ho]
    obtain ⟨G, ρ, τ, d, τ', R, e, q⟩ := h
    obtain ⟨xs, τ1, e1, f1⟩ := bnd_some (x := evEs C src ρ) e
    obtain ⟨items, τ2, e2, f2⟩ := bnd_some f1
    obtain ⟨g2, rfl⟩ := of_some e2
    obtain ⟨ys, τ3, e3, f3⟩ := bnd_some f2
    cases ret_some f3
    obtain ⟨wd, hz⟩ : walkD ik xs = some items ∧ items.length ≤ sizeLine := by
      unfold walkC at g2
      split at g2
      · rename_i its hw
        split at g2
        · rename_i hl
          cases g2
          exact ⟨hw, lineOk_le hl⟩
        · cases g2
      · cases g2
    refine ⟨G, ρ, τ, xs, _, items, R, e1, wd, fun G1 H1 J x1 R1 wk Dd hD => ?_⟩
    generalize hf : (fun d => (M.of (setTg tg d (wipeE ρ tg.slots))).bnd fun ρ' => (if cond.gone then .ret true else (evE C cond ρ').bnd fun x => .of (truD x)).bnd fun k => if k then (evE C elt ρ').bnd fun y => .ret (some y) else .ret none : D → M (Option D)) = f at e3
    have htD : ta ≠ some Dd := fun z => by
      obtain ⟨_, vs, h2, _⟩ := R1.tin Dd z
      rw [hD] at h2; cases h2
    have hoD : ∀ (i : Nat) ds, ρ[i]? = some (some (.own ds)) → σ[i]? ≠ some (some (.ref Dd)) := fun i ds e z => R1.ownThere i ds e Dd z hD
    have hg1 : G1 Dd = none := R1.sub.free hD
    refine ⟨fun i m H2 => i ≤ items.length ∧ m = items.length - i ∧ ∃ Gi τi zs us, Ext ta G1 H1 Gi H2 ∧ Rel X.K ta Gi σ H2 ρ τi ∧ H2 Dd = some (.lst us) ∧ Gi Dd = none ∧ DRs X.K Gi us zs ∧ us.length ≤ i ∧ ∃ rest, compL f (items.drop i) τi = some (rest, τ') ∧ ys = zs ++ rest,
      ⟨_, Nat.zero_le _, rfl, G1, _, [], [], Ext.fresh hD, R1.fresh hD, upd_same, hg1, .nil, Nat.le_refl _, ys, e3, rfl⟩, ?_⟩
    rintro i m H2 ⟨hi', rfl, Gi, τi, zs, us, xi, Ri, hDi, hGi, dri, hli, rest, ei, rfl⟩
    have sv : Same (minus ta H1) H2 := minus_ext xi
    by_cases hlt : i < items.length
    · right
      refine ⟨wk.go i H2 sv hlt, fun H' => (i + 1 ≤ items.length ∧ items.length - (i + 1) = items.length - (i + 1) ∧ ∃ Gi τi zs' us, Ext ta G1 H1 Gi H' ∧ Rel X.K ta Gi σ H' ρ τi ∧ H' Dd = some (.lst us) ∧ Gi Dd = none ∧ DRs X.K Gi us zs' ∧ us.length ≤ i + 1 ∧ ∃ rest', compL f (items.drop (i + 1)) τi = some (rest', τ') ∧ zs ++ rest = zs' ++ rest'),
        fun H' h => ⟨items.length - (i + 1), by omega, h⟩, fun x H' y => ?_⟩
      have hd : items[i]? = some items[i] := List.getElem?_eq_getElem hlt
      rw [List.drop_eq_getElem_cons hlt] at ei
      obtain ⟨o, τa, ea, fa⟩ := bnd_some (x := f items[i]) ei
      obtain ⟨r', τb, eb, fb⟩ := bnd_some fa
      cases ret_some fb
      -- the item comes
      obtain ⟨x', R', dx, kp⟩ := item_ok (tg := tg) wk hpr xi Ri sv hd y
      have hD' := kp _ _ hDi
      have hG' := hGi
      rw [← hf] at ea
      obtain ⟨ρ', τc, ec, fc⟩ := bnd_some ea
      obtain ⟨gc, rfl⟩ := of_some ec
      obtain ⟨k, τd, ed, fd⟩ := bnd_some fc
      refine gT_ok (R'.wipe tg.slots) dx gc fun σ2 R2 w2 => ⟨by rw [w2 _ fun _ h => h, wipe_wipe], Gi, ρ', _, k, τd, R2, ed, fun G3 H3 x3 R3 => ?_⟩
      have hx3 := x'.trans x3
      have hD3 : H3 Dd = some (.lst us) := x3.keep Dd _ htD hD'
      have hG3 : G3 Dd = none := by
        cases q2 : G3 Dd with
        | none => rfl
        | some o =>
          rcases x3.new Dd o q2 with z | z
          · rw [hG'] at z; cases z
          · rw [hD'] at z; cases z
      cases k with
      | false =>
        cases ret_some fd
        refine iteF ⟨hlt, rfl, G3, _, zs, us, xi.trans hx3, R'.ext x3 R3.sub (fun a e => (R3.tin a e).2), hD3, hG3, (dri.same hx3.g), Nat.le_succ_of_le hli, r', eb, rfl⟩
      | true =>
        obtain ⟨y', τe, ee, fe⟩ := bnd_some (x := evE C elt ρ') fd
        cases ret_some fe
        refine iteT ⟨G3, ρ', τd, y', _, R3, ee, fun v G4 H4 x4 R4 w4 => ?_⟩
        have hx4 := hx3.trans x4
        have hD4 : H4 Dd = some (.lst us) := x4.keep Dd _ htD hD3
        have hG4 : G4 Dd = none := by
          cases q2 : G4 Dd with
          | none => rfl
          | some o =>
            rcases x4.new Dd o q2 with z | z
            · rw [hG3] at z; cases z
            · rw [hD3] at z; cases z
        refine ⟨us, hD4, by omega, hlt, rfl, G4, _, zs ++ [y'], us ++ [v], (xi.trans hx4).updNew hD, ?_, upd_same, hG4, (dri.same hx4.g).append (.cons w4 .nil), by rw [List.length_append]; simp; omega, r', eb, by rw [List.append_assoc]; rfl⟩
        exact (R'.ext (x3.trans x4) R4.sub (fun a e => (R4.tin a e).2)).updFree hG4 htD hoD
    · left
      have hn : i = items.length := by omega
      subst hn
      rw [List.drop_length] at ei
      cases ret_some ei
      refine ⟨wk.stop H2 sv, ?_⟩
      rw [List.append_nil] at q
      exact q _ Gi H2 (x1.trans xi) Ri (.inr ⟨Dd, .lst us, .lst zs, rfl, rfl, x1.none_of hD, htD, hGi, hDi, .lst dri⟩)
  exact ⟨key, PE.mono (pe_lc hc hN hi ok hg ht he hs) key⟩
end KN

set_option maxRecDepth 100000
set_option maxHeartbeats 2000000
namespace KN
open PySem L2 PyProof.Rows
theorem walkC_some {ik : IK} {xs items : List D} (h : walkC ik xs = some items) : walkD ik xs = some items ∧ items.length ≤ sizeLine := by
  unfold walkC at h
  split at h
  · rename_i its hw
    split at h
    · rename_i hl
      cases h
      exact ⟨hw, lineOk_le hl⟩
    · cases h
  · cases h
theorem Ext.free_of {ta : Option Addr} {G H G' H' : Hp} (x : Ext ta G H G' H') {a : Addr} {o : HO} (hG : G a = none) (hH : H a = some o) : G' a = none := by
  cases q : G' a with
  | none => rfl
  | some u =>
    rcases x.new a u q with z | z
    · rw [hG] at z; cases z
    · rw [hH] at z; cases z
/-- what a list, a dict under way is beside the state -/
structure Acc (K : Fg) (ta : Option Addr) (G1 H1 G H : Hp) (Dd : Addr) (o : HO) : Prop where
  ext : Ext ta G1 H1 G H
  at_ : H Dd = some o
  free : G Dd = none
theorem Acc.step {K : Fg} {ta : Option Addr} {G1 H1 G H G' H' : Hp} {Dd : Addr} {o : HO} (A : Acc K ta G1 H1 G H Dd o) (ht : ta ≠ some Dd) (x : Ext ta G H G' H') : Acc K ta G1 H1 G' H' Dd o :=
  ⟨A.ext.trans x, x.keep Dd _ ht A.at_, x.free_of A.free A.at_⟩
theorem Acc.put {K : Fg} {ta : Option Addr} {G1 H1 G H : Hp} {Dd : Addr} {o o' : HO} (A : Acc K ta G1 H1 G H Dd o) (h : H1 Dd = none) : Acc K ta G1 H1 G (upd H Dd o') Dd o' :=
  ⟨A.ext.updNew h, upd_same, A.free⟩
theorem setDs_own {i : Nat} {o : Od} : ∀ {is : List Nat} {ds : List D} {ρ ρ' : En}, setDs is ds ρ = some ρ' → ρ'[i]? = some (some (.own o)) → ρ[i]? = some (some (.own o)) ∧ i ∉ is
  | [], [], ρ, ρ', e, h => by cases e; exact ⟨h, by simp⟩
  | [], _ :: _, _, _, e, _ => by cases e
  | _ :: _, [], _, _, e, _ => by cases e
  | j :: is, d :: ds, ρ, ρ', e, h => by
    obtain ⟨h1, h2⟩ := setDs_own (is := is) (ds := ds) e h
    rcases get_set h1 with ⟨_, _, z⟩ | ⟨hj, h3⟩
    · cases z
    · exact ⟨h3, by simp [hj, h2]⟩
theorem setTg_own {i : Nat} {o : Od} {tg : Tg} {d : D} {ρ ρ' : En} (e : setTg tg d ρ = some ρ') (h : ρ'[i]? = some (some (.own o))) : ρ[i]? = some (some (.own o)) ∧ i ∉ tg.slots := by
  cases tg with
  | nm j =>
    cases e
    rcases get_set h with ⟨_, _, z⟩ | ⟨hj, h3⟩
    · cases z
    · exact ⟨h3, by simp [Tg.slots, hj]⟩
  | tup is =>
    cases d with
    | tuple ds => exact setDs_own e h
    | _ => cases e
section
variable {X : Cx} {ta : Option Addr} {C : Nat → List D → M D}
/-- the step of a comprehension behind its item -/
def stepM (C : Nat → List D → M D) (tg : Tg) (ρ : En) (vs : List Nat) (cond : E) {α : Type} (no : α) (yes : En → M α) (d : D) : M α :=
  (M.of (setTg tg d (wipeE ρ vs))).bnd fun ρ' => (if cond.gone then .ret true else (evE C cond ρ').bnd fun x => .of (truD x)).bnd fun k => if k then yes ρ' else .ret no
theorem stepM_some {tg : Tg} {ρ : En} {vs : List Nat} {cond : E} {α : Type} {no : α} {yes : En → M α} {d : D} {τ τ' : List D} {r : α} (h : stepM C tg ρ vs cond no yes d τ = some (r, τ')) :
    ∃ ρ' k τ1, setTg tg d (wipeE ρ vs) = some ρ' ∧ (if cond.gone then M.ret true else (evE C cond ρ').bnd fun x => M.of (truD x)) τ = some (k, τ1) ∧ (if k then yes ρ' else M.ret no) τ1 = some (r, τ') := by
  obtain ⟨ρ', τ1, e1, f1⟩ := bnd_some h
  obtain ⟨g1, rfl⟩ := of_some e1
  obtain ⟨k, τ2, e2, f2⟩ := bnd_some f1
  exact ⟨ρ', k, τ2, g1, e2, f2⟩
theorem rd_comp2 {el tg' it tg1' it1 : Expr} {ifs ifs1 : List Expr} {scope : Scope} {own : List (Str × Nat)} {pos : Pos} {elt cond cond1 : E} {tg tg1 : Tg} {ik ik1 : IK} {src src1 : List E}
    (hc : X.calm = true) (hN : X.N.Nodup) (hi : PI X tg' it (tI X.K ta C ik src)) (ok : BlkOk X.N X.env.scope scope own) (ho : own.map (·.2) = tg.slots ++ tg1.slots)
    (hg : ∀ (s : Shared) (H : Hp) (C' : Addr) (cl : List (Str × Addr)) (fp : List Addr), PG (X.blk s H scope (compEnvC scope cl C' X.env) fp) tg' (gT X.K tg))
    (ht : ∀ (s : Shared) (H : Hp) (C' : Addr) (cl : List (Str × Addr)) (fp : List Addr), PTs (X.blk s H scope (compEnvC scope cl C' X.env) fp) ifs (tCond X.K ta C cond))
    (hi1 : ∀ (s : Shared) (H : Hp) (C' : Addr) (cl : List (Str × Addr)) (fp : List Addr), PI (X.blk s H scope (compEnvC scope cl C' X.env) fp) tg1' it1 (tIf X.K ta C ik1 src1))
    (hg1 : ∀ (s : Shared) (H : Hp) (C' : Addr) (cl : List (Str × Addr)) (fp : List Addr), PG (X.blk s H scope (compEnvC scope cl C' X.env) fp) tg1' (gT X.K tg1))
    (ht1 : ∀ (s : Shared) (H : Hp) (C' : Addr) (cl : List (Str × Addr)) (fp : List Addr), PTs (X.blk s H scope (compEnvC scope cl C' X.env) fp) ifs1 (tCond X.K ta C cond1))
    (he : ∀ (s : Shared) (H : Hp) (C' : Addr) (cl : List (Str × Addr)) (fp : List Addr), PE (X.blk s H scope (compEnvC scope cl C' X.env) fp) el (tE X.K ta C .dat elt)) (hs : ∀ x, foldedSetIterable it X.env x = pure x) (hs1 : ∀ env x, foldedSetIterable it1 env x = pure x)
    (hpr : pairIk ik = true → ∃ is, tg = .tup is) (hpr1 : pairIk ik1 = true → ∃ is, tg1 = .tup is) :
    (∀ σ H Q, tE X.K ta C .fresh (.comp2 elt tg ik src cond tg1 ik1 src1 cond1) σ H Q → tLc2 (tI X.K ta C ik src) (gT X.K tg) (tCond X.K ta C cond) (tIf X.K ta C ik1 src1) (gT X.K tg1) (tCond X.K ta C cond1) (tE X.K ta C .dat elt) (own.map (·.2)) tg1.slots σ H Q) ∧
    PE X (.ListComp el [⟨tg', it, ifs, 0⟩, ⟨tg1', it1, ifs1, 0⟩] scope pos) (tE X.K ta C .fresh (.comp2 elt tg ik src cond tg1 ik1 src1 cond1)) := by
  have key : ∀ σ H Q, tE X.K ta C .fresh (.comp2 elt tg ik src cond tg1 ik1 src1 cond1) σ H Q → tLc2 (tI X.K ta C ik src) (gT X.K tg) (tCond X.K ta C cond) (tIf X.K ta C ik1 src1) (gT X.K tg1) (tCond X.K ta C cond1) (tE X.K ta C .dat elt) (own.map (·.2)) tg1.slots σ H Q := by
    intro σ H Q h
    rw [ho]
    obtain ⟨G, ρ, τ, d, τ', R, e, q⟩ := h
    obtain ⟨xs, τ1, e1, f1⟩ := bnd_some (x := evEs C src ρ) e
    obtain ⟨items, τ2, e2, f2⟩ := bnd_some f1
    obtain ⟨g2, rfl⟩ := of_some e2
    obtain ⟨ys, τ3, e3, f3⟩ := bnd_some f2
    have f3 : (if lineOk ys.length then M.ret (PyData.list ys) else M.fail) τ3 = some (d, τ') := f3
    split at f3
    · rename_i hly
      cases ret_some f3
      have hly := lineOk_le hly
      obtain ⟨wd, hz⟩ := walkC_some g2
      refine ⟨G, ρ, τ, xs, _, items, R, e1, wd, fun G1 H1 J x1 R1 wk Dd hD => ?_⟩
      generalize hin : (fun ρ' => (evEs C src1 ρ').bnd fun xs => (M.of (walkC ik1 xs)).bnd fun items =>
          compL (stepM C tg1 ρ' tg1.slots cond1 none fun ρ'' => (evE C elt ρ'').bnd fun y => .ret (some y)) items : En → M (List D)) = inn
      have e3 : comp2L (stepM C tg ρ (tg.slots ++ tg1.slots) cond [] inn) items τ2 = some (ys, τ') := by rw [← hin]; exact e3
      have htD : ta ≠ some Dd := fun z => by
        obtain ⟨_, vs, h2, _⟩ := R1.tin Dd z
        rw [hD] at h2; cases h2
      have hoD : ∀ (i : Nat) ds, ρ[i]? = some (some (.own ds)) → σ[i]? ≠ some (some (.ref Dd)) := fun i ds e z => R1.ownThere i ds e Dd z hD
      refine ⟨fun i m H2 => i ≤ items.length ∧ m = items.length - i ∧ ∃ Gi τi zs us, Acc X.K ta G1 H1 Gi H2 Dd (.lst us) ∧ Rel X.K ta Gi σ H2 ρ τi ∧ DRs X.K Gi us zs ∧ ∃ rest, comp2L (stepM C tg ρ (tg.slots ++ tg1.slots) cond [] inn) (items.drop i) τi = some (rest, τ') ∧ ys = zs ++ rest,
        ⟨_, Nat.zero_le _, rfl, G1, _, [], [], ⟨Ext.fresh hD, upd_same, R1.sub.free hD⟩, R1.fresh hD, .nil, ys, e3, rfl⟩, ?_⟩
      rintro i m H2 ⟨hi', rfl, Gi, τi, zs, us, A, Ri, dri, rest, ei, hys⟩
      have sv : Same (minus ta H1) H2 := minus_ext A.ext
      by_cases hlt : i < items.length
      · right
        refine ⟨wk.go i H2 sv hlt, fun H' => (i + 1 ≤ items.length ∧ items.length - (i + 1) = items.length - (i + 1) ∧ ∃ Gi τi zs' us, Acc X.K ta G1 H1 Gi H' Dd (.lst us) ∧ Rel X.K ta Gi σ H' ρ τi ∧ DRs X.K Gi us zs' ∧ ∃ rest', comp2L (stepM C tg ρ (tg.slots ++ tg1.slots) cond [] inn) (items.drop (i + 1)) τi = some (rest', τ') ∧ ys = zs' ++ rest'),
          fun H' h => ⟨items.length - (i + 1), by omega, h⟩, fun x H' y => ?_⟩
        rw [List.drop_eq_getElem_cons hlt] at ei
        obtain ⟨part, τa, ea, fa⟩ := bnd_some (x := stepM C tg ρ (tg.slots ++ tg1.slots) cond [] inn items[i]) ei
        obtain ⟨r', τb, eb, fb⟩ := bnd_some fa
        cases ret_some fb
        obtain ⟨x', R', dx, kp⟩ := item_ok (tg := tg) wk hpr A.ext Ri sv (List.getElem?_eq_getElem hlt) y
        have A1 := A.step htD x'
        obtain ⟨ρ', k, τd, gc, ed, fd⟩ := stepM_some ea
        refine gT_ok (R'.wipe (tg.slots ++ tg1.slots)) dx gc fun σ2 R2 w2 => ⟨by rw [w2 _ fun _ h => List.mem_append_left _ h, wipe_wipe], Gi, ρ', _, k, τd, R2, ed, fun G3 H3 x3 R3 => ?_⟩
        have A3 := A1.step htD x3
        have R03 : Rel X.K ta G3 σ H3 ρ τd := R'.ext x3 R3.sub fun a e => (R3.tin a e).2
        cases k with
        | false =>
          cases ret_some fd
          exact iteF ⟨hlt, rfl, G3, _, zs, us, A3, R03, dri.same x3.g, r', eb, hys⟩
        | true =>
          have fd : inn ρ' τd = some (part, τa) := fd
          rw [← hin] at fd
          obtain ⟨xs1, τe, ee, fe⟩ := bnd_some (x := evEs C src1 ρ') fd
          obtain ⟨items1, τf, ef, ff⟩ := bnd_some fe
          obtain ⟨gf, rfl⟩ := of_some ef
          obtain ⟨wd1, hz1⟩ := walkC_some gf
          refine iteT ⟨G3, ρ', τd, xs1, _, items1, R3, ee, wd1, fun G4 H4 J1 x4 R4 wk1 => ?_⟩
          have A4 := A3.step htD x4
          refine ⟨fun j k H5 => j ≤ items1.length ∧ k = items1.length - j ∧ ∃ Gj τj zs' us', Acc X.K ta G1 H1 Gj H5 Dd (.lst us') ∧ Same G4 Gj ∧ Rel X.K ta Gj σ2 H5 ρ' τj ∧ Rel X.K ta Gj σ H5 ρ τj ∧ DRs X.K Gj us' zs' ∧
              ∃ rest1, compL (stepM C tg1 ρ' tg1.slots cond1 none fun ρ'' => (evE C elt ρ'').bnd fun y => .ret (some y)) (items1.drop j) τj = some (rest1, τa) ∧ zs ++ part = zs' ++ rest1,
            ⟨_, Nat.zero_le _, rfl, G4, _, zs, us, A4, (fun _ _ h => h), R4, R03.ext x4 R4.sub (fun a e => (R4.tin a e).2), dri.same (x3.g.trans x4.g), part, ff, rfl⟩, ?_⟩
          rintro j k H5 ⟨hj', rfl, Gj, τj, zs', us', Aj, sj, Rj, R0j, drj, rest1, ej, hpz⟩
          have svj : Same G4 H5 := fun b o h => Rj.sub b o (sj b o h)
          by_cases hlj : j < items1.length
          · right
            refine ⟨wk1.go j H5 svj hlj, fun H' => (j + 1 ≤ items1.length ∧ items1.length - (j + 1) = items1.length - (j + 1) ∧ ∃ Gj τj zs' us', Acc X.K ta G1 H1 Gj H' Dd (.lst us') ∧ Same G4 Gj ∧ Rel X.K ta Gj σ2 H' ρ' τj ∧ Rel X.K ta Gj σ H' ρ τj ∧ DRs X.K Gj us' zs' ∧
                ∃ rest1, compL (stepM C tg1 ρ' tg1.slots cond1 none fun ρ'' => (evE C elt ρ'').bnd fun y => .ret (some y)) (items1.drop (j + 1)) τj = some (rest1, τa) ∧ zs ++ part = zs' ++ rest1),
              fun H' h => ⟨items1.length - (j + 1), by omega, h⟩, fun x5 H' y5 => ?_⟩
            rw [List.drop_eq_getElem_cons hlj] at ej
            obtain ⟨o5, τg, eg, fg⟩ := bnd_some (x := stepM C tg1 ρ' tg1.slots cond1 none (fun ρ'' => (evE C elt ρ'').bnd fun y => .ret (some y)) items1[j]) ej
            obtain ⟨r5, τh, eh, fh⟩ := bnd_some fg
            cases ret_some fh
            have wkj : Wk X.K Gj Gj J1 items1 (pairIk ik1) := ⟨fun i H s h => wk1.go i H (fun b o q => s b o (sj b o q)) h, fun H s => wk1.stop H (fun b o q => s b o (sj b o q)), fun i H x H' d s e y => by
              rcases wk1.yld i H x H' d (fun b o q => s b o (sj b o q)) e y with ⟨h1, h2⟩ | ⟨h0, T, a, b, va, vb, h1, h2, h3, h4, h5, h6⟩
              · exact .inl ⟨h1, h2.same sj⟩
              · exact .inr ⟨h0, T, a, b, va, vb, h1, h2, h3, h4, h5.same sj, h6.same sj⟩⟩
            obtain ⟨x5', R5, dx5, kp5⟩ := item_ok (tg := tg1) wkj hpr1 (H1 := H5) Ext.refl Rj Rj.sub (List.getElem?_eq_getElem hlj) y5
            have A5 := Aj.step htD x5'
            have R05 : Rel X.K ta Gj σ H' ρ τj := R0j.ext x5' R5.sub fun a e => (R5.tin a e).2
            obtain ⟨ρ'', k5, τk, gc5, ed5, fd5⟩ := stepM_some eg
            refine gT_ok (R5.wipe tg1.slots) dx5 gc5 fun σ3 R6 w6 => ⟨by rw [w6 _ fun _ h => h, wipe_wipe], Gj, ρ'', _, k5, τk, R6, ed5, fun G6 H6 x6 R7 => ?_⟩
            have A6 := A5.step htD x6
            have R56 : Rel X.K ta G6 σ2 H6 ρ' τk := R5.ext x6 R7.sub fun a e => (R7.tin a e).2
            have R06 : Rel X.K ta G6 σ H6 ρ τk := R05.ext x6 R7.sub fun a e => (R7.tin a e).2
            cases k5 with
            | false =>
              cases ret_some fd5
              exact iteF ⟨hlj, rfl, G6, _, zs', us', A6, sj.trans x6.g, R56, R06, drj.same x6.g, r5, eh, hpz⟩
            | true =>
              have fd5 : ((evE C elt ρ'').bnd fun y => M.ret (some y)) τk = some (o5, τg) := fd5
              obtain ⟨y', τm, em, fm⟩ := bnd_some (x := evE C elt ρ'') fd5
              cases ret_some fm
              refine iteT ⟨G6, ρ'', τk, y', _, R7, em, fun v G7 H7 x7 R8 w8 => ?_⟩
              have A7 := A6.step htD x7
              have R57 : Rel X.K ta G7 σ2 H7 ρ' τg := R56.ext x7 R8.sub fun a e => (R8.tin a e).2
              have R07 : Rel X.K ta G7 σ H7 ρ τg := R06.ext x7 R8.sub fun a e => (R8.tin a e).2
              have g17 : H1 Dd = none := hD
              have hoD2 : ∀ (i : Nat) ds, ρ'[i]? = some (some (.own ds)) → σ2[i]? ≠ some (some (.ref Dd)) := fun i ds e z => by
                obtain ⟨h1, h2⟩ := setTg_own gc e
                obtain ⟨h3, h4⟩ := wipeE_some h1
                refine hoD i ds h3 ?_
                have hw := congrArg (fun l => l[i]?) (w2 tg.slots fun _ h => h)
                simp only [wipe_get, h2, h4, false_and, if_false] at hw
                rw [← hw]
                exact z
              have hlen : us'.length < sizeLine := by
                rw [drj.length]
                have l1 := congrArg List.length hpz
                have l2 := congrArg List.length hys
                simp only [List.length_append, List.length_cons] at l1 l2
                omega
              refine ⟨us', A7.at_, hlen, hlj, rfl, G7, _, zs' ++ [y'], us' ++ [v], A7.put hD, sj.trans (x6.g.trans x7.g), R57.updFree A7.free htD hoD2, R07.updFree A7.free htD hoD, (drj.same (x6.g.trans x7.g)).append (.cons w8 .nil), r5, eh, by rw [hpz]; simp⟩
          · left
            have hn : j = items1.length := by omega
            subst hn
            rw [List.drop_length] at ej
            cases ret_some ej
            rw [List.append_nil] at hpz
            refine ⟨wk1.stop H5 svj, hlt, rfl, Gj, _, zs', us', Aj, R0j, drj, r', eb, ?_⟩
            rw [hys, ← hpz, List.append_assoc]
      · left
        have hn : i = items.length := by omega
        subst hn
        rw [List.drop_length] at ei
        cases ret_some ei
        refine ⟨wk.stop H2 sv, ?_⟩
        rw [List.append_nil] at hys
        subst hys
        exact q _ Gi H2 (x1.trans A.ext) Ri (.inr ⟨Dd, .lst us, .lst ys, rfl, rfl, x1.none_of hD, htD, A.free, A.at_, .lst dri⟩)
    · cases f3
  exact ⟨key, PE.mono (pe_lc2 hc hN hi ok (fun i hi => by rw [ho]; exact List.mem_append_right _ hi) hg ht hi1 hg1 ht1 he hs hs1) key⟩
end
end KN

set_option maxRecDepth 100000
set_option maxHeartbeats 2000000
namespace KN
open PySem L2 PyProof.Rows
theorem mergeKD_snoc : ∀ (acc l : List (D × D)) (k v : D), mergeKD acc (l ++ [(k, v)]) = putKD (mergeKD acc l) k v
  | acc, [], k, v => rfl
  | acc, (j, u) :: r, k, v => mergeKD_snoc (putKD acc j u) r k v
theorem putKD_len (l : List (D × D)) (k v : D) : (putKD l k v).length ≤ l.length + 1 := by
  unfold putKD
  split
  · rw [List.length_map]; omega
  · simp
theorem pairsD_cons {x : D} {r : List D} {kvs : List (D × D)} (h : pairsD (x :: r) = some kvs) : ∃ p l, pairD x = some p ∧ pairsD r = some l ∧ kvs = p :: l := by
  simp only [pairsD] at h
  split at h
  · rename_i p l h1 h2
    cases h
    exact ⟨p, l, h1, h2, rfl⟩
  · cases h
section
variable {X : Cx} {ta : Option Addr} {C : Nat → List D → M D}
theorem lk_fresh {K : Fg} {G H G1 H1 : Hp} {σ : L2.St} {ρ : En} {τ : List D} {Dd : Addr} {ks : List (Key × V)} {ds : List (D × D)} {Q : VK} (R : Rel K ta G1 σ H1 ρ τ) (x : Ext ta G H G1 H1) (h0 : H Dd = none) (ht : ta ≠ some Dd) (hf : G1 Dd = none) (ha : H1 Dd = some (.dK ks)) (hoD : ∀ (i : Nat) ds, ρ[i]? = some (some (.own ds)) → σ[i]? ≠ some (some (.ref Dd))) (dr : DRk K G1 ks ds)
    (q : ∀ v G' H', Ext ta G H G' H' → Rel K ta G' σ H' ρ τ → Val K ta H G' H' .fresh v (.dict ds) → Q v H') : lk Q (.ref Dd) H1 := by
  refine .inr ⟨Dd, ks, rfl, ha, fun od => ?_⟩
  exact q _ G1 _ (x.updNew h0) (R.updFree hf ht hoD) (.inr ⟨Dd, .frz od (.dK ks), .dic ds, rfl, rfl, h0, ht, hf, upd_same, .dic dr⟩)
theorem rd_dcomp {kx vx tg' it : Expr} {ifs : List Expr} {scope : Scope} {own : List (Str × Nat)} {pos : Pos} {ke ve cond : E} {tg : Tg} {ik : IK} {src : List E}
    (hc : X.calm = true) (hN : X.N.Nodup) (hi : PI X tg' it (tI X.K ta C ik src)) (ok : BlkOk X.N X.env.scope scope own) (ho : own.map (·.2) = tg.slots)
    (hg : ∀ (s : Shared) (H : Hp) (C' : Addr) (cl : List (Str × Addr)) (fp : List Addr), PG (X.blk s H scope (compEnvC scope cl C' X.env) fp) tg' (gT X.K tg))
    (ht : ∀ (s : Shared) (H : Hp) (C' : Addr) (cl : List (Str × Addr)) (fp : List Addr), PTs (X.blk s H scope (compEnvC scope cl C' X.env) fp) ifs (tCond X.K ta C cond))
    (hk : ∀ (s : Shared) (H : Hp) (C' : Addr) (cl : List (Str × Addr)) (fp : List Addr), PE (X.blk s H scope (compEnvC scope cl C' X.env) fp) kx (tE X.K ta C .dat ke))
    (he : ∀ (s : Shared) (H : Hp) (C' : Addr) (cl : List (Str × Addr)) (fp : List Addr), PE (X.blk s H scope (compEnvC scope cl C' X.env) fp) vx (tE X.K ta C .dat ve)) (hs : ∀ x, foldedSetIterable it X.env x = pure x) (hpr : pairIk ik = true → ∃ is, tg = .tup is) :
    PE X (.DictComp kx vx [⟨tg', it, ifs, 0⟩] scope pos) (tE X.K ta C .fresh (.dcomp ke ve tg ik src cond)) := by
  refine PE.mono (pe_lk (pe_dc hc hN hi ok hg ht hk he hs)) fun σ H Q h => ?_
  rw [ho]
  obtain ⟨G, ρ, τ, d, τ', R, e, q⟩ := h
  obtain ⟨xs, τ1, e1, f1⟩ := bnd_some (x := evEs C src ρ) e
  obtain ⟨items, τ2, e2, f2⟩ := bnd_some f1
  obtain ⟨g2, rfl⟩ := of_some e2
  obtain ⟨ys, τ3, e3, f3⟩ := bnd_some f2
  obtain ⟨kvs, τ4, e4, f4⟩ := bnd_some f3
  obtain ⟨g4, rfl⟩ := of_some e4
  cases ret_some f4
  obtain ⟨wd, hz⟩ := walkC_some g2
  refine ⟨G, ρ, τ, xs, _, items, R, e1, wd, fun G1 H1 J x1 R1 wk Dd hD => ?_⟩
  have e3 : compL (stepM C tg ρ tg.slots cond none fun ρ' => (evE C ke ρ').bnd fun y => (evE C ve ρ').bnd fun z => .ret (some (.tuple [y, z]))) items τ2 = some (ys, τ') := e3
  generalize hf : (stepM C tg ρ tg.slots cond none fun ρ' => (evE C ke ρ').bnd fun y => (evE C ve ρ').bnd fun z => M.ret (some (PyData.tuple [y, z]))) = f at e3
  have htD : ta ≠ some Dd := fun z => by
    obtain ⟨_, vs, h2, _⟩ := R1.tin Dd z
    rw [hD] at h2; cases h2
  have hoD : ∀ (i : Nat) ds, ρ[i]? = some (some (.own ds)) → σ[i]? ≠ some (some (.ref Dd)) := fun i ds e z => R1.ownThere i ds e Dd z hD
  refine ⟨fun i m H2 => i ≤ items.length ∧ m = items.length - i ∧ ∃ Gi τi dn ks, Acc X.K ta G1 H1 Gi H2 Dd (.dK ks) ∧ Rel X.K ta Gi σ H2 ρ τi ∧ DRk X.K Gi ks (mergeKD [] dn) ∧ ks.length ≤ i ∧ ∃ rest rk, compL f (items.drop i) τi = some (rest, τ') ∧ pairsD rest = some rk ∧ kvs = dn ++ rk,
    ⟨_, Nat.zero_le _, rfl, G1, _, [], [], ⟨Ext.fresh hD, upd_same, R1.sub.free hD⟩, R1.fresh hD, .nil, Nat.le_refl _, ys, kvs, e3, g4, rfl⟩, ?_⟩
  rintro i m H2 ⟨hi', rfl, Gi, τi, dn, ks, A, Ri, dri, hl, rest, rk, ei, pk, rfl⟩
  have sv : Same (minus ta H1) H2 := minus_ext A.ext
  by_cases hlt : i < items.length
  · right
    refine ⟨wk.go i H2 sv hlt, fun H' => (i + 1 ≤ items.length ∧ items.length - (i + 1) = items.length - (i + 1) ∧ ∃ Gi τi dn' ks, Acc X.K ta G1 H1 Gi H' Dd (.dK ks) ∧ Rel X.K ta Gi σ H' ρ τi ∧ DRk X.K Gi ks (mergeKD [] dn') ∧ ks.length ≤ i + 1 ∧ ∃ rest' rk', compL f (items.drop (i + 1)) τi = some (rest', τ') ∧ pairsD rest' = some rk' ∧ dn ++ rk = dn' ++ rk'),
      fun H' h => ⟨items.length - (i + 1), by omega, h⟩, fun x H' y => ?_⟩
    rw [List.drop_eq_getElem_cons hlt] at ei
    obtain ⟨o, τa, ea, fa⟩ := bnd_some (x := f items[i]) ei
    obtain ⟨r', τb, eb, fb⟩ := bnd_some fa
    cases ret_some fb
    obtain ⟨x', R', dx, kp⟩ := item_ok (tg := tg) wk hpr A.ext Ri sv (List.getElem?_eq_getElem hlt) y
    have A1 := A.step htD x'
    rw [← hf] at ea
    obtain ⟨ρ', k, τd, gc, ed, fd⟩ := stepM_some ea
    refine gT_ok (R'.wipe tg.slots) dx gc fun σ2 R2 w2 => ⟨by rw [w2 _ fun _ h => h, wipe_wipe], Gi, ρ', _, k, τd, R2, ed, fun G3 H3 x3 R3 => ?_⟩
    have A3 := A1.step htD x3
    have R03 : Rel X.K ta G3 σ H3 ρ τd := R'.ext x3 R3.sub fun a e => (R3.tin a e).2
    cases k with
    | false =>
      cases ret_some fd
      exact iteF ⟨hlt, rfl, G3, _, dn, ks, A3, R03, dri.same x3.g, Nat.le_succ_of_le hl, r', rk, eb, pk, rfl⟩
    | true =>
      have fd : ((evE C ke ρ').bnd fun y => (evE C ve ρ').bnd fun z => M.ret (some (PyData.tuple [y, z]))) τd = some (o, τa) := fd
      obtain ⟨y', τe, ee, fe⟩ := bnd_some (x := evE C ke ρ') fd
      obtain ⟨z', τf, ef, ff⟩ := bnd_some fe
      cases ret_some ff
      obtain ⟨p, l, p1, p2, rfl⟩ := pairsD_cons pk
      simp only [pairD] at p1
      split at p1
      · rename_i hkey
        cases p1
        obtain ⟨kk, rfl⟩ := isKey_kD hkey
        refine iteT ⟨G3, ρ', τd, _, τe, R3, ee, fun v G4 H4 x4 R4 w4 => ⟨G4, ρ', τe, z', _, R4, ef, fun v5 G5 H5 x5 R5 w5 => ?_⟩⟩
        have A5 := (A3.step htD x4).step htD x5
        have R05 : Rel X.K ta G5 σ H5 ρ _ := (R03.ext x4 R4.sub fun a e => (R4.tin a e).2).ext x5 R5.sub fun a e => (R5.tin a e).2
        have dr5 := putK_dr kk w5 (dri.same (x3.g.trans (x4.g.trans x5.g)))
        refine ⟨ks, kk, V_kD w4, A5.at_, by omega, hlt, rfl, G5, _, dn ++ [(kD kk, z')], putK ks kk v5, A5.put hD, R05.updFree A5.free htD hoD, by rw [mergeKD_snoc]; exact dr5, ?_, r', l, eb, p2, by simp⟩
        rw [dr5.length]
        have := putKD_len (mergeKD [] dn) (kD kk) z'
        rw [← dri.length] at this
        omega
      · cases p1
  · left
    have hn : i = items.length := by omega
    subst hn
    rw [List.drop_length] at ei
    cases ret_some ei
    cases pk
    rw [List.append_nil] at q
    exact ⟨wk.stop H2 sv, lk_fresh Ri (x1.trans A.ext) (x1.none_of hD) htD A.free A.at_ hoD dri q⟩
/-! ### displays of dicts, d.get(k, x) -/
theorem rd_dic0 {pos : Pos} : PE X (.Dict [] [] pos) (tE X.K ta C .fresh (.dic0)) :=
  PE.mono (pe_lk pe_dnewK) fun σ H Q h => by
    obtain ⟨G, ρ, τ, d, τ', R, e, q⟩ := h
    cases ret_some e
    intro p hp
    have htD : ta ≠ some p := fun z => by
      obtain ⟨_, vs, h2, _⟩ := R.tin p z
      rw [hp] at h2; cases h2
    exact lk_fresh (R.fresh hp) (Ext.fresh hp) hp htD (R.sub.free hp) upd_same (fun i ds e z => R.ownThere i ds e p z hp) .nil q
theorem rd_dic1 {k v : Expr} {a b : E} {pos : Pos} (ha : PE X k (tE X.K ta C .dat a)) (hb : PE X v (tE X.K ta C .dat b)) : PE X (.Dict [some k] [v] pos) (tE X.K ta C .fresh (.dic1 a b)) :=
  PE.mono (pe_lk (pe_disp (pps_cons ha hb pps_nil) rfl rfl (by simp) (by simp))) fun σ H Q h => by
    obtain ⟨G, ρ, τ, d, τ', R, e, q⟩ := h
    obtain ⟨y, τ2, e2, f2⟩ := bnd_some (x := evE C a ρ) e
    obtain ⟨z, τ4, e4, f4⟩ := bnd_some f2
    have f4 : (if isKey y then M.ret (PyData.dict [(y, z)]) else M.fail) τ4 = some (d, τ') := f4
    split at f4
    · rename_i hk
      cases ret_some f4
      obtain ⟨kk, rfl⟩ := isKey_kD hk
      intro p hp
      have htD : ta ≠ some p := fun z => by
        obtain ⟨_, vs, h2, _⟩ := R.tin p z
        rw [hp] at h2; cases h2
      have hoD : ∀ (i : Nat) ds, ρ[i]? = some (some (.own ds)) → σ[i]? ≠ some (some (.ref p)) := fun i ds e z => R.ownThere i ds e p z hp
      refine ⟨G, ρ, τ, _, τ2, R.fresh hp, e2, fun v1 G1 H1 x1 R1 w1 => ⟨G1, ρ, τ2, z, _, R1, e4, fun v2 G2 H2 x2 R2 w2 => ?_⟩⟩
      have A : Acc X.K ta G H G2 H2 p (.dK []) := ((⟨Ext.fresh hp, upd_same, R.sub.free hp⟩ : Acc X.K ta G H G (upd H p (.dK [])) p (.dK [])).step htD x1).step htD x2
      refine ⟨A.at_, [(kk, v2)], ?_, by simp, ?_⟩
      · show [(v1, v2)] = [(kV kk, v2)]
        rw [V_kD w1]
      · have dr : DRk X.K G2 (mergeK [] [(kk, v2)]) [(kD kk, z)] := mergeK_dr (.cons w2 .nil) .nil
        exact lk_fresh (R2.updFree A.free htD hoD) (A.put hp).ext hp htD A.free upd_same hoD dr q
    · cases f4
theorem rd_dget {o y z : Expr} {a k x : E} {ka kk : Kd} {ap cp : Pos} (hu : X.A.units + 64 < cLine) (ha : PE X o (tE X.K ta C ka a)) (hk : PE X y (tE X.K ta C kk k)) (hx : PE X z (tE X.K ta C .dat x)) (hb : baseOk o = true) (ny : notStar y = true) (nz : notStar z = true) (hl : (ap.endLine == cp.line) = true) :
    PE X (.Call (.Attribute o "get" ap) [y, z] [] cp) (tE X.K ta C .dat (.dget a k x)) := by
  have tr : starEach [y, z] X.env = [(false, eval y X.env), (false, eval z X.env)] := by rw [star_no ny, star_no nz]; rfl
  have m2 : M2 X o "get" ap y z cp := ⟨base_of hb, by rw [tr]; rfl, hl, by rw [tr]; rfl⟩
  refine PE.mono (pe_dget2 (by omega) ha hk hx m2) fun σ H Q h => ?_
  obtain ⟨G, ρ, τ, d, τ', R, e, q⟩ := h
  obtain ⟨d1, τ1, e1, f1⟩ := bnd_some (x := evE C a ρ) e
  obtain ⟨d2, τ2, e2, f2⟩ := bnd_some f1
  obtain ⟨d3, τ3, e3, f3⟩ := bnd_some f2
  obtain ⟨g3, rfl⟩ := of_some f3
  refine ⟨G, ρ, τ, d1, τ1, R, e1, fun v1 G1 H1 x1 R1 w1 => ?_⟩
  cases d1 with
  | dict ds =>
    have g3 : (if isKey d2 then some ((lookK ds d2).getD d3) else none) = some d := g3
    split at g3
    · rename_i hky
      cases g3
      obtain ⟨kk, rfl⟩ := isKey_kD hky
      obtain ⟨p, od, ks, rfl, hp, dr⟩ := w1.view.dic R1.sub
      refine ⟨p, rfl, .inl ⟨ks, .inr ⟨od, hp⟩⟩, G1, ρ, τ1, _, τ2, R1, e2, fun v2 G2 H2 x2 R2 w2 => ⟨G2, ρ, τ2, d3, _, R2, e3, fun v3 G3 H3 x3 R3 w3 => ?_⟩⟩
      have vw := ((w1.view.ext x2).ext x3)
      obtain ⟨p', od', ks', e', hp', dr'⟩ := vw.dic R3.sub
      cases e'
      have hv2 : v2 = kV kk := V_kD ((w2.view.dr (still_kD kk)))
      refine ⟨valV ks' kk, .inl ⟨ks', kk, .inr ⟨od', hp'⟩, hv2, rfl⟩, ?_⟩
      rcases dr'.look kk with ⟨h1, h2⟩ | ⟨w, z', h1, h2, h3⟩
      · rw [h1]
        rw [h2] at q
        exact q v3 G3 H3 ((x1.trans x2).trans x3) R3 w3
      · rw [h1]
        rw [h2] at q
        exact q w G3 H3 ((x1.trans x2).trans x3) R3 h3
    · cases g3
  | _ => cases g3
end
end KN

set_option maxRecDepth 100000
set_option maxHeartbeats 2000000
namespace KN
open PySem PySem.SeqAt PySem.Calls PySem.Spec L2 PyProof.Rows PySem.W
/-! ### sorted(d.items()) -/
def putF : Hp → List (Addr × HO) → Hp
  | H, [] => H
  | H, p :: r => putF (upd H p.1 p.2) r
theorem putF_off {b : Addr} : ∀ (l : List (Addr × HO)) (H : Hp), b ∉ l.map (·.1) → putF H l b = H b
  | [], _, _ => rfl
  | p :: l, H, h => by
    rw [List.map_cons, List.mem_cons, not_or] at h
    show putF (upd H p.1 p.2) l b = H b
    rw [putF_off l _ h.2, upd_ne h.1]
theorem putF_at : ∀ (l : List (Addr × HO)) (H : Hp), (l.map (·.1)).Nodup → ∀ q ∈ l, putF H l q.1 = some q.2
  | [], _, _, _, h => nomatch h
  | p :: l, H, nd, q, h => by
    rw [List.map_cons, List.nodup_cons] at nd
    show putF (upd H p.1 p.2) l q.1 = some q.2
    rcases List.mem_cons.1 h with rfl | h
    · rw [putF_off l _ nd.1, upd_same]
    · exact putF_at l _ nd.2 q h
theorem putF_keep {l : List (Addr × HO)} {H : Hp} (new : ∀ a ∈ l.map (·.1), H a = none) {b : Addr} {u : HO} (h : H b = some u) : putF H l b = some u := by
  rw [putF_off l H fun z => by rw [new b z] at h; cases h]
  exact h
theorem putF_same {G H : Hp} (sm : Same G H) {l : List (Addr × HO)} (nd : (l.map (·.1)).Nodup) : Same (putF G l) (putF H l) := fun b u h => by
  by_cases hb : b ∈ l.map (·.1)
  · obtain ⟨q, hq, rfl⟩ := List.mem_map.1 hb
    rw [putF_at l G nd q hq] at h
    rw [putF_at l H nd q hq]
    exact h
  · rw [putF_off l G hb] at h
    rw [putF_off l H hb]
    exact sm _ _ h
theorem putF_ext {G H : Hp} (sm : Same G H) {l : List (Addr × HO)} (new : ∀ a ∈ l.map (·.1), H a = none) : Ext none G H (putF G l) (putF H l) where
  g := fun b u h => by
    rw [putF_off l G fun z => by have := sm _ _ h; rw [new b z] at this; cases this]
    exact h
  new := fun b u h => by
    by_cases hb : b ∈ l.map (·.1)
    · exact .inr (new b hb)
    · rw [putF_off l G hb] at h
      exact .inl h
  keep := fun b u _ h => putF_keep new h
  there := fun b u h => ⟨u, putF_keep new h⟩
section
variable {X : Cx}
theorem laid_many {pins : List (Addr × Obj)} {σ : L2.St} {H : Hp} {s : Shared} {h' : Heap} {tk : Nat} {l : List (Addr × HO)} (I : L2.Inv X pins σ H s) (hk : ∀ b o, s.heap.get? b = some o → h'.get? b = some o) (lo : ∀ a ∈ l.map (·.1), s.heap.objs.size ≤ a) (nd : (l.map (·.1)).Nodup)
    (ok : ∀ q ∈ l, ObjOk X.prog X.w (putF H l) h' q.1 q.2) : L2.Inv X pins σ (putF H l) { s with heap := h', toks := tk } := by
  have new : ∀ a ∈ l.map (·.1), H a = none := fun a ha => I.hok.fresh (lo a ha)
  have kp : ∀ b u, H b = some u → putF H l b = some u := fun b u h => putF_keep new h
  refine I.call' (ch := []) rfl ⟨fun b o q _ _ _ => hk b o q, fun b o q _ _ _ => ⟨o.slots, hk b o q⟩, fun b o q n _ => ?_, fun b o q _ => ⟨o, hk b o q⟩, fun b xs q => kp b _ q, fun b o u q => kp b _ q, fun b ps q => ⟨#[], by rw [kp b _ q]; simp⟩⟩ (fun b u q => ?_) I.bare fun b z => by simp at z
  · rw [putF_off l H fun z => absurd (Heap.lt_size q) (Nat.not_lt.mpr (lo b z))]
    exact n
  · by_cases hb : b ∈ l.map (·.1)
    · obtain ⟨q', hq, rfl⟩ := List.mem_map.1 hb
      rw [putF_at l H nd q' hq] at q
      cases q
      exact ok q' hq
    · rw [putF_off l H hb] at q
      exact (I.hok b u q).stay (fun d v _ y => hk d v y) (fun d y => kp d _ y) fun d xs y => kp d _ y
end
/-- the tuples of a dict's items, as they lie -/
def tupsF (h : Heap) : List Addr → List (Key × V) → List (Addr × HO)
  | a :: as, p :: r => (a, .frz ((h.get? a).getD { cls := .none, data := .fields #[] }) (.tup [kV p.1, p.2])) :: tupsF h as r
  | _, _ => []
theorem tupsF_keys {h : Heap} : ∀ (as : List Addr) (kvs : List (Key × V)), as.length = kvs.length → (tupsF h as kvs).map (·.1) = as
  | [], [], _ => rfl
  | [], _ :: _, e => nomatch e
  | _ :: _, [], e => nomatch e
  | a :: as, p :: r, e => by
    show a :: (tupsF h as r).map (·.1) = _
    rw [tupsF_keys as r (Nat.succ.inj e)]
theorem tupsF_mem {h : Heap} : ∀ {as : List Addr} {kvs : List (Key × V)} {q : Addr × HO}, q ∈ tupsF h as kvs → ∃ (j : Nat) (p : Key × V), as[j]? = some q.1 ∧ kvs[j]? = some p ∧ q.2 = .frz ((h.get? q.1).getD { cls := .none, data := .fields #[] }) (.tup [kV p.1, p.2])
  | [], _, q, hq => by cases hq
  | _ :: _, [], q, hq => by cases hq
  | a :: as, p :: r, q, hq => by
    rcases List.mem_cons.1 hq with rfl | hq
    · exact ⟨0, p, rfl, rfl, rfl⟩
    · obtain ⟨j, p', e1, e2, e3⟩ := tupsF_mem hq
      exact ⟨j + 1, p', e1, e2, e3⟩
theorem tupsF_drs {K : Fg} {G' : Hp} {h : Heap} : ∀ {as : List Addr} {kvs : List (Key × V)} {ds : List (D × D)}, DRk K G' kvs ds → as.length = kvs.length → (∀ a ∈ as, ∃ o, h.get? a = some o ∧ o.dict = none) → (∀ q ∈ tupsF h as kvs, G' q.1 = some q.2) → DRs K G' (as.map V.ref) (itmD ds)
  | [], _, _, .nil, _, _, _ => .nil
  | [], _, _, .cons _ _, e, _, _ => nomatch e
  | _ :: _, _, _, .nil, e, _, _ => nomatch e
  | a :: as, _, _, .cons (k := k) (v := v) (vs := vs) (d := d) h1 r, e, ho, ht => by
    obtain ⟨o, ho1, ho2⟩ := ho a List.mem_cons_self
    have h0 := ht (a, .frz ((h.get? a).getD { cls := .none, data := .fields #[] }) (.tup [kV k, v])) List.mem_cons_self
    rw [ho1] at h0
    have kd : DR K G' (kV k) (kD k) := by
      cases k with
      | inl i => exact .int i
      | inr i => exact .str i
    exact .cons (.tup ⟨o, h0, ho2⟩ (.cons kd (.cons h1 .nil))) (tupsF_drs r (Nat.succ.inj e) (fun a ha => ho a (List.mem_cons_of_mem _ ha)) fun q hq => ht q (List.mem_cons_of_mem _ hq))
section
variable {prog : Program} {w : World} {A : Around} {E : Value → Shared → Prop} {s : Shared} {ι : Type}
theorem sorted_gen2 {x : Value} {ds : List D} {P : ι → List Value → Heap → Prop} {R : ι → Heap → Value → D → Prop} {Q : Value → Shared → Prop} (ha : argsOk "sorted" ⟨[x], []⟩)
    (hcol : ∀ (Q' : List Value → Shared → Prop) (E' : Value → Shared → Prop), (∀ i vs h' tk, s.heap.objs.size ≤ h'.objs.size → (∀ b o, s.heap.get? b = some o → h'.get? b = some o) → P i vs h' → Q' vs { s with heap := h', toks := tk }) → wpAny (model prog w) A.in1 (collect x) Q' E' s)
    (e : ∀ i vs h, P i vs h → EachIs (R i h) vs ds) (er : ∀ i vs h, P i vs h → EachIs (fun v d => ∃ as, Reads h v d as) vs ds) (hal : allAlike ds = true) (hL : ds.length ≤ sizeLine) (hu : A.units + 62 < cLine)
    (h : ∀ i vs (p : Addr) (out : List Value) (h1 h' : Heap) (tk c : Nat), P i vs h1 → (∀ b o, s.heap.get? b = some o → h1.get? b = some o) → h1.objs.size ≤ p → (∀ b o, h1.get? b = some o → h'.get? b = some o) → h'.get? p = some (seqObj "list" out.toArray c) → EachIs (R i h1) out (sortD ds) → out.length = ds.length → Q (.ref p) { s with heap := h', toks := tk }) :
    wpAny (model prog w) A (call (.builtin "sorted") [x]) Q E s := by
  have em : ds.map (fun d : D => d) = ds := List.map_id' ds
  have h2 : ∀ d ∈ ds, ∀ d' ∈ ds, alike d d' = true := fun d hd d' hd' => by
    have := List.all_eq_true.mp hal d hd
    simp only [Bool.and_eq_true, List.all_eq_true] at this
    exact this.2 d' hd'
  refine call_function_entry_kw kind_sorted plain_sorted entry_sorted ha ?_
  unfold Builtin.«sorted»
  refine wpAny_bind (m := checkCount "sorted" 1 1 _) (wpAny_pure ?_)
  refine wpAny_bind (hcol _ _ fun i vs h1 tk hge kp0 hP => ?_)
  have e := e i vs h1 hP
  have er := er i vs h1 hP
  have hlen : vs.length = ds.length := e.length
  refine wpAny_bind (wpAny_newList ?_ (by rw [hlen]; exact hL))
  have hoL : (h1.push (seqObj "list" vs.toArray 0)).get? h1.objs.size = some (seqObj "list" vs.toArray 0) := Heap.get?_push_size _ rfl
  have keep : ∀ b o, h1.get? b = some o → b ≠ h1.objs.size ∧ (h1.push (seqObj "list" vs.toArray 0)).get? b = some o := fun b o q =>
    ⟨Nat.ne_of_lt (Heap.lt_size q), Heap.get?_push_of_some _ q⟩
  have er' : EachIs (fun v d => ∃ as, Reads (sortingHeap (h1.push (seqObj "list" vs.toArray 0)) h1.objs.size vs) v d as) vs ds :=
    er.mono fun _ _ ⟨as, r⟩ => ⟨as, PyProof.Rows.Reads.keeps (fun b o q => sortingHeap_old (keep b o q).1 (keep b o q).2) r⟩
  refine wpAny_bind (wpAny_holding (wpAny_call_entry_kw slot_list_sort ⟨_, hoL, rfl⟩ entry_list_sort ?body (args_list_sort _)))
  have S : SortsAt prog w A.in1.in1 { ({ s with heap := h1.push (seqObj "list" vs.toArray 0), toks := tk } : Shared) with heap := sortingHeap (h1.push (seqObj "list" vs.toArray 0)) h1.objs.size vs } (dataKind (sortingHeap (h1.push (seqObj "list" vs.toArray 0)) h1.objs.size vs) ds) vs :=
    sorts_ok er' hal (show A.units + 1 + 1 + 60 < cLine by omega)
  refine list_sort_vals (s := { s with heap := h1.push (seqObj "list" vs.toArray 0), toks := tk }) hoL S (by rw [hlen]; exact hL) ?_
  refine ⟨_, rfl, wpAny_pure ⟨_, rfl, ?_⟩⟩
  obtain ⟨c, hat⟩ := sortedHeap_at (out := (sortVals (dataKind (sortingHeap (h1.push (seqObj "list" vs.toArray 0)) h1.objs.size vs) ds) false vs vs).toArray) hoL
  have sv := sortVals_data (enc := fun d : D => d) false e er' (by rw [em]; exact h2)
  rw [em, merge_eq h2] at sv
  refine h i vs h1.objs.size _ h1 _ tk c hP kp0 (Nat.le_refl _) (fun b o q => ?_) hat sv ?_
  · rw [sortedHeap_old (keep b o q).1 (Heap.lt_size (keep b o q).2)]
    exact (keep b o q).2
  · rw [sortVals_length false rfl]; exact hlen
end
section
variable {X : Cx} {ta : Option Addr} {C : Nat → List D → M D} {t a b : E}
def tSitm (K : Fg) (te : TE) : TE := fun σ H Q => te σ H fun x H1 => ∃ (d : Addr) (od : Obj) (kvs : List (Key × V)) (G : Hp) (ds : List (D × D)), x = .ref d ∧ H1 d = some (.frz od (.dK kvs)) ∧ Same G H1 ∧ DRk K G kvs ds ∧ allAlike (itmD ds) = true ∧
  ∀ (l : List (Addr × HO)) (ys : List V) (p : Addr), (l.map (·.1)).Nodup → (∀ a ∈ l.map (·.1), H1 a = none) → DRs K (putF G l) ys (sortD (itmD ds)) → putF H1 l p = none → Q (.ref p) (upd (putF H1 l) p (.lst ys))
theorem pe_sitm {o : Expr} {te : TE} {p ap cp pos : Pos} (hc : X.calm = true) (hu : X.A.units + 64 < cLine) (hg : Gl X "sorted") (hm0 : X.mg "sorted" = none) (he : PE X o te) (hb : baseOk o = true) (hl : (ap.endLine == cp.line) = true) :
    PE X (.Call (.Name "sorted" p) [.Call (.Attribute o "items" ap) [] [] cp] [] pos) (tSitm X.K te) := by
  refine ⟨fun pins s σ H Q I h => ?_⟩
  refine Call_ (ld_blt I hg hm0 boot_sorted ?_)
  refine PyProof.Rows.callWith_builtin1 (PyProof.Rows.args_cons ?_ rfl) rfl rfl
  refine wpAny_Call_method (T := "dict") (id := "dict.items") (base_of hb) rfl hl F.plainAttrs_dict F.slot_dict_items F.type_dict_items (thn (he.run pins s σ H _ I h) fun u s1 ⟨x, H1, I1, rx, d, od, kvs, G, ds, ex, hd, sm, dr, hal, q⟩ => ?_)
  subst ex
  obtain rfl : u = Value.ref d := rx
  obtain ⟨hs, hgd, hx, es, ep, vs, hdt, hsz, kv, hm⟩ := I1.frzK hd
  have lk : kvs.length = vs.length := Paired.length kv
  have hz : kvs.length ≤ sizeLine := (I1.hok d _ hd).2.1
  refine ⟨hm.dictOf.typeIs, hm.dictOf.mapOf.noDict, ?_⟩
  have I2 : L2.Inv X pins σ H1 { s1 with heap := s1.heap.push { cls := .type "dict_items", data := .fields #[.ref d] } } := I1.kept (t' := s1.toks) fun b ob q => Heap.get?_push_of_some _ q
  show wpAny _ _ (callWith cp (.builtin "dict.items") [.ref d] [] []) _ X.xe s1
  refine method_meetsIn F.slot_dict_items F.entry_dict_items rfl (PySem.evalArgs_none ⟨rfl, hm.dictOf.typeIs, F.args_dict_items_1 _, _, meets_dict_items (mixKind X.prog X.w) d hs, ⟨vs, hm.dictOf⟩, ?_⟩)
  refine PyProof.Rows.args_nil ?_
  have dl := dr.length
  have li : (itmD ds).length = ds.length := List.length_map _
  obtain ⟨lay, _⟩ := alike_lay hal
  refine sorted_gen2 (ι := List Addr) (ds := itmD ds) (P := fun as us h => us = as.map Value.ref ∧ as.Nodup ∧ (∀ a ∈ as, H1 a = none) ∧ as.length = kvs.length ∧ (∀ tk, L2.Inv X pins σ (putF H1 (tupsF h as kvs)) { s1 with heap := h, toks := tk }) ∧ DRs X.K (putF G (tupsF h as kvs)) (as.map V.ref) (itmD ds))
    (R := fun as h u d => ∃ x, RelV x u ∧ DR X.K (putF G (tupsF h as kvs)) x d) (args_sorted1 _) (fun Q' E' f => ?_) (fun as us h hP => ?_) (fun as us h hP => ?_) hal (by omega) (by omega) fun as us p out h1 h' tk c hP kp0 hp kp hat ev hlo => ?_
  · refine kdx_collect (A := X.A.in1) (knd := mixKind X.prog X.w) (kvs := vs) (ep := ep) (I1.ok.hd hc) ⟨_, Heap.get?_push_size _ rfl, rfl, rfl⟩ (hm.push _) (by omega) fun h' tk as hk hl' hG => f as _ h' tk ?_ hk ?_
    · have := Heap.lt_size (hk _ _ (Heap.get?_push_size s1.heap (o := { cls := .type "dict_items", data := .fields #[.ref d] }) rfl))
      exact (by
        show (s1.heap.push { cls := .type "dict_items", data := .fields #[.ref d] }).objs.size ≤ _
        rw [Heap.size_push]
        exact this)
    · have nd : as.Nodup := List.Pairwise.imp (fun {a b} (h : a < b) => Nat.ne_of_lt h) hG.rise
      have ek : (tupsF h' as kvs).map (·.1) = as := tupsF_keys as kvs (by omega)
      have obj : ∀ a ∈ as, ∃ o, h'.get? a = some o ∧ o.dict = none := fun a ha => by
        obtain ⟨j, hj⟩ := List.mem_iff_getElem?.mp ha
        obtain ⟨_, _, _, _, _, f3⟩ := hG.pairs j a hj
        exact ⟨_, f3, rfl⟩
      have new : ∀ a ∈ as, H1 a = none := fun a ha => I2.hok.fresh (Nat.le_of_lt (hG.above a ha))
      refine ⟨rfl, nd, new, by omega, fun tk => ?_, ?_⟩
      · refine laid_many (s := { s1 with heap := s1.heap.push { cls := .type "dict_items", data := .fields #[.ref d] } }) I2 hk (by rw [ek]; exact fun a ha => Nat.le_of_lt (hG.above a ha)) (by rw [ek]; exact nd) fun q' hq => ?_
        obtain ⟨j, pk, e1, e2, e3⟩ := tupsF_mem hq
        obtain ⟨key, k, x, f1, f2, f3⟩ := hG.pairs j q'.1 e1
        obtain ⟨qv, g1, g2, g3⟩ := LiI.paired_get kv e2
        rw [f1] at g1
        cases g1
        have rk : RelV (kV pk.1) key := by
          rw [g2]
          exact relV_key (show keyIs k key = true from f2)
        rw [e3, f3]
        exact ⟨f3, by show 2 ≤ sizeLine; decide, [key, x], .cons rk (.cons g3 .nil), ⟨_, f3, rfl, _, rfl⟩⟩
      · have sg := putF_ext (l := tupsF h' as kvs) sm (by rw [ek]; exact new)
        exact tupsF_drs (dr.same sg.g) (by omega) obj fun q' hq => putF_at _ _ (by rw [ek]; exact nd) q' hq
  · obtain ⟨rfl, nd, new, la, J, dd⟩ := hP
    exact each_of dd (LiI.vals_refs as)
  · obtain ⟨rfl, nd, new, la, J, dd⟩ := hP
    have ek : (tupsF h as kvs).map (·.1) = as := tupsF_keys as kvs la
    obtain ⟨zs, rd⟩ := Dp.readsAll (J 0) _ _ _ ((dd.same (putF_same sm (by rw [ek]; exact nd))).dp lay) (LiI.vals_refs as)
    exact each_reads rd
  · obtain ⟨rfl, nd, new, la, J, dd⟩ := hP
    have ek : (tupsF h1 as kvs).map (·.1) = as := tupsF_keys as kvs la
    obtain ⟨ys, h1', h2⟩ := of_each ev
    have J := J tk
    have hn : putF H1 (tupsF h1 as kvs) p = none := J.hok.fresh hp
    have hly : ys.length ≤ sizeLine := by rw [h1'.length, hlo]; omega
    exact ⟨.ref p, _, J.laid (t' := tk) kp hp (show ObjOk X.prog X.w _ h' p (.lst ys) from ⟨hly, out, c, h1', hat⟩), rfl, q _ ys p (by rw [ek]; exact nd) (by rw [ek]; exact new) h2 hn⟩
theorem rd_sitm {k : Kd} {o : Expr} {p ap cp pos : Pos} (hc : X.calm = true) (hu : X.A.units + 64 < cLine) (hb : ∀ x ∈ biL, X.mg x = none) (hg : Gl X "sorted") (ha : PE X o (tE X.K ta C k t)) (hbo : baseOk o = true) (hl : (ap.endLine == cp.line) = true) :
    PE X (.Call (.Name "sorted" p) [.Call (.Attribute o "items" ap) [] [] cp] [] pos) (tE X.K ta C .fresh (.sitm t)) := by
  refine PE.mono (pe_sitm hc hu hg (hb _ (by decide)) ha hbo hl) fun σ H Q h => ?_
  obtain ⟨G, ρ, τ, d, τ', R, e, q⟩ := h
  obtain ⟨w, τ1, e1, f1⟩ := bnd_some (x := evE C t ρ) e
  obtain ⟨g1, rfl⟩ := of_some f1
  refine ⟨G, ρ, τ, w, _, R, e1, fun v1 G1 H1 x1 R1 w1 => ?_⟩
  cases w with
  | dict ds =>
    have g1 : sortL (itmD ds) = some d := g1
    unfold sortL at g1
    split at g1
    · rename_i hz
      simp only [Bool.and_eq_true] at hz
      cases g1
      obtain ⟨p', od, ks, rfl, hp, dr⟩ := w1.view.dic R1.sub
      refine ⟨p', od, ks, G1, ds, rfl, hp, R1.sub, dr, hz.1, fun l ys p2 nd new dd hn => ?_⟩
      have x2 := putF_ext (l := l) R1.sub new
      have s2 := putF_same (l := l) R1.sub nd
      have R2 := R1.step x2 s2
      exact fresh_out R2.sub (op_end R2 (x1.trans x2.weak) q) dd p2 hn
    · cases g1
  | _ => cases g1
/-! ### l.index(x) -/
def rIdx (K : Fg) : V → List V → Hp → VK → Prop := fun x xs H Q => ∃ (y : V) (d : D) (ds : List D) (j : Nat) (z : D), xs = [y] ∧ Dp K H x (.list ds) ∧ Dp K H y d ∧
  PyData.canLayAll0 ds = true ∧ d.canLay0 = true ∧ d.depth ≤ 40 ∧ ds[j]? = some z ∧ PyData.eqv z d = true ∧ (∀ (m : Nat) (z' : D), m < j → ds[m]? = some z' → PyData.eqv z' d = false) ∧ Q (.int (j : Nat)) H
theorem mt_idx (hu : X.A.units + 64 < cLine) : MtR X "list.index" (rIdx X.K) := by
  intro pins s σ H x xs v us Q I rx rxs h
  obtain ⟨y, d, ds, j, z, rfl, hl, hy, hxs, hcd, hd40, hz, hzj, hno, q⟩ := h
  cases hl with
  | lst hs ha =>
    cases rx
    cases rxs with
    | cons ry rt =>
      rename_i uy ut
      cases rt
      obtain ⟨bs, r1⟩ := Dp.reads I d y uy hy ry
      have hroom : X.A.units + 1 + min (PyData.depthAll ds) d.depth < cLine := by omega
      obtain ⟨its, rv, ⟨⟨cls, dd, data, sls⟩, n, ho, hc, hdn, hdt⟩, hlen⟩ := I.list hs
      simp only at hc hdt
      subst hc hdt
      obtain ⟨as, h4⟩ := Dp.readsAll I ds _ its ha rv
      have hn : its.length = ds.length := SeqAt.ReadsAll.length ds its as h4
      have hmap : its.map (SeqAt.readOf s.heap) = ds := SeqAt.readsAll_map ds its as hxs h4
      have hvl := rv.length
      have hsl := sizeLine_eq
      obtain ⟨hjd, _⟩ := List.getElem?_eq_some_iff.mp hz
      have hjl : j < its.length := by omega
      have hj : j < its.toArray.size := by simpa using hjl
      have at_ : ∀ (m : Nat) (hm : m < its.toArray.size) (z' : D), ds[m]? = some z' → SeqAt.readOf s.heap its.toArray[m] = z' := by
        intro m hm z' hz'
        have hml : m < its.length := by simpa using hm
        rw [← hmap, List.getElem?_map, List.getElem?_eq_getElem hml] at hz'
        have e1 : SeqAt.readOf s.heap its[m] = z' := Option.some.inj (show some (SeqAt.readOf s.heap its[m]) = some z' from hz')
        simpa using e1
      refine call_meets PySem.F.slot_list_index ⟨_, ho, rfl⟩ PySem.F.entry_list_index (PySem.F.args_list_index_2 _ _)
        (SeqAt.list_indexAt _ its.toArray n dd sls uy (fun u => PyData.eqv (SeqAt.readOf s.heap u) d) j hj (by omega) ?_ ?_) ⟨ho, SeqAt.items_eqAt (vs := its.toArray) (show ReadsAll s.heap its.toArray.toList ds as from h4) r1 hxs hcd hroom, ?_⟩
      · show PyData.eqv (SeqAt.readOf s.heap its.toArray[j]) d = true
        rw [at_ j hj z hz]
        exact hzj
      · intro m hm hmj
        have hmd : m < ds.length := by omega
        have hz' : ds[m]? = some ds[m] := List.getElem?_eq_getElem hmd
        show PyData.eqv (SeqAt.readOf s.heap its.toArray[m]) d = false
        rw [at_ m hm _ hz']
        exact hno m _ hmj hz'
      · exact ⟨.int (j : Nat), H, I.tok _, ⟨_, rfl⟩, q⟩
theorem idxL_some : ∀ {xs : List D} {y : D} {j : Nat}, idxL xs y = some j → ∃ z, xs[j]? = some z ∧ PyData.eqv z y = true ∧ ∀ (m : Nat) (z' : D), m < j → xs[m]? = some z' → PyData.eqv z' y = false
  | [], _, _, h => by cases h
  | x :: r, y, j, h => by
    simp only [idxL] at h
    split at h
    · rename_i hx
      cases h
      exact ⟨x, rfl, hx, fun m z' hm => absurd hm (Nat.not_lt_zero _)⟩
    · rename_i hx
      cases h2 : idxL r y with
      | none => rw [h2] at h; cases h
      | some i =>
        rw [h2] at h
        cases h
        obtain ⟨z, k1, k2, k3⟩ := idxL_some h2
        refine ⟨z, k1, k2, fun m z' hm hz => ?_⟩
        cases m with
        | zero => cases hz; exact Bool.eq_false_iff.2 hx
        | succ m => exact k3 m z' (by omega) hz
theorem rd_idx {ka kb : Kd} {o y : Expr} {ap cp : Pos} (hu : X.A.units + 64 < cLine) (ha : PE X o (tE X.K ta C ka a)) (hk : PE X y (tE X.K ta C kb b)) (hb : baseOk o = true) (ny : notStar y = true) (nb : notStarE b = true) (hl : (ap.endLine == cp.line) = true) :
    PE X (.Call (.Attribute o "index" ap) [y] [] cp) (tE X.K ta C .dat (.idx a b)) := by
  have tr : starEach [y] X.env = [(false, eval y X.env)] := by rw [star_no ny]; rfl
  refine PE.mono (pe_bm PySem.F.plainAttrs_list PySem.F.slot_list_index PySem.F.type_list_index (mt_idx hu) ha (rv_cons hk rv_nil ny nb) (base_of hb) (by rw [tr]; rfl) hl (star_no ny) rfl) fun σ H Q h => ?_
  obtain ⟨G, ρ, τ, d, τ', R, e, q⟩ := h
  obtain ⟨d1, τ1, e1, f1⟩ := bnd_some (x := evE C a ρ) e
  obtain ⟨d2, τ2, e2, f2⟩ := bnd_some f1
  obtain ⟨g2, rfl⟩ := of_some f2
  refine ⟨G, ρ, τ, d1, τ1, R, e1, fun v1 G1 H1 x1 R1 w1 => ?_⟩
  cases d1 with
  | list ds =>
    have g2 : (if PyData.canLayAll0 ds && d2.canLay0 && decide (d2.depth ≤ 40) then (match idxL ds d2 with
      | some j => some (PyData.int (j : Nat))
      | none => none) else none) = some d := g2
    split at g2
    · rename_i hz
      simp only [Bool.and_eq_true, decide_eq_true_eq] at hz
      obtain ⟨⟨z1, z2⟩, z3⟩ := hz
      cases h2 : idxL ds d2 with
      | none => rw [h2] at g2; cases g2
      | some j =>
        rw [h2] at g2
        cases g2
        obtain ⟨z, k1, k2, k3⟩ := idxL_some h2
        obtain ⟨p, xs, rfl, hp, dr⟩ := w1.view.lst R1.sub
        refine ⟨?_, G1, ρ, τ1, [d2], τ', R1, ?_, fun vs G2 H2 x2 R2 w2 => ?_⟩
        · exact .inl ⟨rfl, _, hp⟩
        · rw [evEs_cons nb]
          unfold M.bnd
          simp only [e2]
          rfl
        · cases w2 with
          | cons w2 wr =>
            cases wr
            have vw := w1.view.ext x2
            refine ⟨_, d2, ds, j, z, rfl, ?_, ?_, z1, z2, z3, k1, k2, k3, ?_⟩
            · exact (vw.at R2.sub).dp (by simpa [PyData.canLay0] using z1)
            · exact (w2.at R2.sub).dp z2
            · exact q _ G2 H2 (x1.trans x2) R2 (.int _)
    · cases g2
  | _ => cases g2
end
end KN

set_option maxRecDepth 100000
set_option maxHeartbeats 4000000
namespace KN
open PySem L2 PyProof.Rows
/-! ### a def that is looked up in a display: [f, g][i](..) -/
section
variable {X : Cx} {c e : Expr} {es : List Expr} {tc : TE} {ta0 : TA} {pos : Pos}
def tCV (K : Fg) (Ψ : Addr → L2.St → List V → Hp → VK → Prop) (tc : TE) (ta0 : TA) : TE := fun σ H Q => tc σ H fun v H1 => ∃ g, v = .ref g ∧ PySem.W.keepIn K (.ref g) = true ∧ ta0 σ H1 fun vs H2 => Ψ g σ vs H2 Q
theorem pe_callV {Ψ : Addr → L2.St → List V → Hp → VK → Prop} (hΨ : ∀ g pins s σ H vs us Q, L2.Inv X pins σ H s → Vals vs us → Ψ g σ vs H Q → wpAny (model X.prog X.w) X.A (call (.ref g) us) (EP X pins σ Q) X.xe s) (hc : PE X c tc) (ha : PA X (e :: es) ta0)
    (hev : eval (.Call c (e :: es) [] pos) X.env = (eval c X.env >>= fun g => callWith pos g [] (backTo pos (starEach (e :: es) X.env)) []))
    (he : starEach (e :: es) X.env = (false, eval e X.env) :: starEach es X.env) (hpl : (backTo pos (starEach es X.env)).any (·.1) = false) : PE X (.Call c (e :: es) [] pos) (tCV X.K Ψ tc ta0) := by
  refine ⟨fun pins s σ H Q I h => ?_⟩
  rw [hev]
  refine wpAny_bind (thn (hc.run pins s σ H _ I h) fun u s1 hh => ?_)
  obtain ⟨v, H1, I1, r, g, ev, hk, q⟩ := hh
  subst ev
  obtain rfl : u = .ref g := r
  exact PySem.W.callWith_K (h₀ := X.base) I.ok.mod.kin hk (thn (ha.run pos pins s1 σ H1 _ I1 q) fun us s2 ⟨vs, H2, I2, r2, q2⟩ => ⟨I2.kIn, hΨ g pins s2 σ H2 vs us Q I2 r2 q2⟩) he hpl
end
section
variable {Γ : Cn} {n : Nat} {X : Cx} {ta : Option Addr}
/-- what stands behind a def's name -/
structure AtF (Γ : Cn) (n : Nat) (X : Cx) (f : Nat) (a : Addr) : Prop where
  kp : PySem.W.keepIn X.K (.ref a) = true
  ok : ∃ fd ps, Binds X.K fd ps [] ∧ FnOk X.prog X.w X.K X.mg X.base CX0 n a fd ps (spF X.K (callF Γ.B n) f false false)
  xk : ∃ fd ps, Binds X.K fd ps [] ∧ FnOk X.prog X.w X.K X.mg X.base (L2.CX X.prog X.w) n a fd ps (spR X.K X.mg Γ.xs (callF Γ.B n) f)
theorem atF_any {f : Nat} {z : Str} (O : XOk Γ n X) (h : fnAny Γ f z = true) : ∃ a, X.mg z = some (.ref a) ∧ AtF Γ n X f a := by
  obtain ⟨F, fa, fd, rfl, g1, g2, g3, g4, _⟩ := fn_any O h
  unfold fnAny at h
  split at h
  · rename_i F' hF
    simp only [Bool.and_eq_true, decide_eq_true_eq, beq_iff_eq] at h
    obtain ⟨fb, fd', k1, k2, k3, k4⟩ := O.fnx f F' hF h.2
    have e : fb = fa := by
      rw [h.1, g1] at k1
      cases k1
      rfl
    subst e
    exact ⟨fb, g1, g2, ⟨fd, F.ps, g3, g4⟩, ⟨fd', F'.ps, k3, k4⟩⟩
  · cases h
theorem fs_ok (O : XOk Γ n X) (hgl : ∀ x, glOk Γ x = true → Gl X x ∧ x ≠ "__name__" ∧ (x == ("__debug__" : Str)) = false) : ∀ {fs : List Nat} {ns : List Expr}, mFs Γ fs ns = true → ∃ as : List Addr, as.length = fs.length ∧ ns.length = fs.length ∧ PA X ns (fun _ H Q => Q (as.map V.ref) H) ∧ ∀ (j : Nat) f, fs[j]? = some f → ∃ a, as[j]? = some a ∧ AtF Γ n X f a
  | [], [], _ => ⟨[], rfl, rfl, ⟨fun pos pins s σ H Q I h => pa_nil.run pos pins s σ H Q I h⟩, fun j f e => by simp at e⟩
  | [], _ :: _, h => by cases h
  | f :: fs, [], h => by cases h
  | f :: fs, x :: ns, h => by
    cases x with
    | Name z p =>
      simp only [mFs, Bool.and_eq_true] at h
      obtain ⟨⟨h1, h2⟩, h3⟩ := h
      obtain ⟨a, e1, A⟩ := atF_any O h1
      obtain ⟨as, l1, l2, pa, al⟩ := fs_ok O hgl h3
      obtain ⟨g1, g2, g3⟩ := hgl z h2
      have pe : PE X (.Name z p) (tC (.ref a)) := pe_glob g1 e1 rfl g3
      have pc := pa_cons pe pa
      refine ⟨a :: as, by simp [l1], by simp [l2], ⟨fun pos pins s σ H Q I h => pc.run pos pins s σ H Q I h⟩, fun j f' e => ?_⟩
      cases j with
      | zero =>
        simp only [List.getElem?_cons_zero, Option.some.injEq] at e
        subst e
        exact ⟨a, rfl, A⟩
      | succ j =>
        simp only [List.getElem?_cons_succ] at e ⊢
        exact al j f' e
    | _ => cases h
theorem at_fs {fs : List Nat} {as : List Addr} (hl : as.length = fs.length) {P : Nat → Addr → Prop} (al : ∀ (j : Nat) f, fs[j]? = some f → ∃ a, as[j]? = some a ∧ P f a) {i : Int} {f : Nat} (h : atI fs i = some f) : ∃ a, atI (as.map V.ref) i = some (.ref a) ∧ P f a := by
  obtain ⟨j, h1, h2⟩ := Option.bind_eq_some_iff.mp h
  obtain ⟨a, h3, h4⟩ := al j f h2
  refine ⟨a, ?_, h4⟩
  unfold atI
  rw [List.length_map, hl, h1]
  simp [h3]
theorem int_val {K : Fg} {H0 G H : Hp} {k : Kd} {v : V} {i : Int} (h : Val K ta H0 G H k v (.int i)) : v = .int i := by
  have hv := h.view
  rcases hv with h | ⟨a, o, es, h1, h2, h3, h4, h5⟩
  · cases h
    rfl
  · cases es <;> cases h2

theorem rd_callI {fs : List Nat} {ns : List Expr} {ix : E} {ts : List E} {k : Kd} {y a : Expr} {args : List Expr} {p1 p2 pos : Pos} (O : XOk Γ n X) (hgl : ∀ x, glOk Γ x = true → Gl X x ∧ x ≠ "__name__" ∧ (x == ("__debug__" : Str)) = false) (hf : mFs Γ fs ns = true) (hl : ns.length ≤ 8)
    (hy : PE X y (tE X.K ta (callF Γ.B n) k ix)) (hs : PlainIx y) (hr : PA X (a :: args) (tK X.K ta (callF Γ.B n) ts)) (hst : noStars (a :: args) = true) :
    PE X (.Call (.Subscript (.List ns p1) y p2) (a :: args) [] pos) (tE X.K ta (callF Γ.B n) .dat (.callI fs ix ts)) := by
  obtain ⟨as, l1, l2, pa, al⟩ := fs_ok O hgl hf
  simp only [noStars, Bool.and_eq_true] at hst
  refine PE.mono (pe_callV (Ψ := fun g σ vs H Q => ∃ f, AtF Γ n X f g ∧ spF X.K (callF Γ.B n) f false false vs H Q E0) ?_ (pe_ix ix_list (pe_lst pa) hy hs) hr rfl (star_no hst.1) (back_no hst.2)) fun σ H Q h => ?_
  · intro g pins s σ H vs us Q I r ⟨f, A, q⟩
    obtain ⟨fd, ps, b, F⟩ := A.ok
    exact run_fn F O.room b .nil pass0 I r (by rw [app_nil]; exact q)
  · obtain ⟨G, ρ, τ, d, τ', R, e, q⟩ := h
    obtain ⟨kd, τ1, e1, f1⟩ := bnd_some (x := evE (callF Γ.B n) ix ρ) e
    obtain ⟨ds, τ2, e2, f2⟩ := bnd_some f1
    cases kd with
    | int j =>
      have f2 : (match atI fs j with
        | some f => (match callF Γ.B n f ds [] with
          | some (d, _) => some (d, τ2)
          | none => none)
        | none => none) = some (d, τ') := f2
      split at f2
      · rename_i f hj
        split at f2
        · rename_i d' τ3 hc
          cases f2
          obtain ⟨a', ha', A⟩ := at_fs l1 al hj
          refine ⟨by rw [List.length_map, l1, ← l2, sizeLine_eq]; omega, fun p hp => ?_⟩
          have np : ta ≠ some p := fun z => by
            obtain ⟨_, vs, h1, _⟩ := R.tin p z
            rw [hp] at h1
            cases h1
          have x0 : Ext ta G H G (upd H p (.lst (as.map V.ref))) := Ext.fresh hp
          refine ⟨G, ρ, τ, .int j, τ1, R.fresh hp, e1, fun v G1 H1 x1 R2 w1 => ?_⟩
          obtain rfl := int_val w1
          have hH1 : H1 p = some (.lst (as.map V.ref)) := x1.keep p _ np upd_same
          exact ⟨p, _, j, .ref a', rfl, rfl, SqL.of hH1, ha', a', rfl, A.kp, G1, ρ, τ1, ds, _, R2, e2, fun vs G3 H3 x3 R3 w3 => ⟨f, A, call_sp R3 ((x0.trans x1).trans x3) w3 hc q⟩⟩
        · cases f2
      · cases f2
    | _ => cases f2

/-! ### expressions that end in an error -/
/-- W: what is wished of the error -/
def tXE (K : Fg) (mg : Str → Option Value) (xs : List Nat) (ta : Option Addr) (W : WX) (run : En → M Exn) : TE := fun σ H _ => ∃ G ρ τ x τ', Rel K ta G σ H ρ τ ∧ run ρ τ = some (x, τ') ∧
  ∀ cls d G' H', Ext ta G H G' H' → Rel K ta G' σ H' ρ τ' → ExcR K mg xs G' H' cls d x → W cls d σ H'
theorem callX_some {C : Nat → List D → M D} {f : Nat} {ds : List D} {τ τ' : List D} {x : Exn} (h : callX C f ds τ = some (x, τ')) : τ' = τ ∧ ∃ y τ1, C (XB + f) ds [] = some (y, τ1) ∧ exDec y = some x := by
  unfold callX at h
  split at h
  · rename_i y τ1 hc
    split at h
    · rename_i z hz
      cases h
      exact ⟨rfl, y, τ1, hc, hz⟩
    · cases h
  · cases h
/-- the call's end -/
theorem callX_sp {K : Fg} {mg : Str → Option Value} {xs : List Nat} {C : Nat → List D → M D} {W : WX} {G G1 H H1 : Hp} {σ : L2.St} {ρ : En} {τ : List D} {vs : List V} {ds : List D} {f : Nat} {y : D} {x : Exn} {τ1 : List D} {Q : VK} (R1 : Rel K ta G1 σ H1 ρ τ) (x1 : Ext ta G H G1 H1) (w : DRs K G1 vs ds)
    (e : C (XB + f) ds [] = some (y, τ1)) (ey : exDec y = some x) (q : ∀ cls d G' H', Ext ta G H G' H' → Rel K ta G' σ H' ρ τ → ExcR K mg xs G' H' cls d x → W cls d σ H') : spR K mg xs C f vs H1 Q (WE W σ) :=
  ⟨G1, ds, x, y, τ1, R1.sub, w, e, ey, fun cls d G' H' x' s' h => q cls d G' H' (x1.trans x'.weak) (R1.step x' s') h⟩
theorem rx_call {W : WX} {f : Nat} {z : Str} {ts : List E} {y : Expr} {ys : List Expr} {p pos : Pos} (O : XOk Γ n X) (tk : Takes X W) (hf : fnAny Γ f z = true) (hg : Gl X z) (hd : (z == ("__debug__" : Str)) = false) (hr : PA X (y :: ys) (tK X.K ta (callF Γ.B n) ts)) (hs : noStars (y :: ys) = true) :
    PE X (.Call (.Name z p) (y :: ys) [] pos) (tXE X.K X.mg Γ.xs ta W fun ρ => (evEs (callF Γ.B n) ts ρ).bnd fun ds => callX (callF Γ.B n) f ds) := by
  obtain ⟨a, g1, A⟩ := atF_any O hf
  obtain ⟨fd, ps, b, F⟩ := A.xk
  simp only [noStars, Bool.and_eq_true] at hs
  refine PE.mono (pe_callS (E := WE W) F O.room hg g1 A.kp b (fun σ => passAt tk σ) hr hd (star_no hs.1) (back_no hs.2)) fun σ H Q h => ?_
  obtain ⟨G, ρ, τ, x, τ', R, e, q⟩ := h
  obtain ⟨ds, τ1, e1, f1⟩ := bnd_some e
  obtain ⟨rfl, yv, τ2, hc, hy⟩ := callX_some f1
  exact ⟨G, ρ, τ, ds, _, R, e1, fun vs G1 H1 x1 R1 w1 => callX_sp R1 x1 w1 hc hy q⟩
theorem rx_callI {W : WX} {fs : List Nat} {ns : List Expr} {ix : E} {ts : List E} {k : Kd} {y a : Expr} {args : List Expr} {p1 p2 pos : Pos} (O : XOk Γ n X) (tk : Takes X W) (hgl : ∀ x, glOk Γ x = true → Gl X x ∧ x ≠ "__name__" ∧ (x == ("__debug__" : Str)) = false) (hf : mFs Γ fs ns = true) (hl : ns.length ≤ 8)
    (hy : PE X y (tE X.K ta (callF Γ.B n) k ix)) (hs : PlainIx y) (hr : PA X (a :: args) (tK X.K ta (callF Γ.B n) ts)) (hst : noStars (a :: args) = true) :
    PE X (.Call (.Subscript (.List ns p1) y p2) (a :: args) [] pos) (tXE X.K X.mg Γ.xs ta W fun ρ => (evE (callF Γ.B n) ix ρ).bnd fun k => (evEs (callF Γ.B n) ts ρ).bnd fun ds => callXI (callF Γ.B n) fs k ds) := by
  obtain ⟨as, l1, l2, pa, al⟩ := fs_ok O hgl hf
  simp only [noStars, Bool.and_eq_true] at hst
  refine PE.mono (pe_callV (Ψ := fun g σ vs H Q => ∃ f, AtF Γ n X f g ∧ spR X.K X.mg Γ.xs (callF Γ.B n) f vs H Q (WE W σ)) ?_ (pe_ix ix_list (pe_lst pa) hy hs) hr rfl (star_no hst.1) (back_no hst.2)) fun σ H Q h => ?_
  · intro g pins s σ H vs us Q I r ⟨f, A, q⟩
    obtain ⟨fd, ps, b, F⟩ := A.xk
    exact run_fnS (E := WE W) F O.room b (passAt tk σ) I r q
  · obtain ⟨G, ρ, τ, x, τ', R, e, q⟩ := h
    obtain ⟨kd, τ1, e1, f1⟩ := bnd_some (x := evE (callF Γ.B n) ix ρ) e
    obtain ⟨ds, τ2, e2, f2⟩ := bnd_some f1
    cases kd with
    | int j =>
      have f2 : (match atI fs j with
        | some f => callX (callF Γ.B n) f ds
        | none => .fail) τ2 = some (x, τ') := f2
      cases hj : atI fs j with
      | some f =>
        rw [hj] at f2
        obtain ⟨rfl, yv, τ3, hc, hyv⟩ := callX_some f2
        obtain ⟨a', ha', A⟩ := at_fs l1 al hj
        refine ⟨by rw [List.length_map, l1, ← l2, sizeLine_eq]; omega, fun p hp => ?_⟩
        have np : ta ≠ some p := fun z => by
          obtain ⟨_, vs, h1, _⟩ := R.tin p z
          rw [hp] at h1
          cases h1
        have x0 : Ext ta G H G (upd H p (.lst (as.map V.ref))) := Ext.fresh hp
        refine ⟨G, ρ, τ, .int j, τ1, R.fresh hp, e1, fun v G1 H1 x1 R2 w1 => ?_⟩
        obtain rfl := int_val w1
        have hH1 : H1 p = some (.lst (as.map V.ref)) := x1.keep p _ np upd_same
        exact ⟨p, _, j, .ref a', rfl, rfl, SqL.of hH1, ha', a', rfl, A.kp, G1, ρ, τ1, ds, _, R2, e2, fun vs G3 H3 x3 R3 w3 => ⟨f, A, callX_sp R3 ((x0.trans x1).trans x3) w3 hc hyv q⟩⟩
      | none =>
        rw [hj] at f2
        cases f2
    | _ => cases f2
theorem pe_false {e : Expr} {t : TE} (h : ∀ σ H Q, ¬ t σ H Q) : PE X e t := ⟨fun _ _ σ H Q _ q => absurd q (h σ H Q)⟩
theorem rx_fail {xs : List Nat} {W : WX} {e : Expr} {run : En → M Exn} (h : ∀ ρ, run ρ = M.fail) : PE X e (tXE X.K X.mg xs ta W run) := pe_false fun σ H Q q => by
  obtain ⟨G, ρ, τ, x, τ', R, e, _⟩ := q
  rw [h] at e
  cases e
theorem rx_ite {W : WX} {c a b : E} {c' l r : Expr} {pos : Pos} {ra rb : En → M Exn} (hc : PT X c' (tT X.K ta (callF Γ.B n) c)) (ha : PE X l (tXE X.K X.mg Γ.xs ta W ra)) (hb : PE X r (tXE X.K X.mg Γ.xs ta W rb)) :
    PE X (.IfExp c' l r pos) (tXE X.K X.mg Γ.xs ta W fun ρ => (evE (callF Γ.B n) c ρ).bnd fun x => (M.of (truD x)).bnd fun k => if k then ra ρ else rb ρ) :=
  PE.mono (pe_ifExp hc ha hb) fun σ H Q h => by
    obtain ⟨G, ρ, τ, x, τ', R, e, q⟩ := h
    obtain ⟨v, τ1, e1, f1⟩ := bnd_some e
    obtain ⟨k, τ2, e2, f2⟩ := bnd_some f1
    obtain ⟨g2, rfl⟩ := of_some e2
    refine ⟨G, ρ, τ, k, _, R, tru_bnd (τ2 := τ) e1 g2, fun G1 H1 x1 R1 => ?_⟩
    cases k with
    | true => exact iteT ⟨G1, ρ, _, x, τ', R1, f2, fun cls d G' H' x' R' h => q cls d G' H' (x1.trans x') R' h⟩
    | false => exact iteF ⟨G1, ρ, _, x, τ', R1, f2, fun cls d G' H' x' R' h => q cls d G' H' (x1.trans x') R' h⟩
end
end KN

set_option maxRecDepth 100000
set_option maxHeartbeats 4000000
namespace KN
open PySem L2 PyProof.Rows
/-! ### small things -/
theorem len1 {α : Type} {l : List α} (h : l.length = 1) : ∃ a, l = [a] := by
  match l, h with
  | [a], _ => exact ⟨a, rfl⟩
theorem len2 {α : Type} {l : List α} (h : l.length = 2) : ∃ a b, l = [a, b] := by
  match l, h with
  | [a, b], _ => exact ⟨a, b, rfl⟩
theorem tupE_of {t : Expr} (h : isTupE t = true) : ∃ es k p, t = .Tuple es k p := by
  cases t <;> first | exact ⟨_, _, _, rfl⟩ | cases h
theorem kw_len : ∀ {kws : List Keyword}, kwAll kws = true → (kwNames kws).length = kws.length
  | [], _ => rfl
  | ⟨some x, e, p⟩ :: r, h => by simp [kwNames, kw_len (kws := r) h]
  | ⟨none, e, p⟩ :: r, h => by cases h
theorem tys_len {Γ : Cn} : ∀ {ts : List String} {cs : List Expr}, tysOk Γ ts cs = true → cs.length = ts.length
  | [], [], _ => rfl
  | [], _ :: _, h => by simp [tysOk] at h
  | _ :: _, [], h => by simp [tysOk] at h
  | t :: ts, c :: cs, h => by
    cases c with
    | Name x p =>
      simp only [tysOk, Bool.and_eq_true] at h
      simp [tys_len h.2]
    | _ => simp [tysOk] at h
theorem tys_one {Γ : Cn} {ts : List String} {c : Expr} (h : tysOk Γ ts [c] = true) : ∃ T, ts = [T] ∧ notStar c = true := by
  have hl := tys_len h
  obtain ⟨T, rfl⟩ := len1 hl.symm
  refine ⟨T, rfl, ?_⟩
  cases c <;> first | rfl | simp [tysOk] at h
theorem blkOf_snd (Γ : Cn) (tg : Tg) : (blkOf Γ tg).map (·.2) = tg.slots := by
  unfold blkOf
  rw [List.map_map]
  exact List.map_id' _
theorem mIs_cons {t : E} {r : List E} {Γ : Cn} {xs : List Expr} (h : notStarE t = true) : mIs (t :: r) Γ xs = (match xs with
    | x :: q => notStar x && plain t && mE t Γ x && mIs r Γ q
    | [] => false) := by
  cases t <;> first | rfl | cases h
section
variable {X : Cx} {ta : Option Addr} {C : Nat → List D → M D} {c : E} {x : Expr}
theorem pts_gone (h : c.gone = true) : PTs X [] (tCond X.K ta C c) := by
  refine ⟨fun pins s σ H Q I q => pts_nil.run pins s σ H Q I ?_⟩
  obtain ⟨G, ρ, τ, b, τ', R, e, q⟩ := q
  rw [if_pos h] at e
  cases ret_some e
  exact q G H Ext.refl R
theorem pts_cond (h : c.gone = false) (hc : PT X x (tT X.K ta C c)) : PTs X [x] (tCond X.K ta C c) := by
  refine ⟨fun pins s σ H Q I q => (pts_one hc).run pins s σ H Q I ?_⟩
  obtain ⟨G, ρ, τ, b, τ', R, e, q⟩ := q
  rw [if_neg (by rw [h]; simp)] at e
  exact ⟨G, ρ, τ, b, τ', R, e, q⟩
variable {a b : E} {l m r : Expr} {pos : Pos}
theorem rt_chain {o1 o2 : CmpOp} {ka kb kc : Kd} (hu : X.A.units + 64 < cLine) (ha : PE X l (tE X.K ta C ka a)) (hb : PE X m (tE X.K ta C kb b)) (hc : PE X r (tE X.K ta C kc c)) (hm : lastMarks [o1, o2] [m, r] = false) :
    PT X (.Compare l [o1, o2] [m, r] pos) (tT X.K ta C (.chain o1 o2 a b c)) :=
  PT.mono (pt_chain (op_cmpD o1 hu) (op_cmpD o2 hu) ha hb hc hm) fun σ H Q h => by
    obtain ⟨G, ρ, τ, d, τ', R, e, q⟩ := h
    obtain ⟨z0, τ0, e0, et⟩ := bnd_some (x := evE C (.chain o1 o2 a b c) ρ) e
    obtain ⟨x, τ1, e1, f1⟩ := bnd_some (x := evE C a ρ) e0
    obtain ⟨y, τ2, e2, f2⟩ := bnd_some (x := evE C b ρ) f1
    obtain ⟨z, τ3, e3, f3⟩ := bnd_some f2
    obtain ⟨g3, rfl⟩ := of_some e3
    obtain ⟨gt, rfl⟩ := of_some et
    refine ⟨G, ρ, τ, x, τ1, R, e1, fun v1 G1 H1 x1 R1 w1 => ⟨G1, ρ, τ1, y, _, R1, e2, fun v2 G2 H2 x2 R2 w2 => ?_⟩⟩
    obtain ⟨k, rfl⟩ := cmp_bool g3
    refine ⟨G2, x, y, _, R2.sub, ((w1.view).ext x2).weak, w2.view.weak, g3, fun v G' H' x' s' w' => ?_⟩
    cases w'
    have R3 := R2.step x' s'
    cases k with
    | true =>
      obtain ⟨u, τ4, e4, f4⟩ := bnd_some (x := evE C c ρ) f3
      obtain ⟨g5, rfl⟩ := of_some f4
      obtain ⟨k5, rfl⟩ := cmp_bool g5
      refine ⟨true, rfl, iteT ⟨G', ρ, _, u, _, R3, e4, fun v3 G3 H3 x3 R4 w3 => ?_⟩⟩
      refine ⟨G3, y, u, _, R4.sub, ((w2.view.ext x'.weak).ext x3).weak, w3.view.weak, g5, fun v G5 H5 x5 s5 w5 => ?_⟩
      cases w5
      cases gt
      exact ⟨_, rfl, q G5 H5 ((((x1.trans x2).trans x'.weak).trans x3).trans x5.weak) (R4.step x5 s5)⟩
    | false =>
      cases ret_some f3
      cases gt
      exact ⟨false, rfl, iteF ⟨false, rfl, q G' H' ((x1.trans x2).trans x'.weak) R3⟩⟩
theorem rt_ite {c' : Expr} (hc : PT X c' (tT X.K ta C c)) (ha : PT X l (tT X.K ta C a)) (hb : PT X r (tT X.K ta C b)) : PT X (.IfExp c' l r pos) (tT X.K ta C (.ite c a b)) := by
  refine ⟨fun pins s σ H Q I h => ?_⟩
  obtain ⟨G, ρ, τ, d, τ', R, e, q⟩ := h
  obtain ⟨z, τ3, e, et⟩ := bnd_some (x := evE C (.ite c a b) ρ) e
  obtain ⟨x, τ1, e1, f1⟩ := bnd_some (x := evE C c ρ) e
  obtain ⟨k, τ2, e2, f2⟩ := bnd_some f1
  obtain ⟨g2, rfl⟩ := of_some e2
  obtain ⟨gt, rfl⟩ := of_some et
  have run := hc.run pins s σ H (fun k' H1 => if k' = true then tT X.K ta C a σ H1 Q else tT X.K ta C b σ H1 Q) I ⟨G, ρ, τ, k, _, R, tru_bnd (τ2 := τ) e1 g2, fun G1 H1 x1 R1 => by
    cases k with
    | true => exact iteT ⟨G1, ρ, _, d, _, R1, tru_bnd (τ2 := τ) f2 gt, fun G2 H2 x2 R2 => q G2 H2 (x1.trans x2) R2⟩
    | false => exact iteF ⟨G1, ρ, _, d, _, R1, tru_bnd (τ2 := τ) f2 gt, fun G2 H2 x2 R2 => q G2 H2 (x1.trans x2) R2⟩⟩
  refine wpAny_bind (thn run fun k' s1 hk => ?_)
  obtain ⟨H1, I1, q1⟩ := hk
  cases k' with
  | true =>
    have q1 : tT X.K ta C a σ H1 Q := by simpa using q1
    exact ha.run pins s1 σ H1 Q I1 q1
  | false =>
    have q1 : tT X.K ta C b σ H1 Q := by simpa using q1
    exact hb.run pins s1 σ H1 Q I1 q1
end
theorem tup_tg {Γ : Cn} {tg : Tg} {t : Expr} (h : mTg Γ tg t = true) (ht : isTupE t = true) : ∃ is, tg = .tup is := by
  obtain ⟨es, k, p, rfl⟩ := tupE_of ht
  cases tg with
  | nm i => simp [mTg] at h
  | tup is => exact ⟨is, rfl⟩
theorem pair_tg {Γ Γ' : Cn} {tg : Tg} {ik : IK} {t it : Expr} {m mr : List Expr → Bool} (h : srcB ik Γ t it m mr = true) (ht : mTg Γ' tg t = true) (hp : pairIk ik = true) : ∃ is, tg = .tup is := by
  refine tup_tg ht ?_
  cases ik with
  | enum => unfold srcB at h; simp only [Bool.and_eq_true] at h; exact h.1
  | zip => unfold srcB at h; simp only [Bool.and_eq_true] at h; exact h.1
  | items => unfold srcB at h; simp only [Bool.and_eq_true] at h; exact h.1
  | _ => cases hp
theorem blkOf2_snd (Γ : Cn) (tg tg1 : Tg) : (blkOf2 Γ tg tg1).map (·.2) = tg.slots ++ tg1.slots := by
  unfold blkOf2
  rw [List.map_map]
  exact List.map_id' _
theorem notStar_of {t : E} {Γ : Cn} {x : Expr} (h : mE t Γ x = true) : notStarE t = true := by
  cases t with
  | star e => rw [mE_star] at h; cases h
  | _ => rfl
theorem plain_ne {t : E} (h : plain t = true) : kdOf t ≠ .peek := by
  intro z
  unfold plain at h
  rw [z] at h
  cases h
section
variable {Γ : Cn} {n : Nat} {X : Cx} {ta : Option Addr}
theorem XOk.var (O : XOk Γ n X) {i : Nat} {x : Str} (h : nameOk Γ i x = true) : X.N[i]? = some x ∧ Vis X.env.scope x ∧ (x == ("__debug__" : Str)) = false ∧ (x == ("__classdict__" : Str)) = false := by
  simp only [nameOk, Bool.and_eq_true, decide_eq_true_eq, Bool.not_eq_true'] at h
  obtain ⟨⟨⟨h1, h2⟩, h3⟩, h4⟩ := h
  refine ⟨by rw [O.N]; exact h1, ?_, h3, h4⟩
  unfold visB at h2
  unfold Vis
  rw [O.sc]
  split at h2
  · rename_i e; exact .inl e
  · rename_i e; exact .inr (.inl e)
  · rename_i e; exact .inr (.inr e)
  · cases h2
theorem XOk.glob (O : XOk Γ n X) {x : Str} (h : glOk Γ x = true) : Gl X x ∧ x ≠ "__name__" ∧ (x == ("__debug__" : Str)) = false := by
  simp only [glOk, Bool.and_eq_true, decide_eq_true_eq, Bool.not_eq_true'] at h
  obtain ⟨⟨h1, h2⟩, h3⟩ := h
  refine ⟨?_, h3, h2⟩
  show X.env.scope.names.lookup x = some .globalImplicit
  rw [O.sc]
  split at h1
  · rename_i e; exact e
  · cases h1
theorem XOk.units (O : XOk Γ n X) : X.A.units + 64 < cLine := O.room.units
theorem XOk.blk (O : XOk Γ n X) (s : Shared) (H : Hp) (scope : Scope) (cl : List (Str × Addr)) (C : Addr) (fp : List Addr) : XOk (Γ.inner scope) n (X.blk s H scope (compEnvC scope cl C X.env) fp) where
  N := O.N
  nd := O.nd
  sc := by
    show relS scope X.env.scope = relS scope Γ.sc
    rw [O.sc]
  fn := rfl
  calm := O.calm
  room := O.room
  bi := O.bi
  gl := O.gl
  fns := O.fns
  fnx := O.fnx
  xok := O.xok
theorem plainIx {y : Expr} (h : notSlice y = true) : PlainIx y := by
  intro o i
  cases y <;> first | rfl | cases h
theorem foldSet {it : Expr} {env : PySem.Env} (h : notSet it = true) : ∀ x, foldedSetIterable it env x = pure x := by
  intro x
  cases it <;> first | rfl | cases h
/-- a value and its test -/
def Snd (Γ : Cn) (n : Nat) (X : Cx) (ta : Option Addr) (t : E) (e : Expr) : Prop :=
  PE X e (tE X.K ta (callF Γ.B n) (kdOf t) t) ∧ PT X e (tT X.K ta (callF Γ.B n) t) ∧ ∀ op vs p, e = .BoolOp op vs p → PW X e (tT X.K ta (callF Γ.B n) t)
theorem Snd.of {t : E} {e : Expr} (h : PE X e (tE X.K ta (callF Γ.B n) (kdOf t) t)) (he : ∀ whole, isTrue e X.env whole = (do let v ← whole; standAt e.pos; holding [v] (truthy v))) (hb : ∀ op vs p, e ≠ .BoolOp op vs p) : Snd Γ n X ta t e :=
  ⟨h, rt_plain h he, fun op vs p z => absurd z (hb op vs p)⟩
theorem Snd.dat {t : E} {e : Expr} (h : Snd Γ n X ta t e) (hp : plain t = true) : PE X e (tE X.K ta (callF Γ.B n) .dat t) := PE.mono h.1 (tE_dat (plain_ne hp))
end
theorem src_ok {n : Nat} {ta : Option Addr} {Γ : Cn} {X : Cx} (O : XOk Γ n X) {ik : IK} {src : List E} {t it : Expr}
    (hV : ∀ xs, mEs src Γ xs = true → PA X xs (tV X.K ta (callF Γ.B n) src) ∧ noStars xs = true ∧ (∀ t ∈ src, notStarE t = true) ∧ xs.length = src.length ∧ ∀ t x, src = [t] → xs = [x] → Snd Γ n X ta t x)
    (h6 : srcB ik Γ t it (fun xs => mEs src Γ xs) (fun xs => mEs src Γ xs) = true) : PI X t it (tI X.K ta (callF Γ.B n) ik src) := by
  unfold srcB at h6
  cases ik with
  | ex =>
    obtain ⟨v1, v2, v3, v4, v5⟩ := hV _ h6
    obtain ⟨s0, hs0⟩ := len1 v4.symm
    have hp := v5 s0 it hs0 rfl
    rw [hs0]
    exact ri_ex hp.1 (v3 s0 (by rw [hs0]; exact List.mem_cons_self))
  | range =>
    simp only at h6
    split at h6
    · simp only [Bool.and_eq_true, decide_eq_true_eq] at h6
      obtain ⟨⟨⟨rfl, k2⟩, k3⟩, k4⟩ := h6
      obtain ⟨g1, _, _⟩ := O.glob k2
      obtain ⟨v1, v2, v3, v4, _⟩ := hV _ k3
      rcases k4 with k4 | k4
      · obtain ⟨a, rfl⟩ := len1 k4
        simp only [noStars, Bool.and_eq_true] at v2
        exact ri_range1 O.bi g1 v1 v2.1 v3 (v4 ▸ k4)
      · obtain ⟨a, b, rfl⟩ := len2 k4
        simp only [noStars, Bool.and_eq_true] at v2
        exact ri_range2 O.bi g1 v1 v2.1 v2.2.1 v3 (v4 ▸ k4)
    · cases h6
  | enum =>
    simp only [Bool.and_eq_true] at h6
    obtain ⟨ht, h6⟩ := h6
    obtain ⟨es', k', p', rfl⟩ := tupE_of ht
    split at h6
    · simp only [Bool.and_eq_true, decide_eq_true_eq] at h6
      obtain ⟨⟨⟨rfl, k2⟩, k3⟩, k4⟩ := h6
      obtain ⟨g1, _, _⟩ := O.glob k2
      obtain ⟨v1, v2, v3, v4, _⟩ := hV _ k3
      obtain ⟨a, rfl⟩ := len1 k4
      simp only [noStars, Bool.and_eq_true] at v2
      exact ri_enum O.bi g1 v1 v2.1
    · cases h6
  | zip =>
    simp only [Bool.and_eq_true] at h6
    obtain ⟨ht, h6⟩ := h6
    obtain ⟨es', k', p', rfl⟩ := tupE_of ht
    split at h6
    · simp only [Bool.and_eq_true, decide_eq_true_eq] at h6
      obtain ⟨⟨⟨rfl, k2⟩, k3⟩, k4⟩ := h6
      obtain ⟨g1, _, _⟩ := O.glob k2
      obtain ⟨v1, v2, v3, v4, _⟩ := hV _ k3
      obtain ⟨a, b, rfl⟩ := len2 k4
      simp only [noStars, Bool.and_eq_true] at v2
      exact ri_zip O.bi g1 v1 v2.1 v2.2.1
    · cases h6
  | items =>
    simp only [Bool.and_eq_true] at h6
    obtain ⟨ht, h6⟩ := h6
    obtain ⟨es', k', p', rfl⟩ := tupE_of ht
    split at h6
    · simp only [Bool.and_eq_true, decide_eq_true_eq] at h6
      obtain ⟨⟨⟨rfl, k2⟩, k3⟩, k4⟩ := h6
      obtain ⟨v1, v2, v3, v4, v5⟩ := hV _ k4
      obtain ⟨s0, hs0⟩ := len1 v4.symm
      have hp := v5 s0 _ hs0 rfl
      rw [hs0]
      exact ri_items hp.1 (v3 s0 (by rw [hs0]; exact List.mem_cons_self)) k2 k3
    · cases h6
  | vals =>
    simp only at h6
    split at h6
    · simp only [Bool.and_eq_true, decide_eq_true_eq] at h6
      obtain ⟨⟨⟨rfl, k2⟩, k3⟩, k4⟩ := h6
      obtain ⟨v1, v2, v3, v4, v5⟩ := hV _ k4
      obtain ⟨s0, hs0⟩ := len1 v4.symm
      have hp := v5 s0 _ hs0 rfl
      rw [hs0]
      exact ri_vals hp.1 (v3 s0 (by rw [hs0]; exact List.mem_cons_self)) k2 k3
    · cases h6
theorem srcf_ok {n : Nat} {ta : Option Addr} {Γ : Cn} {X : Cx} (O : XOk Γ n X) {ik : IK} {src : List E} {t it : Expr}
    (hV : ∀ xs, mEs src Γ xs = true → PA X xs (tV X.K ta (callF Γ.B n) src) ∧ noStars xs = true ∧ (∀ t ∈ src, notStarE t = true) ∧ xs.length = src.length ∧ ∀ t x, src = [t] → xs = [x] → Snd Γ n X ta t x)
    (hK : ∀ xs, mDs src Γ xs = true → PA X xs (tK X.K ta (callF Γ.B n) src) ∧ noStars xs = true ∧ (∀ t ∈ src, notStarE t = true) ∧ xs.length = src.length ∧ ∀ t x, src = [t] → xs = [x] → PE X x (tE X.K ta (callF Γ.B n) .dat t))
    (h6 : srcB ik Γ t it (fun xs => mDs src Γ xs) (fun xs => mEs src Γ xs) = true) : PI X t it (tIf X.K ta (callF Γ.B n) ik src) := by
  unfold srcB at h6
  cases ik with
  | ex =>
    obtain ⟨v1, v2, v3, v4, v5⟩ := hK _ h6
    obtain ⟨s0, hs0⟩ := len1 v4.symm
    have hp := v5 s0 it hs0 rfl
    rw [hs0]
    exact rif_ex hp (v3 s0 (by rw [hs0]; exact List.mem_cons_self))
  | range =>
    simp only at h6
    split at h6
    · simp only [Bool.and_eq_true, decide_eq_true_eq] at h6
      obtain ⟨⟨⟨rfl, k2⟩, k3⟩, k4⟩ := h6
      obtain ⟨g1, _, _⟩ := O.glob k2
      obtain ⟨v1, v2, v3, v4, _⟩ := hV _ k3
      rcases k4 with k4 | k4
      · obtain ⟨a, rfl⟩ := len1 k4
        simp only [noStars, Bool.and_eq_true] at v2
        exact rif_range1 O.bi g1 v1 v2.1 v3 (v4 ▸ k4)
      · obtain ⟨a, b, rfl⟩ := len2 k4
        simp only [noStars, Bool.and_eq_true] at v2
        exact rif_range2 O.bi g1 v1 v2.1 v2.2.1 v3 (v4 ▸ k4)
    · cases h6
  | enum =>
    simp only [Bool.and_eq_true] at h6
    obtain ⟨ht, h6⟩ := h6
    obtain ⟨es', k', p', rfl⟩ := tupE_of ht
    split at h6
    · simp only [Bool.and_eq_true, decide_eq_true_eq] at h6
      obtain ⟨⟨⟨rfl, k2⟩, k3⟩, k4⟩ := h6
      obtain ⟨g1, _, _⟩ := O.glob k2
      obtain ⟨v1, v2, v3, v4, _⟩ := hK _ k3
      obtain ⟨a, rfl⟩ := len1 k4
      simp only [noStars, Bool.and_eq_true] at v2
      exact rif_enum O.bi g1 v1 v2.1
    · cases h6
  | zip =>
    simp only [Bool.and_eq_true] at h6
    obtain ⟨ht, h6⟩ := h6
    obtain ⟨es', k', p', rfl⟩ := tupE_of ht
    split at h6
    · simp only [Bool.and_eq_true, decide_eq_true_eq] at h6
      obtain ⟨⟨⟨rfl, k2⟩, k3⟩, k4⟩ := h6
      obtain ⟨g1, _, _⟩ := O.glob k2
      obtain ⟨v1, v2, v3, v4, _⟩ := hK _ k3
      obtain ⟨a, b, rfl⟩ := len2 k4
      simp only [noStars, Bool.and_eq_true] at v2
      exact rif_zip O.bi g1 v1 v2.1 v2.2.1
    · cases h6
  | items =>
    simp only [Bool.and_eq_true] at h6
    obtain ⟨ht, h6⟩ := h6
    obtain ⟨es', k', p', rfl⟩ := tupE_of ht
    split at h6
    · simp only [Bool.and_eq_true, decide_eq_true_eq] at h6
      obtain ⟨⟨⟨rfl, k2⟩, k3⟩, k4⟩ := h6
      obtain ⟨v1, v2, v3, v4, v5⟩ := hK _ k4
      obtain ⟨s0, hs0⟩ := len1 v4.symm
      have hp := v5 s0 _ hs0 rfl
      rw [hs0]
      exact rif_items hp (v3 s0 (by rw [hs0]; exact List.mem_cons_self)) k2 k3
    · cases h6
  | vals =>
    simp only at h6
    split at h6
    · simp only [Bool.and_eq_true, decide_eq_true_eq] at h6
      obtain ⟨⟨⟨rfl, k2⟩, k3⟩, k4⟩ := h6
      obtain ⟨v1, v2, v3, v4, v5⟩ := hK _ k4
      obtain ⟨s0, hs0⟩ := len1 v4.symm
      have hp := v5 s0 _ hs0 rfl
      rw [hs0]
      exact rif_vals hp (v3 s0 (by rw [hs0]; exact List.mem_cons_self)) k2 k3
    · cases h6
section
variable {n : Nat} {ta : Option Addr}
mutual
theorem snd : ∀ (t : E) {Γ : Cn} {X : Cx} {e : Expr} (O : XOk Γ n X), mE t Γ e = true → Snd Γ n X ta t e
  | .var i, Γ, X, e, O, h => by
    rw [mE_var] at h
    split at h
    · obtain ⟨h1, h2, h3, h4⟩ := O.var h
      exact .of (rd_var h1 h2 h3 h4) (fun _ => rfl) (fun _ _ _ z => nomatch z)
    · cases h
  | .peek i, Γ, X, e, O, h => by
    rw [mE_peek] at h
    split at h
    · obtain ⟨h1, h2, h3, h4⟩ := O.var h
      exact .of (rd_peek h1 h2 h3 h4) (fun _ => rfl) (fun _ _ _ z => nomatch z)
    · cases h
  | .non, Γ, X, e, O, h => by
    rw [mE_non] at h
    split at h
    · exact .of (rd_const pe_non (fun _ => .non) fun _ => rfl) (fun _ => rfl) (fun _ _ _ z => nomatch z)
    · cases h
  | .bl b, Γ, X, e, O, h => by
    rw [mE_bl] at h
    split at h
    · have z := beq_iff_eq.mp h
      subst z
      exact .of (rd_const pe_bl (fun _ => .bl _) fun _ => rfl) (fun _ => rfl) (fun _ _ _ z => nomatch z)
    · cases h
  | .int i, Γ, X, e, O, h => by
    rw [mE_int] at h
    split at h
    · have z := beq_iff_eq.mp h
      subst z
      exact .of (rd_const pe_int (fun _ => .int _) fun _ => rfl) (fun _ => rfl) (fun _ _ _ z => nomatch z)
    · cases h
  | .str x, Γ, X, e, O, h => by
    rw [mE_str] at h
    split at h
    · have z := of_decide_eq_true h
      subst z
      exact .of (rd_const pe_str (fun _ => .str _) fun _ => rfl) (fun _ => rfl) (fun _ _ _ z => nomatch z)
    · cases h
  | .glob x z, Γ, X, e, O, h => by
    rw [mE_glob] at h
    split at h
    · simp only [Bool.and_eq_true, decide_eq_true_eq] at h
      obtain ⟨⟨rfl, h2⟩, h3⟩ := h
      obtain ⟨g1, g2, g3⟩ := O.glob h2
      obtain ⟨⟨px, pz⟩, hp, hq⟩ := List.any_eq_true.mp h3
      simp only [Bool.and_eq_true, decide_eq_true_eq] at hq
      obtain ⟨rfl, hq⟩ := hq
      rcases O.gl _ hp with ⟨z', t, h1, ht⟩ | ⟨i, t, h1, ht⟩
      · obtain rfl : pz = .str z' := h1
        have : z = .str z' := by
          cases z <;> simp [eqK] at hq
          rw [hq]
        subst this
        exact .of (rd_const (pe_glob (v := .str z') g1 ht ⟨t, rfl⟩ g3) (fun _ => .str _) fun _ => rfl) (fun _ => rfl) (fun _ _ _ z => nomatch z)
      · obtain rfl : pz = .int i := h1
        have : z = .int i := by
          cases z <;> simp [eqK] at hq
          rw [hq]
        subst this
        exact .of (rd_const (pe_glob (v := .int i) g1 ht ⟨t, rfl⟩ g3) (fun _ => .int _) fun _ => rfl) (fun _ => rfl) (fun _ _ _ z => nomatch z)
    · cases h
  | .bin op a b, Γ, X, e, O, h => by
    rw [mE_bin] at h
    split at h
    · simp only [Bool.and_eq_true, decide_eq_true_eq] at h
      obtain ⟨⟨rfl, h2⟩, h3⟩ := h
      exact .of (rd_bin (snd a O h2).1 (snd b O h3).1) (fun _ => rfl) (fun _ _ _ z => nomatch z)
    · cases h
  | .cmp op a b, Γ, X, e, O, h => by
    rw [mE_cmp] at h
    split at h
    · simp only [Bool.and_eq_true, decide_eq_true_eq, Bool.not_eq_true'] at h
      obtain ⟨⟨⟨rfl, h2⟩, h3⟩, h4⟩ := h
      exact ⟨rd_cmp O.units (snd a O h2).1 (snd b O h3).1 h4, rt_cmp O.units (snd a O h2).1 (snd b O h3).1 h4, fun _ _ _ z => nomatch z⟩
    · cases h
  | .chain o1 o2 a b c, Γ, X, e, O, h => by
    rw [mE_chain] at h
    split at h
    · simp only [Bool.and_eq_true, decide_eq_true_eq, Bool.not_eq_true'] at h
      obtain ⟨⟨⟨⟨⟨rfl, rfl⟩, h2⟩, h3⟩, h4⟩, h5⟩ := h
      exact ⟨rd_chain O.units (snd a O h2).1 (snd b O h3).1 (snd c O h4).1 h5, rt_chain O.units (snd a O h2).1 (snd b O h3).1 (snd c O h4).1 h5, fun _ _ _ z => nomatch z⟩
    · cases h
  | .neg a, Γ, X, e, O, h => by
    rw [mE_neg] at h
    split at h
    · exact .of (rd_neg (snd a O h).1) (fun _ => rfl) (fun _ _ _ z => nomatch z)
    · cases h
  | .not a, Γ, X, e, O, h => by
    rw [mE_not] at h
    split at h
    · exact ⟨rd_not (snd a O h).1, rt_not (snd a O h).2.1, fun _ _ _ z => nomatch z⟩
    · cases h
  | .and a b, Γ, X, e, O, h => by
    rw [mE_and] at h
    simp only [Bool.and_eq_true] at h
    obtain ⟨⟨pa, pb⟩, h⟩ := h
    split at h
    · simp only [Bool.and_eq_true] at h
      obtain ⟨h1, h2⟩ := h
      have ha := snd a O h1
      split at h2
      · have hb := snd b O h2
        rename_i ps _
        have w := rt_and (pos := ps) ha.2.1 (pw_and1 hb.2.1)
        exact ⟨rd_and (ha.dat pa) (pe_one (hb.dat pb)), w.pt, fun _ _ _ _ => w⟩
      · have hb := snd b O h2
        have w := rt_and ha.2.1 (hb.2.2 _ _ _ rfl)
        exact ⟨rd_and (ha.dat pa) (hb.dat pb), w.pt, fun _ _ _ _ => w⟩
    · cases h
  | .or a b, Γ, X, e, O, h => by
    rw [mE_or] at h
    simp only [Bool.and_eq_true] at h
    obtain ⟨⟨pa, pb⟩, h⟩ := h
    have fr : ∀ {t : E} {e : Expr}, kdOf t = .fresh → Snd Γ n X ta t e → PE X e (tE X.K ta (callF Γ.B n) .fresh t) := fun {t e} hk hs => by have := hs.1; rw [hk] at this; exact this
    split at h
    · simp only [Bool.and_eq_true] at h
      obtain ⟨h1, h2⟩ := h
      have ha := snd a O h1
      split at h2
      · have hb := snd b O h2
        rename_i ps _
        have w := rt_or (pos := ps) ha.2.1 (pw_or1 hb.2.1)
        refine ⟨?_, w.pt, fun _ _ _ _ => w⟩
        show PE X _ (tE X.K ta (callF Γ.B n) (if kdOf a = .fresh ∧ kdOf b = .fresh then .fresh else .dat) (.or a b))
        split
        · rename_i hk
          exact rd_or (by decide) (fr hk.1 ha) (pe_one (fr hk.2 hb))
        · exact rd_or (by decide) (ha.dat pa) (pe_one (hb.dat pb))
      · have hb := snd b O h2
        have w := rt_or ha.2.1 (hb.2.2 _ _ _ rfl)
        refine ⟨?_, w.pt, fun _ _ _ _ => w⟩
        show PE X _ (tE X.K ta (callF Γ.B n) (if kdOf a = .fresh ∧ kdOf b = .fresh then .fresh else .dat) (.or a b))
        split
        · rename_i hk
          exact rd_or (by decide) (fr hk.1 ha) (fr hk.2 hb)
        · exact rd_or (by decide) (ha.dat pa) (hb.dat pb)
    · cases h
  | .ite c a b, Γ, X, e, O, h => by
    rw [mE_ite] at h
    simp only [Bool.and_eq_true] at h
    obtain ⟨⟨pa, pb⟩, h⟩ := h
    split at h
    · simp only [Bool.and_eq_true] at h
      obtain ⟨⟨h1, h2⟩, h3⟩ := h
      have hc := snd c O h1
      have ha := snd a O h2
      have hb := snd b O h3
      exact ⟨rd_ite hc.2.1 (ha.dat pa) (hb.dat pb), rt_ite hc.2.1 ha.2.1 hb.2.1, fun _ _ _ z => nomatch z⟩
    · cases h
  | .bi f es, Γ, X, e, O, h => by
    rw [mE_bi] at h
    split at h
    · simp only [Bool.and_eq_true, decide_eq_true_eq] at h
      obtain ⟨⟨rfl, h2⟩, h3⟩ := h
      obtain ⟨g1, g2, g3⟩ := O.glob h2
      obtain ⟨v1, v2, _⟩ := sndV es O h3
      exact .of (rd_bi O.calm O.units O.bi g1 g2 g3 v1 v2) (fun _ => rfl) (fun _ _ _ z => nomatch z)
    · cases h
  | .isi a ts tup, Γ, X, e, O, h => by
    rw [mE_isi] at h
    split at h
    · simp only [Bool.and_eq_true, decide_eq_true_eq] at h
      obtain ⟨⟨⟨⟨rfl, h2⟩, h3⟩, h4⟩, h5⟩ := h
      obtain ⟨g1, g2, g3⟩ := O.glob h2
      have ha := snd a O h4
      split at h5
      · simp only [Bool.and_eq_true, decide_eq_true_eq] at h5
        obtain ⟨h5, h6⟩ := h5
        have hl : ts.length ≤ 8 := by
          rw [tys_len h5] at h6; exact h6
        exact .of (rd_isiT O.bi g1 ha.1 h3 (pa_tys O.bi (fun x hx => O.glob hx) h5) hl) (fun _ => rfl) (fun _ _ _ z => nomatch z)
      · obtain ⟨T, rfl, hn⟩ := tys_one h5
        exact .of (rd_isi1 O.bi g1 ha.1 h3 (pa_tys O.bi (fun x hx => O.glob hx) h5) hn) (fun _ => rfl) (fun _ _ _ z => nomatch z)
      · cases h5
    · cases h
  | .tget i b, Γ, X, e, O, h => by
    rw [mE_tget] at h
    split at h
    · simp only [Bool.and_eq_true] at h
      obtain ⟨⟨h1, h2⟩, h3⟩ := h
      obtain ⟨g1, g2, g3, g4⟩ := O.var h1
      exact .of (rd_tget g1 g2 g3 g4 (snd b O h2).1 (plainIx h3)) (fun _ => rfl) (fun _ _ _ z => nomatch z)
    · cases h
  | .get a b, Γ, X, e, O, h => by
    rw [mE_get] at h
    split at h
    · simp only [Bool.and_eq_true] at h
      obtain ⟨⟨h1, h2⟩, h3⟩ := h
      exact .of (rd_get (snd a O h1).1 (snd b O h2).1 (plainIx h3)) (fun _ => rfl) (fun _ _ _ z => nomatch z)
    · cases h
  | .slice a lo hi, Γ, X, e, O, h => by
    rw [mE_slice] at h
    split at h
    · simp only [Bool.and_eq_true] at h
      obtain ⟨⟨h1, h2⟩, h3⟩ := h
      rename_i l hh _ _
      have q1 : PO X l (tP X.K ta (callF Γ.B n) lo) := by
        split at h2
        · exact rp_none h2
        · simp only [Bool.and_eq_true, Bool.not_eq_true'] at h2
          exact rp_some h2.1 (snd lo O h2.2).1
      have q2 : PO X hh (tP X.K ta (callF Γ.B n) hi) := by
        split at h3
        · exact rp_none h3
        · simp only [Bool.and_eq_true, Bool.not_eq_true'] at h3
          exact rp_some h3.1 (snd hi O h3.2).1
      exact .of (rd_slice (snd a O h1).1 q1 q2) (fun _ => rfl) (fun _ _ _ z => nomatch z)
    · cases h
  | .rev a, Γ, X, e, O, h => by
    rw [mE_rev] at h
    split at h
    · exact .of (rd_rev (snd a O h).1) (fun _ => rfl) (fun _ _ _ z => nomatch z)
    · cases h
  | .lrg es, Γ, X, e, O, h => by
    rw [mE_lrg] at h
    split at h
    · simp only [Bool.and_eq_true, decide_eq_true_eq] at h
      obtain ⟨⟨⟨⟨⟨rfl, rfl⟩, h3⟩, h4⟩, k4⟩, h6⟩ := h
      obtain ⟨v1, v2, v3, v4, _⟩ := sndV es O h6
      rcases k4 with k4 | k4
      · obtain ⟨a, rfl⟩ := len1 k4
        simp only [noStars, Bool.and_eq_true] at v2
        exact .of (rd_lrg1 O.calm O.bi (O.glob h3).1 (O.glob h4).1 v1 v2.1 v3 (v4 ▸ k4)) (fun _ => rfl) (fun _ _ _ z => nomatch z)
      · obtain ⟨a, b, rfl⟩ := len2 k4
        simp only [noStars, Bool.and_eq_true] at v2
        exact .of (rd_lrg2 O.calm O.bi (O.glob h3).1 (O.glob h4).1 v1 v2.1 v2.2.1 v3 (v4 ▸ k4)) (fun _ => rfl) (fun _ _ _ z => nomatch z)
    · cases h
  | .sset a, Γ, X, e, O, h => by
    rw [mE_sset] at h
    split at h
    · simp only [Bool.and_eq_true, decide_eq_true_eq] at h
      obtain ⟨⟨⟨⟨⟨rfl, rfl⟩, h3⟩, h4⟩, h5⟩, h6⟩ := h
      exact .of (rd_sset O.calm O.bi (O.glob h3).1 (O.glob h4).1 (snd a O h6).1 h5) (fun _ => rfl) (fun _ _ _ z => nomatch z)
    · cases h
  | .lst es, Γ, X, e, O, h => by
    rw [mE_lst] at h
    split at h
    · exact .of (rd_lst (sndI es O h)) (fun _ => rfl) (fun _ _ _ z => nomatch z)
    · cases h
  | .tup es, Γ, X, e, O, h => by
    rw [mE_tup] at h
    split at h
    · exact .of (rd_tup (sndI es O h)) (fun _ => rfl) (fun _ _ _ z => nomatch z)
    · cases h
  | .star _, Γ, X, e, O, h => by rw [mE_star] at h; cases h
  | .call f es, Γ, X, e, O, h => by
    rw [mE_call] at h
    split at h
    · simp only [Bool.and_eq_true] at h
      obtain ⟨⟨h1, h2⟩, h3⟩ := h
      obtain ⟨g1, g2, g3⟩ := O.glob h2
      obtain ⟨v1, v2, v3, v4, _⟩ := sndK es O h3
      exact .of (rd_call (fr := false) O (by obtain ⟨F, fa, fd, a1, a2, a3, a4, a5, _⟩ := fn_any O h1; exact ⟨F, fa, fd, a1, a2, a3, a4, a5⟩) g1 g3 v1 v2 fun z => by subst z; cases es with | nil => rfl | cons _ _ => simp at v4) (fun _ => rfl) (fun _ _ _ z => nomatch z)
    · cases h
  | .callN f es, Γ, X, e, O, h => by
    rw [mE_callN] at h
    split at h
    · simp only [Bool.and_eq_true] at h
      obtain ⟨⟨h1, h2⟩, h3⟩ := h
      obtain ⟨g1, g2, g3⟩ := O.glob h2
      obtain ⟨v1, v2, v3, v4, _⟩ := sndK es O h3
      exact .of (rd_call (fr := true) O (fn_new O h1) g1 g3 v1 v2 fun z => by subst z; cases es with | nil => rfl | cons _ _ => simp at v4) (fun _ => rfl) (fun _ _ _ z => nomatch z)
    · cases h
  | .callK f perm es ks, Γ, X, e, O, h => by
    rw [mE_callK] at h
    split at h
    · simp only [Bool.and_eq_true, decide_eq_true_eq] at h
      obtain ⟨⟨⟨⟨⟨h1, h2⟩, h3⟩, h4⟩, h5⟩, h6⟩ := h
      obtain ⟨g1, g2, g3⟩ := O.glob h2
      obtain ⟨v1, v2, v3, v4, _⟩ := sndK es O h4
      obtain ⟨w1, w3, w4⟩ := sndP ks O h5
      refine .of (rd_callK O h1 g1 g3 v1 v2 v4 (by rw [kw_len h3]; exact w4) w1 h3 h6 v3 w3) (fun _ => rfl) (fun _ _ _ z => nomatch z)
    · cases h
  | .callT f i es, Γ, X, e, O, h => by
    rw [mE_callT] at h
    split at h
    · simp only [Bool.and_eq_true] at h
      obtain ⟨⟨⟨h1, h2⟩, h3⟩, h4⟩ := h
      obtain ⟨g1, g2, g3⟩ := O.glob h2
      obtain ⟨k1, k2, k3, k4⟩ := O.var h3
      obtain ⟨v1, v2, v3, v4, _⟩ := sndK es O h4
      exact .of (rd_callT O h1 g1 g3 k1 k2 k3 k4 v1 v2) (fun _ => rfl) (fun _ _ _ z => nomatch z)
    · cases h
  | .callR f a es, Γ, X, e, O, h => by
    rw [mE_callR] at h
    split at h
    · simp only [Bool.and_eq_true, decide_eq_true_eq] at h
      obtain ⟨⟨⟨⟨⟨h1, h2⟩, h3⟩, h4⟩, h5⟩, h6⟩ := h
      obtain ⟨g1, g2, g3⟩ := O.glob h2
      obtain ⟨v1, v2, v3, v4, _⟩ := sndK es O h6
      have ha := (snd a O h5).1
      rw [h4] at ha
      exact .of (rd_callR O h1 g1 g3 ha h3 v1 v2) (fun _ => rfl) (fun _ _ _ z => nomatch z)
    · cases h
  | .callI fs ix es, Γ, X, e, O, h => by
    rw [mE_callI] at h
    split at h
    · simp only [Bool.and_eq_true, decide_eq_true_eq] at h
      obtain ⟨⟨⟨⟨h1, h2⟩, h3⟩, h4⟩, h5⟩ := h
      obtain ⟨v1, v2, v3, v4, _⟩ := sndK es O h5
      exact .of (rd_callI O (fun x hx => O.glob hx) h1 h2 (snd ix O h3).1 (plainIx h4) v1 v2) (fun _ => rfl) (fun _ _ _ z => nomatch z)
    · cases h
  | .comp elt tg ik src cond, Γ, X, e, O, h => by
    rw [mE_comp] at h
    split at h
    · simp only [Bool.and_eq_true, decide_eq_true_eq] at h
      obtain ⟨⟨⟨⟨⟨⟨⟨pe, h1⟩, h2⟩, h3⟩, _⟩, h4⟩, h5⟩, h6⟩ := h
      rename_i el t it ifs scope pos _
      have bo : BlkOk X.N X.env.scope scope (blkOf Γ tg) := by rw [O.N, O.sc]; exact blkOk_by h1
      have hi : PI X t it (tI X.K ta (callF Γ.B n) ik src) := src_ok O (fun xs hx => sndV src O hx) h6
      refine .of (rd_comp O.calm O.nd hi bo (blkOf_snd Γ tg) (fun s H C' cl fp => pg_T (O.blk s H scope cl C' fp).sto h2) (fun s H C' cl fp => ?_) (fun s H C' cl fp => (snd elt (O.blk s H scope cl C' fp) h4).dat pe) (foldSet h3) (pair_tg h6 h2)).2 (fun _ => rfl) (fun _ _ _ z => nomatch z)
      split at h5
      · exact pts_gone h5
      · simp only [Bool.and_eq_true, Bool.not_eq_true'] at h5
        exact pts_cond h5.1 (snd cond (O.blk s H scope cl C' fp) h5.2).2.1
      · cases h5
    · cases h
  | .comp2 elt tg ik src cond tg1 ik1 src1 cond1, Γ, X, e, O, h => by
    rw [mE_comp2] at h
    split at h
    · simp only [Bool.and_eq_true, decide_eq_true_eq] at h
      obtain ⟨⟨⟨⟨⟨⟨⟨⟨⟨⟨⟨pe, h1⟩, h2⟩, h3⟩, h4⟩, h5⟩, _⟩, h7⟩, h8⟩, h9⟩, h10⟩, h11⟩ := h
      rename_i el t it ifs t1 it1 ifs1 scope pos _
      have bo : BlkOk X.N X.env.scope scope (blkOf2 Γ tg tg1) := by rw [O.N, O.sc]; exact blkOk_by h1
      refine .of (rd_comp2 O.calm O.nd (src_ok O (fun xs hx => sndV src O hx) h10) bo (blkOf2_snd Γ tg tg1) (fun s H C' cl fp => pg_T (O.blk s H scope cl C' fp).sto h2) (fun s H C' cl fp => ?_)
        (fun s H C' cl fp => srcf_ok (O.blk s H scope cl C' fp) (fun xs hx => sndV src1 (O.blk s H scope cl C' fp) hx) (fun xs hx => sndK src1 (O.blk s H scope cl C' fp) hx) h11) (fun s H C' cl fp => pg_T (O.blk s H scope cl C' fp).sto h3) (fun s H C' cl fp => ?_)
        (fun s H C' cl fp => (snd elt (O.blk s H scope cl C' fp) h7).dat pe) (foldSet h4) (fun env => foldSet h5) (pair_tg h10 h2) (pair_tg h11 h3)).2 (fun _ => rfl) (fun _ _ _ z => nomatch z)
      · split at h8
        · exact pts_gone h8
        · simp only [Bool.and_eq_true, Bool.not_eq_true'] at h8
          exact pts_cond h8.1 (snd cond (O.blk s H scope cl C' fp) h8.2).2.1
        · cases h8
      · split at h9
        · exact pts_gone h9
        · simp only [Bool.and_eq_true, Bool.not_eq_true'] at h9
          exact pts_cond h9.1 (snd cond1 (O.blk s H scope cl C' fp) h9.2).2.1
        · cases h9
    · cases h
  | .dcomp ke ve tg ik src cond, Γ, X, e, O, h => by
    rw [mE_dcomp] at h
    split at h
    · simp only [Bool.and_eq_true, decide_eq_true_eq] at h
      obtain ⟨⟨⟨⟨⟨⟨⟨⟨⟨pk, pv⟩, h1⟩, h2⟩, h3⟩, _⟩, h4⟩, h5⟩, h6⟩, h7⟩ := h
      rename_i kx vx t it ifs scope pos _
      have bo : BlkOk X.N X.env.scope scope (blkOf Γ tg) := by rw [O.N, O.sc]; exact blkOk_by h1
      refine .of (rd_dcomp O.calm O.nd (src_ok O (fun xs hx => sndV src O hx) h7) bo (blkOf_snd Γ tg) (fun s H C' cl fp => pg_T (O.blk s H scope cl C' fp).sto h2) (fun s H C' cl fp => ?_) (fun s H C' cl fp => (snd ke (O.blk s H scope cl C' fp) h4).dat pk)
        (fun s H C' cl fp => (snd ve (O.blk s H scope cl C' fp) h5).dat pv) (foldSet h3) (pair_tg h7 h2)) (fun _ => rfl) (fun _ _ _ z => nomatch z)
      split at h6
      · exact pts_gone h6
      · simp only [Bool.and_eq_true, Bool.not_eq_true'] at h6
        exact pts_cond h6.1 (snd cond (O.blk s H scope cl C' fp) h6.2).2.1
      · cases h6
    · cases h
  | .dic0, Γ, X, e, O, h => by
    rw [mE_dic0] at h
    split at h
    · exact .of rd_dic0 (fun _ => rfl) (fun _ _ _ z => nomatch z)
    · cases h
  | .dic1 a b, Γ, X, e, O, h => by
    rw [mE_dic1] at h
    split at h
    · simp only [Bool.and_eq_true] at h
      obtain ⟨⟨⟨p1, p2⟩, h1⟩, h2⟩ := h
      exact .of (rd_dic1 ((snd a O h1).dat p1) ((snd b O h2).dat p2)) (fun _ => rfl) (fun _ _ _ z => nomatch z)
    · cases h
  | .dget a k x, Γ, X, e, O, h => by
    rw [mE_dget] at h
    split at h
    · simp only [Bool.and_eq_true, decide_eq_true_eq] at h
      obtain ⟨⟨⟨⟨⟨⟨⟨⟨rfl, h2⟩, h3⟩, h4⟩, h5⟩, h6⟩, h7⟩, h8⟩, h9⟩ := h
      exact .of (rd_dget O.units (snd a O h7).1 (snd k O h8).1 ((snd x O h9).dat h6) h2 h3 h4 h5) (fun _ => rfl) (fun _ _ _ z => nomatch z)
    · cases h
  | .sitm a, Γ, X, e, O, h => by
    rw [mE_sitm] at h
    split at h
    · simp only [Bool.and_eq_true, decide_eq_true_eq] at h
      obtain ⟨⟨⟨⟨⟨rfl, rfl⟩, h3⟩, h4⟩, h5⟩, h6⟩ := h
      exact .of (rd_sitm O.calm O.units O.bi (O.glob h3).1 (snd a O h6).1 h4 h5) (fun _ => rfl) (fun _ _ _ z => nomatch z)
    · cases h
  | .idx a b, Γ, X, e, O, h => by
    rw [mE_idx] at h
    split at h
    · simp only [Bool.and_eq_true, decide_eq_true_eq] at h
      obtain ⟨⟨⟨⟨⟨rfl, h2⟩, h3⟩, h4⟩, h5⟩, h6⟩ := h
      exact .of (rd_idx O.units (snd a O h5).1 (snd b O h6).1 h2 h3 (notStar_of h6) h4) (fun _ => rfl) (fun _ _ _ z => nomatch z)
    · cases h
  | .absent, Γ, X, e, O, h => by rw [mE_absent] at h; cases h
theorem sndV : ∀ (ts : List E) {Γ : Cn} {X : Cx} {xs : List Expr} (O : XOk Γ n X), mEs ts Γ xs = true → PA X xs (tV X.K ta (callF Γ.B n) ts) ∧ noStars xs = true ∧ (∀ t ∈ ts, notStarE t = true) ∧ xs.length = ts.length ∧ ∀ t x, ts = [t] → xs = [x] → Snd Γ n X ta t x
  | [], Γ, X, xs, O, h => by
    cases xs with
    | nil => exact ⟨rv_nil, rfl, by simp, rfl, fun _ _ z => nomatch z⟩
    | cons _ _ => rw [mEs_nil] at h; cases h
  | t :: r, Γ, X, xs, O, h => by
    cases xs with
    | nil => rw [mEs_cons] at h; cases h
    | cons x q =>
      rw [mEs_cons] at h
      simp only [Bool.and_eq_true] at h
      obtain ⟨⟨h1, h2⟩, h3⟩ := h
      obtain ⟨v1, v2, v3, v4, _⟩ := sndV r O h3
      have ht := snd t O h2
      refine ⟨rv_cons ht.1 v1 h1 (notStar_of h2), by simp [noStars, h1, v2], fun u hu => ?_, by simp [v4], fun t0 x0 z1 z2 => by cases z1; cases z2; exact ht⟩
      rcases List.mem_cons.mp hu with z | z
      · rw [z]; exact notStar_of h2
      · exact v3 u z
theorem sndK : ∀ (ts : List E) {Γ : Cn} {X : Cx} {xs : List Expr} (O : XOk Γ n X), mDs ts Γ xs = true → PA X xs (tK X.K ta (callF Γ.B n) ts) ∧ noStars xs = true ∧ (∀ t ∈ ts, notStarE t = true) ∧ xs.length = ts.length ∧ ∀ t x, ts = [t] → xs = [x] → PE X x (tE X.K ta (callF Γ.B n) .dat t)
  | [], Γ, X, xs, O, h => by
    cases xs with
    | nil => exact ⟨rk_nil, rfl, by simp, rfl, fun _ _ z => nomatch z⟩
    | cons _ _ => rw [mDs_nil] at h; cases h
  | t :: r, Γ, X, xs, O, h => by
    cases xs with
    | nil => rw [mDs_cons] at h; cases h
    | cons x q =>
      rw [mDs_cons] at h
      simp only [Bool.and_eq_true] at h
      obtain ⟨⟨⟨h1, hp⟩, h2⟩, h3⟩ := h
      obtain ⟨v1, v2, v3, v4, _⟩ := sndK r O h3
      have ht := (snd t O h2).dat hp
      refine ⟨rk_cons ht v1 h1 (notStar_of h2), by simp [noStars, h1, v2], fun u hu => ?_, by simp [v4], fun t0 x0 z1 z2 => by cases z1; cases z2; exact ht⟩
      rcases List.mem_cons.mp hu with z | z
      · rw [z]; exact notStar_of h2
      · exact v3 u z
theorem sndP : ∀ (ts : List E) {Γ : Cn} {X : Cx} {kws : List Keyword} (O : XOk Γ n X), mDs ts Γ (kwVals kws) = true → PK X kws (tK X.K ta (callF Γ.B n) ts) ∧ (∀ t ∈ ts, notStarE t = true) ∧ kws.length = ts.length
  | [], Γ, X, kws, O, h => by
    cases kws with
    | nil => exact ⟨pk_nilK, by simp, rfl⟩
    | cons k _ => cases k; rw [mDs_nil] at h; cases h
  | t :: r, Γ, X, kws, O, h => by
    cases kws with
    | nil => rw [mDs_cons] at h; cases h
    | cons k q =>
      obtain ⟨nm, x, kp⟩ := k
      rw [mDs_cons] at h
      simp only [kwVals, Bool.and_eq_true] at h
      obtain ⟨⟨⟨h1, hp⟩, h2⟩, h3⟩ := h
      obtain ⟨v1, v3, v4⟩ := sndP r O h3
      refine ⟨pk_consK ((snd t O h2).dat hp) v1 (notStar_of h2), fun u hu => ?_, by simp [v4]⟩
      rcases List.mem_cons.mp hu with z | z
      · rw [z]; exact notStar_of h2
      · exact v3 u z
theorem sndI : ∀ (ts : List E) {Γ : Cn} {X : Cx} {xs : List Expr} (O : XOk Γ n X), mIs ts Γ xs = true → PA X xs (tK X.K ta (callF Γ.B n) ts)
  | [], Γ, X, xs, O, h => by
    cases xs with
    | nil => exact rk_nil
    | cons _ _ => rw [mIs_nil] at h; cases h
  | .star t :: r, Γ, X, xs, O, h => by
    simp only [mIs] at h
    split at h
    · simp only [Bool.and_eq_true] at h
      exact rk_star (snd t O h.1).1 (sndI r O h.2)
    · cases h
  | t :: r, Γ, X, xs, O, h => by
    by_cases hs : notStarE t = true
    · rw [mIs_cons hs] at h
      cases xs with
      | nil => simp at h
      | cons x q =>
        simp only [Bool.and_eq_true] at h
        obtain ⟨⟨⟨h1, hp⟩, h2⟩, h3⟩ := h
        exact rk_cons ((snd t O h2).dat hp) (sndI r O h3) h1 hs
    · cases t <;> first | (exact absurd rfl hs) | skip
      rename_i t0
      simp only [mIs] at h
      split at h
      · simp only [Bool.and_eq_true] at h
        exact rk_star (snd t0 O h.1).1 (sndI r O h.2)
      · cases h
end
end
end KN

set_option maxRecDepth 100000
set_option maxHeartbeats 4000000
namespace KN
open PySem L2 PyProof.Rows
/-! ### the text of statements -/
def isStarE : Expr → Bool
  | .Starred .. => true
  | _ => false
/-- how a, b = x, y is stored: some (some names): name by name; some none: by a tuple -/
def swN (sc : Scope) (ts vs : List Expr) : Option (Option (List Str)) :=
  if !(ts.length == 2 || ts.length == 3) || vs.length != ts.length then some none else
  if vs.any fun | .Starred .. => true | _ => false then some none else
  let line := (ts.head?.map (·.pos.line)).getD 0
  let names := ts.filterMap fun
    | .Name id pos => if sc.names.lookup id == some .local && pos.line == line then some id else none
    | _ => none
  if names.length != ts.length || names.eraseDups.length != names.length then some none else
  if vs.all (foldedForSure 8) then some none else
  if vs.all (constantsAlone 8) then none else some (some names)
def isComp : Expr → Bool
  | .ListComp .. => true
  | .SetComp .. => true
  | .DictComp .. => true
  | _ => false
def isTupV : Expr → Bool
  | .Tuple .. => true
  | _ => false
/-- name = value: stored within a comprehension's frame? some true: yes -/
def swC (sc : Scope) (x : Str) (px : Pos) (v : Expr) : Bool := match v with
  | .ListComp _ _ scope p => (sc.names.lookup x == some .local) && (px.line == p.line) && !(scope.names.any fun (n, k) => n == x && (k == .local || k == .cell))
  | _ => false
def isEComp : E → Bool
  | .comp _ _ _ _ _ => true
  | .comp2 _ _ _ _ _ _ _ _ _ => true
  | _ => false
def mSrc (ik : IK) (src : List E) (Γ : Cn) (t it : Expr) : Bool := srcB ik Γ t it (fun xs => mDs src Γ xs) (fun xs => mEs src Γ xs)
/-- the values of a parallel assignment: those to be one's own are new -/
def mPs : List (Nat × Bool) → List E → Cn → List Expr → Bool
  | [], [], _, [] => true
  | (_, b) :: ts, t :: r, Γ, x :: q => notStar x && (if b then decide (kdOf t = .fresh) else plain t) && mE t Γ x && mPs ts r Γ q
  | _, _, _, _ => false
def locsOk (Γ : Cn) : List (Nat × Bool) → List Expr → List Str → Bool
  | [], [], [] => true
  | (i, _) :: ts, .Name x _ :: es, y :: ys => decide (Γ.N[i]? = some x) && decide (x = y) && decide (Γ.sc.names.lookup x = some .local) && locsOk Γ ts es ys
  | _, _, _ => false
/-- what a clause writes down -/
def mHA (c : Nat) (slot : Option Nat) (Γ : Cn) : HA → Expr → Bool
  | .str x, .Constant (.str y) _ _ => decide (x = y)
  | .bl b, .Constant (.bool k) _ _ => b == k
  | .non, .Constant .none _ _ => true
  | .int i, .Constant (.int j) _ _ => i == j
  | .fld, .Attribute (.Name n _) f _ => (match slot, xcs[c]? with
    | some i, some k => nameOk Γ i n && decide (k.fld = some f)
    | _, _ => false)
  | .isi T, .Call (.Name z _) [.Name n _, .Name t _] [] _ => (match slot with
    | some i => decide (z = "isinstance") && glOk Γ "isinstance" && nameOk Γ i n && decide (t = Str.ofString T) && decide (T ∈ (["LookupError", "ValueError"] : List String)) && glOk Γ t
    | none => false)
  | _, _ => false
def mHAs (c : Nat) (slot : Option Nat) (Γ : Cn) : List HA → List Expr → Bool
  | [], [] => true
  | a :: as, e :: es => mHA c slot Γ a e && mHAs c slot Γ as es
  | _, _ => false
def mHE (c : Nat) (slot : Option Nat) (Γ : Cn) : HE → Expr → Bool
  | .one a, e => mHA c slot Γ a e
  | .lst as, .List es _ => mHAs c slot Γ as es && decide (es.length ≤ 100)
  | _, _ => false
def mH (fr : Bool) (h : Hd) (Γ : Cn) : ExceptHandler → Bool
  | .ExceptHandler (some (.Name x _)) nm [st] _ => (match xcs[h.c]? with
      | some k => decide (k.name = x)
      | none => false) && decide (h.c ∈ Γ.xs) && glOk Γ x && (match h.slot, nm with
      | none, none => true
      | some i, some n => decide (Γ.N[i]? = some n) && decide (Γ.sc.names.lookup n = some .local) && decide (i ≠ h.tgt)
      | _, _ => false) && (match h.ret, st with
      | true, .Return (some v) _ => !fr && mHE h.c h.slot Γ h.val v
      | false, .Assign [.Name t _] v _ => decide (Γ.N[h.tgt]? = some t) && stOk Γ t && mHE h.c h.slot Γ h.val v
      | _, _ => false)
  | _ => false
def mHs (fr : Bool) : List Hd → Cn → List ExceptHandler → Bool
  | [], _, [] => true
  | h :: hs, Γ, e :: es => mH fr h Γ e && mHs fr hs Γ es
  | _, _, _ => false
mutual
def mS (fr : Bool) : S → Cn → Stmt → Bool
  | .asg i e, Γ, s => (match s with
    | .Assign [.Name x px] v _ => decide (Γ.N[i]? = some x) && stOk Γ x && plain e && mE e Γ v && (!isComp v || isEComp e)
    | _ => false)
  | .asgO i e, Γ, s => (match s with
    | .Assign [.Name x px] v _ => decide (Γ.N[i]? = some x) && stOk Γ x && decide (kdOf e = .fresh) && mE e Γ v && (!isComp v || isEComp e)
    | _ => false)
  | .unp is e, Γ, s => (match s with
    | .Assign [.Tuple ts k p] v _ => mNames Γ is ts && plain e && mE e Γ v && (match v with
      | .Tuple vs _ _ => decide (swN Γ.sc ts vs = some none)
      | _ => true)
    | _ => false)
  | .par ts es, Γ, s => (match s with
    | .Assign [.Tuple tg _ _] (.Tuple vs _ _) _ => mNames Γ (ts.map (·.1)) tg && decide ((ts.map (·.1)).Nodup) && mPs ts es Γ vs && noStars vs && (match swN Γ.sc tg vs with
      | some (some ns) => locsOk Γ ts tg ns && decide (ts.length = 2 ∨ ts.length = 3)
      | some none => decide (ts.length ≤ 8)
      | none => false)
    | _ => false)
  | .sto i ix e, Γ, s => (match s with
    | .Assign [.Subscript (.Name x _) k _] v _ => nameOk Γ i x && plain e && mE e Γ v && mE ix Γ k && notSlice k
    | _ => false)
  | .stoT i ix e, Γ, s => (match s with
    | .Assign [.Subscript (.Name x _) k _] v _ => nameOk Γ i x && plain e && mE e Γ v && mE ix Γ k && notSlice k
    | _ => false)
  | .app i e, Γ, s => (match s with
    | .Expr (.Call (.Attribute (.Name x _) m ap) [v] [] cp) _ => decide (m = "append") && nameOk Γ i x && notStar v && plain e && mE e Γ v && (ap.endLine == cp.line)
    | _ => false)
  | .extd i e, Γ, s => (match s with
    | .Expr (.Call (.Attribute (.Name x _) m ap) [v] [] cp) _ => decide (m = "extend") && nameOk Γ i x && notStar v && mE e Γ v && (ap.endLine == cp.line)
    | _ => false)
  | .pop tg i, Γ, s => (match s with
    | .Assign [t] (.Call (.Attribute (.Name x _) m ap) [] [] cp) _ => decide (m = "pop") && nameOk Γ i x && mTg Γ tg t && !tg.slots.contains i && (ap.endLine == cp.line)
    | _ => false)
  | .rais c es, Γ, s => (match s with
    | .Raise (some (.Call (.Name x _) args [] _)) none _ => (match xcs[c]? with
      | some k => decide (k.name = x) && (match k.fld with
        | some _ => decide (args.length = 1)
        | none => decide (args.length = 0))
      | none => false) && decide (c ∈ Γ.xs) && glOk Γ x && mDs es Γ args
    | _ => false)
  | .tryx body hs, Γ, s => (match s with
    | .Try b hds [] [] _ => mSs fr body Γ b && mHs fr hs Γ hds && !hds.isEmpty
    | _ => false)
  | .expr e, Γ, s => (match s with
    | .Expr v _ => mE e Γ v && !isComp v
    | _ => false)
  | .ret e, Γ, s => (match s with
    | .Return (some v) _ => mE e Γ v && (if fr then decide (kdOf e = .fresh) else plain e)
    | _ => false)
  | .ite c a b, Γ, s => (match s with
    | .If t p q _ => mE c Γ t && mSs fr a Γ p && mSs fr b Γ q
    | _ => false)
  | .loop tg ik src body, Γ, s => (match s with
    | .For t it p [] _ => mTg Γ tg t && notSet it && mSrc ik src Γ t it && mSs fr body Γ p
    | _ => false)
  | .while _ c body, Γ, s => (match s with
    | .While t p [] _ => mE c Γ t && mSs fr body Γ p
    | _ => false)
  | .cont, Γ, s => (match s with
    | .Continue _ => true
    | _ => false)
  | .pass, Γ, s => (match s with
    | .Pass _ => true
    | _ => false)
  | .frz _, _, _ => false
  | .ask2 i f a, Γ, s => (match s with
    | .If (.BoolOp .Or [.UnaryOp .Not (.Call (.Name z _) [.Name x _] [] _) _, .UnaryOp .Not (.Call (.Name w _) [.Name y _] [] _) _] _) p [] _ => fnIs Γ f z true false && fnIs Γ f w true false && glOk Γ z && glOk Γ w && nameOk Γ i x && nameOk Γ i y && mSs fr a Γ p
    | _ => false)
def mSs (fr : Bool) : List S → Cn → List Stmt → Bool
  | [], _, ss => ss.isEmpty
  | .frz _ :: r, Γ, ss => mSs fr r Γ ss
  | t :: r, Γ, ss => (match ss with
    | s :: q => mS fr t Γ s && mSs fr r Γ q
    | [] => false)
end
/-! ### states of a def's body -/
structure RelS (K : Fg) (ta : Option Addr) (G₀ H₀ G : Hp) (σ : L2.St) (H : Hp) (ρ : En) (τ : List D) : Prop where
  rel : Rel K ta G σ H ρ τ
  ext : Ext ta G₀ H₀ G H
  new : ∀ (i : Nat) ds a, ρ[i]? = some (some (.own ds)) → σ[i]? = some (some (.ref a)) → H₀ a = none
section
variable {K : Fg} {ta : Option Addr} {G₀ H₀ G H G' H' : Hp} {σ : L2.St} {ρ : En} {τ τ' : List D} {v : V} {d : D}
/-- behind an expression -/
theorem RelS.step (S : RelS K ta G₀ H₀ G σ H ρ τ) (x : Ext ta G H G' H') (r : Rel K ta G' σ H' ρ τ') : RelS K ta G₀ H₀ G' σ H' ρ τ' := ⟨r, S.ext.trans x, S.new⟩
theorem RelS.setDat (S : RelS K ta G₀ H₀ G σ H ρ τ) (h : DR K G v d) (i : Nat) : RelS K ta G₀ H₀ G (σ.set i (some v)) H (ρ.set i (some (.dat d))) τ := by
  refine ⟨S.rel.setDat h i, S.ext, fun j ds a e1 e2 => ?_⟩
  rcases get_set e1 with ⟨rfl, _, z⟩ | ⟨hj, e1⟩
  · cases z
  · rw [List.getElem?_set_ne (Ne.symm hj)] at e2
    exact S.new j ds a e1 e2
/-- a list of one's own to a slot -/
theorem RelS.setOwn (S : RelS K ta G₀ H₀ G σ H ρ τ) {a : Addr} {o : HO} {ds : Od} (h0 : H₀ a = none) (ht : ta ≠ some a) (hG : G a = none) (hH : H a = some o) (dr : OwR K G o ds) (hn : ∀ (j : Nat) es, ρ[j]? = some (some (.own es)) → σ[j]? ≠ some (some (.ref a))) (i : Nat) :
    RelS K ta G₀ H₀ G (σ.set i (some (.ref a))) H (ρ.set i (some (.own ds))) τ := by
  have R := S.rel
  have ne : ∀ {j : Nat}, j ≠ i → (σ.set i (some (V.ref a)))[j]? = σ[j]? := fun {j} hj => List.getElem?_set_ne (Ne.symm hj)
  refine ⟨⟨R.sub, R.tin, fun j d' e => ?_, fun j es e => ?_, fun j k es fs b hjk e1 e2 e3 => ?_, fun j e => ?_, by rw [List.length_set, List.length_set]; exact R.len⟩, S.ext, fun j es b e1 e2 => ?_⟩
  · rcases get_set e with ⟨rfl, hl, z⟩ | ⟨hj, e⟩
    · cases z
    · rw [ne hj]; exact R.dat j d' e
  · rcases get_set e with ⟨rfl, hl, z⟩ | ⟨hj, e⟩
    · cases z
      exact ⟨a, o, List.getElem?_set_self (Nat.lt_of_lt_of_le hl R.len), ht, hG, hH, dr⟩
    · rw [ne hj]; exact R.own j es e
  · rcases get_set e1 with ⟨rfl, hl, z⟩ | ⟨hj, e1⟩
    · rcases get_set e2 with ⟨rfl, _, _⟩ | ⟨hk, e2⟩
      · exact absurd rfl hjk
      · rw [List.getElem?_set_self (Nat.lt_of_lt_of_le hl R.len)] at e3
        cases e3
        rw [ne hk]
        exact hn k fs e2
    · have e1' := e1
      rcases get_set e2 with ⟨z0, hl, z⟩ | ⟨hk, e2⟩
      · rw [ne hj] at e3
        rw [z0, List.getElem?_set_self (Nat.lt_of_lt_of_le hl R.len)]
        intro z2
        cases z2
        exact hn j es e1' e3
      · rw [ne hj] at e3
        rw [ne hk]
        exact R.apart j k es fs b hjk e1 e2 e3
  · rcases get_set e with ⟨rfl, hl, z⟩ | ⟨hj, e⟩
    · cases z
    · rw [ne hj]; exact R.tn j e
  · rcases get_set e1 with ⟨rfl, hl, z⟩ | ⟨hj, e1⟩
    · rw [List.getElem?_set_self (Nat.lt_of_lt_of_le hl R.len)] at e2
      cases e2
      exact h0
    · rw [ne hj] at e2
      exact S.new j es b e1 e2
/-- one's own list is changed -/
theorem RelS.write (S : RelS K ta G₀ H₀ G σ H ρ τ) {i : Nat} {a : Addr} {es : Od} {o : HO} {ds : Od} (ho : ρ[i]? = some (some (.own es))) (hs : σ[i]? = some (some (.ref a))) (dr : OwR K G o ds) :
    RelS K ta G₀ H₀ G σ (upd H a o) (ρ.set i (some (.own ds))) τ := by
  have R := S.rel
  obtain ⟨a', ws, q1, q2, q3, q4, q5⟩ := R.own i es ho
  rw [hs] at q1
  cases q1
  have h0 : H₀ a = none := S.new i es a ho hs
  have il : i < ρ.length := (List.getElem?_eq_some_iff.mp ho).1
  refine ⟨⟨fun b u h => ?_, fun b e => ?_, fun j d' e => ?_, fun j fs e => ?_, fun j k fs gs b hjk e1 e2 e3 => ?_, fun j e => ?_, by rw [List.length_set]; exact R.len⟩, S.ext.updNew h0, fun j fs b e1 e2 => ?_⟩
  · rw [upd_ne (fun z => by subst z; rw [q3] at h; cases h)]; exact R.sub b u h
  · obtain ⟨h1, us, h2, h3⟩ := R.tin b e
    exact ⟨h1, us, by rw [upd_ne (fun z => q2 (by rw [e, z]))]; exact h2, h3⟩
  · rcases get_set e with ⟨rfl, hl, z⟩ | ⟨hj, e⟩
    · cases z
    · exact R.dat j d' e
  · rcases get_set e with ⟨rfl, hl, z⟩ | ⟨hj, e⟩
    · cases z
      exact ⟨a, o, hs, q2, q3, upd_same, dr⟩
    · obtain ⟨b, us, h1, h2, h3, h4, h5⟩ := R.own j fs e
      refine ⟨b, us, h1, h2, h3, ?_, h5⟩
      rw [upd_ne (fun z => by subst z; exact R.apart j i fs es b hj e ho h1 hs)]
      exact h4
  · have back : ∀ {j : Nat} {fs : Od}, (ρ.set i (some (.own ds)))[j]? = some (some (.own fs)) → ∃ fs', ρ[j]? = some (some (.own fs')) := fun {j fs} e => by
      rcases get_set e with ⟨rfl, _, _⟩ | ⟨_, e⟩
      · exact ⟨es, ho⟩
      · exact ⟨fs, e⟩
    obtain ⟨f1, k1⟩ := back e1
    obtain ⟨f2, k2⟩ := back e2
    exact R.apart j k f1 f2 b hjk k1 k2 e3
  · rcases get_set e with ⟨rfl, hl, z⟩ | ⟨hj, e⟩
    · cases z
    · exact R.tn j e
  · rcases get_set e1 with ⟨rfl, hl, z⟩ | ⟨hj, e1⟩
    · rw [hs] at e2
      cases e2
      exact h0
    · exact S.new j fs b e1 e2
/-- one's own list was another's box -/
theorem RelS.urn (S : RelS K ta G₀ H₀ G σ H ρ τ) {i : Nat} {a : Addr} {es : Od} {ds : List D} (ho : ρ[i]? = some (some (.own es))) (hs : σ[i]? = some (some (.ref a))) (x : Ext (some a) G H G' H') (s' : Same G' H') (ht : TinOk K (some a) G' H' ds) :
    RelS K ta G₀ H₀ G' σ H' (ρ.set i (some (.own (.lst ds)))) τ := by
  have R := S.rel
  obtain ⟨a', ws, q1, q2, q3, q4, q5⟩ := R.own i es ho
  rw [hs] at q1
  cases q1
  have h0 : H₀ a = none := S.new i es a ho hs
  obtain ⟨t1, us, t2, t3⟩ := ht a rfl
  have gone : ∀ {b : Addr} {o : HO}, G b = none → H b = some o → G' b = none := fun {b o} k1 k2 => by
    cases q : G' b with
    | none => rfl
    | some o =>
      rcases x.new b o q with z | z
      · rw [k1] at z; cases z
      · rw [k2] at z; cases z
  refine ⟨⟨s', fun b e => ?_, fun j d' e => ?_, fun j fs e => ?_, fun j k fs gs b hjk e1 e2 e3 => ?_, fun j e => ?_, by rw [List.length_set]; exact R.len⟩, ⟨S.ext.g.trans x.g, fun b o hb => ?_, fun b o nb hb => ?_, fun b o hb => ?_⟩, fun j fs b e1 e2 => ?_⟩
  · obtain ⟨k1, vs, k2, k3⟩ := R.tin b e
    have nab : some a ≠ some b := fun z => q2 (e.trans z.symm)
    exact ⟨gone k1 k2, vs, x.keep b _ nab k2, k3.same x.g⟩
  · rcases get_set e with ⟨rfl, hl, z⟩ | ⟨hj, e⟩
    · cases z
    · obtain ⟨w, k1, k2⟩ := R.dat j d' e
      exact ⟨w, k1, k2.same x.g⟩
  · rcases get_set e with ⟨rfl, hl, z⟩ | ⟨hj, e⟩
    · cases z
      exact ⟨a, .lst us, hs, q2, t1, t2, .lst t3⟩
    · obtain ⟨b, vs, h1, h2, h3, h4, h5⟩ := R.own j fs e
      have nab : some a ≠ some b := fun z => by
        cases z
        exact R.apart j i fs es a hj e ho h1 hs
      exact ⟨b, vs, h1, h2, gone h3 h4, x.keep b _ nab h4, h5.same x.g⟩
  · have back : ∀ {j : Nat} {fs : Od}, (ρ.set i (some (.own (.lst ds))))[j]? = some (some (.own fs)) → ∃ fs', ρ[j]? = some (some (.own fs')) := fun {j fs} e => by
      rcases get_set e with ⟨rfl, _, _⟩ | ⟨_, e⟩
      · exact ⟨es, ho⟩
      · exact ⟨fs, e⟩
    obtain ⟨f1, k1⟩ := back e1
    obtain ⟨f2, k2⟩ := back e2
    exact R.apart j k f1 f2 b hjk k1 k2 e3
  · rcases get_set e with ⟨rfl, hl, z⟩ | ⟨hj, e⟩
    · cases z
    · exact R.tn j e
  · rcases x.new b o hb with z | z
    · exact S.ext.new b o z
    · exact .inr (S.ext.none_of z)
  · have nab : some a ≠ some b := fun z => by
      cases z
      rw [h0] at hb; cases hb
    exact x.keep b o nab (S.ext.keep b o nb hb)
  · obtain ⟨o', e'⟩ := S.ext.there b o hb
    exact x.there b o' e'
  · rcases get_set e1 with ⟨rfl, hl, z⟩ | ⟨hj, e1⟩
    · rw [hs] at e2
      cases e2
      exact h0
    · exact S.new j fs b e1 e2
/-- the box is changed -/
theorem RelS.box (S : RelS K (some a) G₀ H₀ G σ H ρ τ) {vs : List V} {ds : List D} (dr : DRs K G vs ds) : RelS K (some a) G₀ H₀ G σ (upd H a (.lst vs)) ρ ds := by
  have R := S.rel
  obtain ⟨h1, us, h2, h3⟩ := R.tin a rfl
  refine ⟨⟨fun b u h => ?_, fun b e => ?_, R.dat, fun j fs e => ?_, R.apart, R.tn, R.len⟩, ⟨S.ext.g, S.ext.new, fun b u n h => ?_, fun b u h => ?_⟩, S.new⟩
  · rw [upd_ne (fun z => by subst z; rw [h1] at h; cases h)]; exact R.sub b u h
  · cases e
    exact ⟨h1, vs, upd_same, dr⟩
  · obtain ⟨b, us, k1, k2, k3, k4, k5⟩ := R.own j fs e
    exact ⟨b, us, k1, k2, k3, by rw [upd_ne (fun z => k2 (by rw [z]))]; exact k4, k5⟩
  · rw [upd_ne (fun z => n (by rw [z]))]; exact S.ext.keep b u n h
  · obtain ⟨o, e⟩ := S.ext.there b u h
    by_cases z : b = a
    · subst z; exact ⟨_, upd_same⟩
    · exact ⟨o, by rw [upd_ne z]; exact e⟩
/-- one's own list is laid to the frozen part -/
theorem RelS.freeze (S : RelS K ta G₀ H₀ G σ H ρ τ) {i : Nat} {es : Od} (ho : ρ[i]? = some (some (.own es))) : ∃ G', Same G G' ∧ RelS K ta G₀ H₀ G' σ H (ρ.set i (some (.dat es.data))) τ := by
  have R := S.rel
  obtain ⟨a, ws, q1, q2, q3, q4, q5⟩ := R.own i es ho
  have h0 : H₀ a = none := S.new i es a ho q1
  have sm : Same G (upd G a ws) := fun b o h => by rw [upd_ne (ne_of_none h q3)]; exact h
  refine ⟨upd G a ws, sm, ⟨fun b u h => ?_, fun b e => ?_, fun j d' e => ?_, fun j fs e => ?_, fun j k fs gs b hjk e1 e2 e3 => ?_, fun j e => ?_, by rw [List.length_set]; exact R.len⟩, ⟨S.ext.g.trans sm, fun b u h => ?_, S.ext.keep, S.ext.there⟩, fun j fs b e1 e2 => ?_⟩
  · by_cases z : b = a
    · subst z; rw [upd_same] at h; cases h; exact q4
    · rw [upd_ne z] at h; exact R.sub b u h
  · obtain ⟨h1, us, h2, h3⟩ := R.tin b e
    exact ⟨by rw [upd_ne (fun z => q2 (by rw [e, z]))]; exact h1, us, h2, h3.same sm⟩
  · rcases get_set e with ⟨rfl, hl, z⟩ | ⟨hj, e⟩
    · cases z
      exact ⟨_, q1, q5.dr sm upd_same⟩
    · obtain ⟨w, k1, k2⟩ := R.dat j d' e
      exact ⟨w, k1, k2.same sm⟩
  · rcases get_set e with ⟨rfl, hl, z⟩ | ⟨hj, e⟩
    · cases z
    · obtain ⟨b, us, h1, h2, h3, h4, h5⟩ := R.own j fs e
      exact ⟨b, us, h1, h2, by rw [upd_ne (fun z => by subst z; exact R.apart j i fs es b hj e ho h1 q1)]; exact h3, h4, h5.same sm⟩
  · rcases get_set e1 with ⟨rfl, _, z⟩ | ⟨_, e1⟩
    · cases z
    · rcases get_set e2 with ⟨rfl, _, z⟩ | ⟨_, e2⟩
      · cases z
      · exact R.apart j k fs gs b hjk e1 e2 e3
  · rcases get_set e with ⟨rfl, hl, z⟩ | ⟨hj, e⟩
    · cases z
    · exact R.tn j e
  · by_cases z : b = a
    · subst z; exact .inr h0
    · rw [upd_ne z] at h; exact S.ext.new b u h
  · rcases get_set e1 with ⟨rfl, _, z⟩ | ⟨_, e1⟩
    · cases z
    · exact S.new j fs b e1 e2
end
end KN

set_option maxRecDepth 100000
set_option maxHeartbeats 4000000
namespace KN
open PySem L2 PyProof.Rows
def FinO (K : Fg) (ta : Option Addr) (G₀ H₀ G : Hp) (kr : Kd) (Dn : Ends) (τ' : List D) : Out → Prop
  | .nx ρ' => ∀ σ' G' H', Same G G' → RelS K ta G₀ H₀ G' σ' H' ρ' τ' → Dn.nx σ' H'
  | .ct ρ' => ∀ σ' G' H', Same G G' → RelS K ta G₀ H₀ G' σ' H' ρ' τ' → Dn.ct σ' H'
  | .rt d => ∀ v G' H', Ext ta G₀ H₀ G' H' → Same G' H' → TinOk K ta G' H' τ' → Val K ta H₀ G' H' kr v d → Dn.rt v H'
def tS (K : Fg) (ta : Option Addr) (G₀ H₀ : Hp) (kr : Kd) (run : En → M Out) : TS := fun Dn σ H => ∃ G ρ τ o τ', RelS K ta G₀ H₀ G σ H ρ τ ∧ run ρ τ = some (o, τ') ∧ FinO K ta G₀ H₀ G kr Dn τ' o
section
variable {X : Cx} {ta : Option Addr} {G₀ H₀ : Hp} {kr : Kd} {C : Nat → List D → M D} {st : Stmt}
theorem tE_of {K : Fg} {k : Kd} {e : E} {G H : Hp} {σ : L2.St} {ρ : En} {τ τ1 : List D} {d : D} {Q : VK} (S : RelS K ta G₀ H₀ G σ H ρ τ) (e1 : evE C e ρ τ = some (d, τ1)) (q : ∀ v G1 H1, Same G G1 → RelS K ta G₀ H₀ G1 σ H1 ρ τ1 → Ext ta G H G1 H1 → Val K ta H G1 H1 k v d → Q v H1) : tE K ta C k e σ H Q :=
  ⟨G, ρ, τ, d, τ1, S.rel, e1, fun v G1 H1 x1 R1 w1 => q v G1 H1 x1.g (S.step x1 R1) x1 w1⟩
/-! names -/
theorem rs_asg {i : Nat} {e : E} {k : Kd} {te : TE} (hk : k ≠ .peek) (imp : ∀ σ H Q, tE X.K ta C k e σ H Q → te σ H Q) (h : PS X st (tAsg te (gName i))) : PS X st (tS X.K ta G₀ H₀ kr (evS C (.asg i e))) :=
  PS.mono h fun Dn σ H h => by
    obtain ⟨G, ρ, τ, o, τ', S, e0, fin⟩ := h
    obtain ⟨d, τ1, e1, f1⟩ := bnd_some (x := evE C e ρ) e0
    cases ret_some f1
    refine imp σ H _ (tE_dat hk σ H _ (tE_of (k := .dat) S e1 fun v G1 H1 sm S1 _ w => ?_))
    exact fin _ G1 H1 sm (S1.setDat w i)
theorem rs_asgO {i : Nat} {e : E} {te : TE} (imp : ∀ σ H Q, tE X.K ta C .fresh e σ H Q → te σ H Q) (h : PS X st (tAsg te (gName i))) : PS X st (tS X.K ta G₀ H₀ kr (evS C (.asgO i e))) :=
  PS.mono h fun Dn σ H h => by
    obtain ⟨G, ρ, τ, o, τ', S, e0, fin⟩ := h
    obtain ⟨d, τ1, e1, f1⟩ := bnd_some (x := evE C e ρ) e0
    obtain ⟨ds, τ2, e2, f2⟩ := bnd_some f1
    obtain ⟨g2, rfl⟩ := of_some e2
    cases ret_some f2
    refine imp σ H _ (tE_of (k := .fresh) S e1 fun v G1 H1 sm S1 x1 w => ?_)
    rcases w with ⟨_, z⟩ | ⟨a, ob, fs, rfl, hfs, h0, hta, hga, hha, dr⟩
    · exact absurd g2 (by cases d <;> simp [odP] <;> cases z)
    · have : ds = fs := by subst hfs; cases fs <;> cases g2 <;> rfl
      subst this
      refine fin _ G1 H1 sm (S1.setOwn (S.ext.none_of h0) hta hga hha dr (fun j es' ej hj => ?_) i)
      exact S.rel.ownThere j es' ej a hj h0
/-! a target of several names -/
theorem gNsS_ok {K : Fg} {G H : Hp} {τ : List D} {ρ' : En} {Q : L2.St → Hp → Prop} : ∀ {is : List Nat} {us : List V} {ds : List D} {σ : L2.St} {ρ : En}, RelS K ta G₀ H₀ G σ H ρ τ → DRs K G us ds → setDs is ds ρ = some ρ' →
    (∀ σ', RelS K ta G₀ H₀ G σ' H ρ' τ → Q σ' H) → gNs is us σ H Q
  | [], _, _, σ, ρ, R, .nil, e, q => by
    cases e
    exact ⟨rfl, q σ R⟩
  | [], _, _, σ, ρ, R, .cons _ _, e, q => by cases e
  | i :: is, _, _, σ, ρ, R, .nil, e, q => by cases e
  | i :: is, _, _, σ, ρ, R, .cons h r, e, q => ⟨_, _, rfl, gNsS_ok (R.setDat h i) r e q⟩
theorem gTS_ok {K : Fg} {G H : Hp} {σ : L2.St} {ρ ρ' : En} {τ : List D} {v : V} {d : D} {Q : L2.St → Hp → Prop} {tg : Tg} (R : RelS K ta G₀ H₀ G σ H ρ τ) (h : ItR K G H tg v d) (e : setTg tg d ρ = some ρ') (q : ∀ σ', RelS K ta G₀ H₀ G σ' H ρ' τ → Q σ' H) : gT K tg v σ H Q := by
  cases tg with
  | nm i =>
    cases e
    rcases h with h | ⟨⟨is, z⟩, _⟩
    · exact q _ (R.setDat h i)
    · cases z
  | tup is =>
    rcases h with h | ⟨_, a, xs, ds, rfl, rfl, hs, dr⟩
    · cases d with
      | tuple ds =>
        cases h with
        | tup hs dr => exact ⟨_, _, rfl, SqT.same R.rel.sub hs.sq, by rw [dr.length]; exact setDs_len e, gNsS_ok R dr e q⟩
      | _ => cases e
    · exact ⟨_, _, rfl, hs, by rw [dr.length]; exact setDs_len e, gNsS_ok R dr e q⟩
theorem rs_unp {is : List Nat} {e : E} (h : PS X st (tAsg (tE X.K ta C .dat e) (gT X.K (.tup is)))) : PS X st (tS X.K ta G₀ H₀ kr (evS C (.unp is e))) :=
  PS.mono h fun Dn σ H h => by
    obtain ⟨G, ρ, τ, o, τ', S, e0, fin⟩ := h
    obtain ⟨d, τ1, e1, f1⟩ := bnd_some (x := evE C e ρ) e0
    cases d with
    | tuple ds =>
      obtain ⟨ρ', τ2, e2, f2⟩ := bnd_some f1
      obtain ⟨g2, rfl⟩ := of_some e2
      cases ret_some f2
      refine tE_of (k := .dat) S e1 fun v G1 H1 sm S1 _ w => ?_
      exact gTS_ok (tg := .tup is) S1 (.inl w) g2 fun σ' S' => fin σ' G1 H1 sm S'
    | _ => cases f1
/-! ### several at once, some of them one's own -/
inductive MV (K : Fg) (ta : Option Addr) (Hb G H : Hp) : List Bool → List V → List D → List Addr → Prop
  | nil : MV K ta Hb G H [] [] [] []
  | dat {v : V} {d : D} {bs : List Bool} {vs : List V} {ds : List D} {as : List Addr} : DR K G v d → MV K ta Hb G H bs vs ds as → MV K ta Hb G H (false :: bs) (v :: vs) (d :: ds) as
  | own {a : Addr} {o : HO} {od : Od} {bs : List Bool} {vs : List V} {ds : List D} {as : List Addr} : Hb a = none → ta ≠ some a → G a = none → H a = some o → OwR K G o od → a ∉ as → MV K ta Hb G H bs vs ds as → MV K ta Hb G H (true :: bs) (.ref a :: vs) (od.data :: ds) (a :: as)
  | bad {v : V} {d : D} {bs : List Bool} {vs : List V} {ds : List D} {as : List Addr} : still d = true → MV K ta Hb G H bs vs ds as → MV K ta Hb G H (true :: bs) (v :: vs) (d :: ds) as
theorem MV.new {K : Fg} {Hb G H : Hp} : ∀ {bs : List Bool} {vs : List V} {ds : List D} {as : List Addr}, MV K ta Hb G H bs vs ds as → ∀ a ∈ as, Hb a = none ∧ H a ≠ none := by
  intro bs vs ds as h
  induction h with
  | nil => intro a h; cases h
  | dat _ _ ih => exact ih
  | bad _ _ ih => exact ih
  | own h1 _ _ h2 _ _ _ ih =>
    intro b hb
    rcases List.mem_cons.mp hb with z | z
    · rw [z]; exact ⟨h1, by rw [h2]; simp⟩
    · exact ih b z
theorem MV.base {K : Fg} {Hb Hc G H : Hp} (hh : ∀ a, Hc a = none → Hb a = none) {bs : List Bool} {vs : List V} {ds : List D} {as : List Addr} (h : MV K ta Hc G H bs vs ds as) : MV K ta Hb G H bs vs ds as := by
  induction h with
  | nil => exact .nil
  | dat h _ ih => exact .dat h ih
  | bad h _ ih => exact .bad h ih
  | own h1 h2 h3 h4 h5 h6 _ ih => exact .own (hh _ h1) h2 h3 h4 h5 h6 ih
theorem MV.lenB {K : Fg} {Hb G H : Hp} {bs : List Bool} {vs : List V} {ds : List D} {as : List Addr} (h : MV K ta Hb G H bs vs ds as) : vs.length = bs.length := by
  induction h with
  | nil => rfl
  | dat _ _ ih => simp [ih]
  | bad _ _ ih => simp [ih]
  | own _ _ _ _ _ _ _ ih => simp [ih]
def tM (K : Fg) (ta : Option Addr) (C : Nat → List D → M D) (bs : List Bool) (ts : List E) : TA := fun σ H Q => ∃ G ρ τ ds τ', Rel K ta G σ H ρ τ ∧ evEs C ts ρ τ = some (ds, τ') ∧
  ∀ vs as G' H', Ext ta G H G' H' → Rel K ta G' σ H' ρ τ' → MV K ta H G' H' bs vs ds as → Q vs H'
theorem rm_nil : PA X [] (tM X.K ta C [] []) :=
  PA.mono pa_nil fun σ H Q h => by
    obtain ⟨G, ρ, τ, d, τ', R, e, q⟩ := h
    cases ret_some e
    exact q [] [] G H Ext.refl R .nil
theorem rm_dat {t : E} {ts : List E} {x : Expr} {xs : List Expr} {bs : List Bool} (ha : PE X x (tE X.K ta C .dat t)) (hr : PA X xs (tM X.K ta C bs ts)) (hx : notStar x = true) (ht : notStarE t = true) : PA X (x :: xs) (tM X.K ta C (false :: bs) (t :: ts)) :=
  PA.mono (pa_cons ha hr (star_no hx)) fun σ H Q h => by
    obtain ⟨G, ρ, τ, d, τ', R, e, q⟩ := h
    rw [evEs_cons ht] at e
    obtain ⟨y, τ1, e1, f1⟩ := bnd_some (x := evE C t ρ) e
    obtain ⟨ys, τ2, e2, f2⟩ := bnd_some f1
    cases ret_some f2
    refine ⟨G, ρ, τ, y, τ1, R, e1, fun v1 G1 H1 x1 R1 w1 => ⟨G1, ρ, τ1, ys, _, R1, e2, fun vs as G2 H2 x2 R2 w2 => ?_⟩⟩
    exact q _ as G2 H2 (x1.trans x2) R2 (.dat (DR.same x2.g w1) (w2.base fun a h => x1.none_of h))
theorem rm_own {t : E} {ts : List E} {x : Expr} {xs : List Expr} {bs : List Bool} (ha : PE X x (tE X.K ta C .fresh t)) (hr : PA X xs (tM X.K ta C bs ts)) (hx : notStar x = true) (ht : notStarE t = true) : PA X (x :: xs) (tM X.K ta C (true :: bs) (t :: ts)) :=
  PA.mono (pa_cons ha hr (star_no hx)) fun σ H Q h => by
    obtain ⟨G, ρ, τ, d, τ', R, e, q⟩ := h
    rw [evEs_cons ht] at e
    obtain ⟨y, τ1, e1, f1⟩ := bnd_some (x := evE C t ρ) e
    obtain ⟨ys, τ2, e2, f2⟩ := bnd_some f1
    cases ret_some f2
    refine ⟨G, ρ, τ, y, τ1, R, e1, fun v1 G1 H1 x1 R1 w1 => ⟨G1, ρ, τ1, ys, _, R1, e2, fun vs as G2 H2 x2 R2 w2 => ?_⟩⟩
    have w2' := w2.base (Hb := H) fun a h => x1.none_of h
    rcases w1 with ⟨_, z⟩ | ⟨a, o, od, rfl, rfl, h0, h1, h2, h3, h4⟩
    · exact q _ as G2 H2 (x1.trans x2) R2 (.bad z w2')
    · refine q _ (a :: as) G2 H2 (x1.trans x2) R2 (.own h0 h1 (x2.free_of h2 h3) (x2.keep a _ h1 h3) (h4.same x2.g) (fun m => ?_) w2')
      have := (w2.new a m).1
      rw [h3] at this
      cases this
def setL (σ : L2.St) : List Nat → List V → L2.St
  | i :: is, v :: vs => setL (σ.set i (some v)) is vs
  | _, _ => σ
theorem odP_data (o : Od) : odP o.data = some o := by cases o <;> rfl
theorem par_ok {K : Fg} {G H : Hp} {τ : List D} {Hb : Hp} (hb : ∀ a, Hb a = none → H₀ a = none) : ∀ (ts : List (Nat × Bool)) {vs : List V} {ds : List D} {as : List Addr} {σ : L2.St} {ρ ρ' : En}, RelS K ta G₀ H₀ G σ H ρ τ → MV K ta Hb G H (ts.map (·.2)) vs ds as →
    (∀ a ∈ as, ∀ (j : Nat) es, ρ[j]? = some (some (.own es)) → σ[j]? ≠ some (some (.ref a))) → setPar ts ds ρ = some ρ' → RelS K ta G₀ H₀ G (setL σ (ts.map (·.1)) vs) H ρ' τ := by
  intro ts
  induction ts with
  | nil =>
    intro vs ds as σ ρ ρ' S w hn e
    cases w
    cases e
    exact S
  | cons t ts ih =>
    intro vs ds as σ ρ ρ' S w hn e
    obtain ⟨i, b⟩ := t
    cases b with
    | false =>
      cases w with
      | dat h r =>
        refine ih (S.setDat h i) r (fun a ha j es ej hj => ?_) e
        rcases get_set ej with ⟨_, _, z⟩ | ⟨hji, ej⟩
        · cases z
        · rw [List.getElem?_set_ne (Ne.symm hji)] at hj
          exact hn a ha j es ej hj
    | true =>
      generalize hbs : List.map (fun x : Nat × Bool => x.2) ((i, true) :: ts) = bs at w
      cases w with
      | nil => cases hbs
      | dat h r => cases hbs
      | own h1 h2 h3 h4 h5 h6 r =>
        rename_i a o od bs vs ds as
        cases hbs
        simp only [setPar, odP_data] at e
        refine ih (S.setOwn (hb _ h1) h2 h3 h4 h5 (hn a List.mem_cons_self) i) r (fun b hb' j es ej hj => ?_) e
        rcases get_set ej with ⟨rfl, hl, z⟩ | ⟨hji, ej⟩
        · rw [List.getElem?_set_self (Nat.lt_of_lt_of_le hl S.rel.len)] at hj
          cases hj
          exact h6 hb'
        · rw [List.getElem?_set_ne (Ne.symm hji)] at hj
          exact hn b (List.mem_cons_of_mem _ hb') j es ej hj
      | bad h r =>
        rename_i v d bs vs ds
        have : odP d = none := by cases d <;> first | rfl | cases h
        simp only [setPar, this] at e
        cases e
theorem MV.fresh {K : Fg} {Hb G H : Hp} {p : Addr} {o : HO} (hp : H p = none) {bs : List Bool} {vs : List V} {ds : List D} {as : List Addr} (h : MV K ta Hb G H bs vs ds as) : MV K ta Hb G (upd H p o) bs vs ds as := by
  induction h with
  | nil => exact .nil
  | dat h _ ih => exact .dat h ih
  | bad h _ ih => exact .bad h ih
  | own h1 h2 h3 h4 h5 h6 _ ih => exact .own h1 h2 h3 (by rw [upd_ne (ne_of_none h4 hp)]; exact h4) h5 h6 ih
theorem rs_par {ts : List (Nat × Bool)} {es : List E} {t : TS} (h : PS X st t) (imp : ∀ Dn σ H, (tM X.K ta C (ts.map (·.2)) es σ H fun vs H1 => Dn.nx (setL σ (ts.map (·.1)) vs) H1 ∧ ∀ p o, H1 p = none → Dn.nx (setL σ (ts.map (·.1)) vs) (upd H1 p o)) → t Dn σ H) : PS X st (tS X.K ta G₀ H₀ kr (evS C (.par ts es))) :=
  PS.mono h fun Dn σ H h => by
    obtain ⟨G, ρ, τ, o, τ', S, e0, fin⟩ := h
    obtain ⟨ds, τ1, e1, f1⟩ := bnd_some (x := evEs C es ρ) e0
    obtain ⟨ρ', τ2, e2, f2⟩ := bnd_some f1
    obtain ⟨g2, rfl⟩ := of_some e2
    cases ret_some f2
    refine imp Dn σ H ⟨G, ρ, τ, ds, _, S.rel, e1, fun vs as G1 H1 x1 R1 w1 => ?_⟩
    have hn : ∀ a ∈ as, ∀ (j : Nat) es, ρ[j]? = some (some (.own es)) → σ[j]? ≠ some (some (.ref a)) := fun a ha j es ej hj => S.rel.ownThere j es ej a hj (w1.new a ha).1
    have hb : ∀ a, H a = none → H₀ a = none := fun a h => S.ext.none_of h
    have S1 := S.step x1 R1
    exact ⟨fin _ G1 H1 x1.g (par_ok hb ts S1 w1 hn g2), fun p o hp => fin _ G1 _ x1.g (par_ok hb ts (S1.step (Ext.fresh hp) (R1.fresh hp)) (w1.fresh hp) hn g2)⟩
theorem setL_gNs {Q : L2.St → Hp → Prop} {H : Hp} : ∀ {is : List Nat} {vs : List V} {σ : L2.St}, vs.length = is.length → Q (setL σ is vs) H → gNs is vs σ H Q
  | [], [], σ, _, q => ⟨rfl, q⟩
  | [], _ :: _, _, h, _ => by cases h
  | _ :: _, [], _, h, _ => by cases h
  | i :: is, v :: vs, σ, h, q => ⟨_, _, rfl, setL_gNs (by simpa using h) q⟩
def rSetO (H00 : Hp) : TSet := fun o i v H Q => rSetL o i v H Q ∨ ∃ a od kvs k, o = .ref a ∧ i = kV k ∧ H a = some (.frz od (.dK kvs)) ∧ H00 a = none ∧ kvs.length < sizeLine ∧ ∀ od', Q (upd H a (.frz od' (.dK (putK kvs k v))))
theorem set_own (hu : X.A.units + 64 < cLine) : PSet X (rSetO X.H_0) := by
  intro pins s σ H o i v ov iv u Q I ro ri rv h
  rcases h with h | ⟨a, od, kvs, k, rfl, rfl, ha, h0, hl, q⟩
  · exact set_list pins s σ H o i v ov iv u Q I ro ri rv h
  · cases ro
    have J := I.unlock ha (fun o' u' z => by rw [h0] at z; cases z)
    refine d_setItem (by omega) J (DPut.k upd_same hl) ri rv fun s' I' => ?_
    rw [upd_upd] at I'
    obtain ⟨od', I2⟩ := I'.lock upd_same (by simp [Mut])
    rw [upd_upd] at I2
    exact ⟨_, I2, q od'⟩
theorem rs_sto {i : Nat} {ix e : E} {k : Kd} (hH : X.H_0 = H₀) (h : PS X st (tAsg (tE X.K ta C .dat e) (gSub (tVar i) (tE X.K ta C k ix) (rSetO X.H_0)))) : PS X st (tS X.K ta G₀ H₀ kr (evS C (.sto i ix e))) :=
  PS.mono h fun Dn σ H h => by
    obtain ⟨G, ρ, τ, o, τ', S, e0, fin⟩ := h
    obtain ⟨d, τ1, e1, f1⟩ := bnd_some (x := evE C e ρ) e0
    obtain ⟨y, τ2, e2, f2⟩ := bnd_some (x := evE C ix ρ) f1
    obtain ⟨ds, τ3, e3, f3⟩ := bnd_some f2
    obtain ⟨ds', τ4, e4, f4⟩ := bnd_some f3
    obtain ⟨g4, rfl⟩ := of_some e4
    cases ret_some f4
    have e3 : (match ρ[i]? with
      | some (some (.own ds)) => some (ds, τ2)
      | _ => none) = some (ds, τ') := e3
    split at e3
    · rename_i es ho
      cases e3
      refine tE_of (k := .dat) S e1 fun v G1 H1 sm S1 _ w => ?_
      obtain ⟨a, ws, q1, q2, q3, q4, q5⟩ := S1.rel.own i _ ho
      refine ⟨_, q1, tE_of (k := k) S1 e2 fun v2 G2 H2 sm2 S2 x2 w2 => ?_⟩
      obtain ⟨a', ws', p1, p2, p3, p4, p5⟩ := S2.rel.own i _ ho
      rw [q1] at p1
      cases p1
      cases ds with
      | lst ds =>
        obtain ⟨us, rfl, p6⟩ := p5.ofL
        cases y with
        | int kk =>
          have g4 : ((match ixN ds.length kk with
            | some j => some (ds.set j d)
            | none => none).map Od.lst) = some ds' := g4
          split at g4
          · rename_i j hj
            cases g4
            refine .inl ⟨a, us, kk, j, rfl, w2.view.int, p4, by rw [p6.length]; exact hj, ?_⟩
            exact fin _ G2 _ (sm.trans sm2) (S2.write ho q1 (.lst (DRs.set (DR.same sm2 w) j p6)))
          · cases g4
        | _ => cases g4
      | dic ds =>
        obtain ⟨od, us, rfl, p6⟩ := p5.ofD
        have g4 : (if isKey y && lineOk (ds.length + 1) then some (Od.dic (putKD ds y d)) else none) = some ds' := g4
        split at g4
        · rename_i hz
          simp only [Bool.and_eq_true] at hz
          cases g4
          obtain ⟨kk, rfl⟩ := isKey_kD hz.1
          have hl := lineOk_le hz.2
          refine .inr ⟨a, od, us, kk, rfl, V_kD (w2.view.dr (still_kD kk)), p4, by rw [hH]; exact S2.new i _ a ho q1, by rw [p6.length]; omega, fun od' => ?_⟩
          exact fin _ G2 _ (sm.trans sm2) (S2.write ho q1 (.dic (putK_dr kk (DR.same sm2 w) p6)))
        · cases g4
    · cases e3
theorem rs_stoT {i : Nat} {ix e : E} {k : Kd} (h : PS X st (tAsg (tE X.K ta C .dat e) (gSub (tVar i) (tE X.K ta C k ix) rSetL))) : PS X st (tS X.K ta G₀ H₀ kr (evS C (.stoT i ix e))) :=
  PS.mono h fun Dn σ H h => by
    obtain ⟨G, ρ, τ, o, τ', S, e0, fin⟩ := h
    obtain ⟨d, τ1, e1, f1⟩ := bnd_some (x := evE C e ρ) e0
    obtain ⟨y, τ2, e2, f2⟩ := bnd_some (x := evE C ix ρ) f1
    have f2 : (if isTin ρ i then (match stoD τ2 y d with
      | some τ' => some (Out.nx ρ, τ')
      | none => none) else none) = some (o, τ') := f2
    split at f2
    · rename_i ht
      split at f2
      · rename_i τ3 hs
        cases f2
        obtain ⟨a, rfl, h1⟩ := S.rel.tn i (isTin_at ht)
        refine tE_of (k := .dat) S e1 fun v G1 H1 sm S1 _ w => ?_
        refine ⟨_, h1, tE_of (k := k) S1 e2 fun v2 G2 H2 sm2 S2 x2 w2 => ?_⟩
        obtain ⟨p1, ws, p2, p3⟩ := S2.rel.tin a rfl
        cases y with
        | int kk =>
          have hs : (match ixN τ2.length kk with
            | some j => some (τ2.set j d)
            | none => none) = some τ' := hs
          split at hs
          · rename_i j hj
            cases hs
            refine ⟨a, ws, kk, j, rfl, w2.view.int, p2, by rw [p3.length]; exact hj, ?_⟩
            exact fin _ G2 _ (sm.trans sm2) (S2.box (DRs.set (DR.same sm2 w) j p3))
          · cases hs
        | _ => cases hs
      · cases f2
    · cases f2
theorem lstAt_some {ρ : En} {i : Nat} {τ τ' : List D} {ds : List D} (h : lstAt ρ i τ = some (ds, τ')) : ρ[i]? = some (some (.own (.lst ds))) ∧ τ' = τ := by
  unfold lstAt at h
  split at h
  · rename_i es ho
    cases h
    exact ⟨ho, rfl⟩
  · cases h
theorem rs_app {i : Nat} {e : E} (he : notStarE e = true) (h : PS X st (tDrop (tBM X.K "list" rAppend (tVar i) (tK X.K ta C [e])))) : PS X st (tS X.K ta G₀ H₀ kr (evS C (.app i e))) :=
  PS.mono h fun Dn σ H h => by
    obtain ⟨G, ρ, τ, o, τ', S, e0, fin⟩ := h
    obtain ⟨d, τ1, e1, f1⟩ := bnd_some (x := evE C e ρ) e0
    obtain ⟨ds, τ2, e2, f2⟩ := bnd_some f1
    obtain ⟨ho, rfl⟩ := lstAt_some e2
    split at f2
    · rename_i hz
      cases ret_some f2
      obtain ⟨a, ws, q1, q2, q3, q4, q5⟩ := S.rel.own i _ ho
      obtain ⟨us, rfl, q6⟩ := q5.ofL
      refine ⟨_, q1, .inl ⟨rfl, _, SqL.of q4⟩, G, ρ, τ, [d], τ', S.rel, ?_, fun vs G1 H1 x1 R1 w1 => ?_⟩
      · rw [evEs_cons he]
        unfold M.bnd
        rw [e1]
        rfl
      · cases w1 with
        | cons d1 r1 =>
          cases r1
          obtain ⟨a', ws', p1, p2, p3, p4, p5⟩ := R1.own i _ ho
          obtain ⟨us', rfl, p6⟩ := p5.ofL
          rw [q1] at p1
          cases p1
          have hl : us'.length < sizeLine := by
            have := lineOk_le hz
            rw [p6.length]
            omega
          exact ⟨a, us', _, rfl, rfl, p4, hl, fin _ G1 _ x1.g ((S.step x1 R1).write ho q1 (.lst (p6.append (.cons d1 .nil))))⟩
    · cases f2
/-- l.extend(x), x any list -/
theorem ext_meets (l : Addr) (xs : Array Value) (n : Nat) (b : Addr) (ys : Array Value) (n2 : Nat) (sl : Array (Option Value)) (h0 : ¬(!xs.isEmpty && Builtin.List.listTooLong (xs.size + ys.size)) = true) (h1 : xs.size ≤ sizeLine) (h2 : xs.size + ys.size ≤ sizeLine + 1) :
    Meets (Builtin.«list.extend» ⟨[.ref l, .ref b], []⟩) (fun _ R s => s.heap.get? l = some { cls := .type "list", dict := none, data := .seq xs n, slots := #[] } ∧ s.heap.get? b = some { cls := .type "list", dict := none, data := .seq ys n2, slots := sl } ∧ R (.ok (.ret Value.none)) { s with heap := s.heap.update l (Obj.mapSeq fun x => x ++ ys), toks := s.toks }) :=
  .of_wp fun prog w A R s h => by
    obtain ⟨hp, gs, dr, tk, oz⟩ := s
    obtain ⟨q1, q2, q⟩ := h
    have i1 := AutoSeq1.idx_int
    have i2 := AutoSeq1.sub_tuple_tuple
    have i3 := AutoSeq1.sub_list_list
    have i4 := AutoSeq1.sub_tuple_list
    have i5 := AutoSeq1.sub_list_tuple
    have hz : (xs ++ ys).size ≤ sizeLine + 1 := Array.size_append ▸ h2
    wp_walk using (wpAny_updateSeq q1 rfl (hz := h1) (_hz' := hz)), AutoSeq1.wpAny_loadPart' q1, AutoSeq1.wpAny_loadPart' q2
    exact ⟨_, rfl, q⟩
theorem mt_ext : MtM X "list.extend" (fun x vs H Q => ∃ l b xs zs, x = .ref l ∧ vs = [.ref b] ∧ H l = some (.lst xs) ∧ SqL X.K H b zs ∧ xs.length + zs.length ≤ sizeLine ∧ Q .non (upd H l (.lst (xs ++ zs)))) := by
  intro pins s σ H x vs v us Q I rx rv h
  obtain ⟨l, b, xs, zs, rfl, rfl, hH, hB, hz, q⟩ := h
  cases rx
  rw [Vals.ref1 rv]
  obtain ⟨z1, i1, n1, r1, l1, g1⟩ := I.lstM hH
  obtain ⟨i2, r2, ⟨⟨oc, od, dt, sl⟩, n2, g2, p1, p2, p3⟩, hz2⟩ := I.list hB
  cases p1
  cases p2
  cases p3
  have l2 := r2.length
  have hsz : i1.toArray.size + i2.toArray.size ≤ sizeLine := by rw [List.size_toArray, List.size_toArray]; omega
  have hlong : ¬ (!i1.toArray.isEmpty && Builtin.List.listTooLong (i1.toArray.size + i2.toArray.size)) = true := by
    rw [notLongL hsz, Bool.and_false]
    exact Bool.false_ne_true
  refine call_meets F.slot_list_extend ⟨_, g1, rfl⟩ F.entry_list_extend (F.args_list_extend_2 _ _) (ext_meets l i1.toArray n1 b i2.toArray n2 sl hlong (by rw [List.size_toArray]; omega) (by omega)) ⟨g1, g2, ?_⟩
  exact ⟨.non, _, I.lset (its' := i1 ++ i2) hH g1 (by simp) (r1.append r2) (by rw [List.length_append]; omega), rfl, q⟩
theorem rs_extd {i : Nat} {e : E} (he : notStarE e = true) (h : PS X st (tDrop (tBM X.K "list" (fun x vs H Q => ∃ l b xs zs, x = .ref l ∧ vs = [.ref b] ∧ H l = some (.lst xs) ∧ SqL X.K H b zs ∧ xs.length + zs.length ≤ sizeLine ∧ Q .non (upd H l (.lst (xs ++ zs)))) (tVar i) (tV X.K ta C [e])))) : PS X st (tS X.K ta G₀ H₀ kr (evS C (.extd i e))) :=
  PS.mono h fun Dn σ H h => by
    obtain ⟨G, ρ, τ, o, τ', S, e0, fin⟩ := h
    obtain ⟨d, τ1, e1, f1⟩ := bnd_some (x := evE C e ρ) e0
    obtain ⟨es, τ2, e2, f2⟩ := bnd_some f1
    obtain ⟨g2, rfl⟩ := of_some e2
    obtain ⟨ds, τ3, e3, f3⟩ := bnd_some f2
    obtain ⟨ho, rfl⟩ := lstAt_some e3
    split at f3
    · rename_i hz
      cases ret_some f3
      obtain ⟨a, ws, q1, q2, q3, q4, q5⟩ := S.rel.own i _ ho
      obtain ⟨us, rfl, q6⟩ := q5.ofL
      refine ⟨_, q1, .inl ⟨rfl, _, SqL.of q4⟩, G, ρ, τ, [d], τ', S.rel, ?_, fun vs G1 H1 x1 R1 w1 => ?_⟩
      · rw [evEs_cons he]
        unfold M.bnd
        rw [e1]
        rfl
      · cases w1 with
        | cons d1 r1 =>
          cases r1
          obtain ⟨a', ws', p1, p2, p3, p4, p5⟩ := R1.own i _ ho
          obtain ⟨us', rfl, p6⟩ := p5.ofL
          rw [q1] at p1
          cases p1
          have hl := lineOk_le hz
          cases d with
          | list fs =>
            cases g2
            obtain ⟨b, zs, rfl, hr, dr⟩ := d1.lst R1.sub
            refine ⟨a, b, us', zs, rfl, rfl, p4, hr, by rw [p6.length, dr.length]; exact hl, ?_⟩
            exact fin _ G1 _ x1.g ((S.step x1 R1).write ho q1 (.lst (p6.append dr)))
          | _ => cases g2
    · cases f3
theorem rs_pop {tg : Tg} {i : Nat} (hi : i ∉ tg.slots) (h : PS X st (tAsg (tBM0 X.K "list" rPop (tVar i)) (gT X.K tg))) : PS X st (tS X.K ta G₀ H₀ kr (evS C (.pop tg i))) :=
  PS.mono h fun Dn σ H h => by
    obtain ⟨G, ρ, τ, o, τ', S, e0, fin⟩ := h
    obtain ⟨ds, τ1, e1, f1⟩ := bnd_some (x := lstAt ρ i) e0
    obtain ⟨ho, rfl⟩ := lstAt_some e1
    have f1 : (match ds.getLast? with
      | some d => (M.of (setTg tg d (ρ.set i (some (.own (.lst ds.dropLast)))))).bnd fun ρ' => M.ret (Out.nx ρ')
      | none => M.fail) _ = some (o, τ') := f1
    cases hd : ds.getLast? with
    | some d =>
      rw [hd] at f1
      obtain ⟨ρ', τ2, e2, f2⟩ := bnd_some f1
      obtain ⟨g2, rfl⟩ := of_some e2
      cases ret_some f2
      obtain ⟨a, ws, q1, q2, q3, q4, q5⟩ := S.rel.own i _ ho
      obtain ⟨us, rfl, q6⟩ := q5.ofL
      have hg : ds[ds.length - 1]? = some d := by rw [← List.getLast?_eq_getElem?]; exact hd
      obtain ⟨u, hu, hdr⟩ := q6.get hg
      refine ⟨_, q1, .inl ⟨rfl, _, SqL.of q4⟩, a, us, u, rfl, rfl, q4, by rw [q6.length]; exact hu, ?_⟩
      have dl : DRs X.K G us.dropLast ds.dropLast := by
        rw [List.dropLast_eq_take, List.dropLast_eq_take, q6.length]
        exact q6.take _
      exact gTS_ok (S.write ho q1 (.lst dl)) (.inl hdr) g2 fun σ' S' => fin σ' G _ (fun _ _ h => h) S'
    | none =>
      rw [hd] at f1
      cases f1
theorem rs_expr {e : E} {k : Kd} (h : PS X st (tDrop (tE X.K ta C k e))) : PS X st (tS X.K ta G₀ H₀ kr (evS C (.expr e))) :=
  PS.mono h fun Dn σ H h => by
    obtain ⟨G, ρ, τ, o, τ', S, e0, fin⟩ := h
    obtain ⟨d, τ1, e1, f1⟩ := bnd_some (x := evE C e ρ) e0
    cases ret_some f1
    exact tE_of (k := k) S e1 fun v G1 H1 sm S1 _ _ => fin _ G1 H1 sm S1
theorem rs_ret {e : E} (hk : kr ≠ .peek) (h : PS X st (tRet (tE X.K ta C kr e))) : PS X st (tS X.K ta G₀ H₀ kr (evS C (.ret e))) :=
  PS.mono h fun Dn σ H h => by
    obtain ⟨G, ρ, τ, o, τ', S, e0, fin⟩ := h
    obtain ⟨d, τ1, e1, f1⟩ := bnd_some (x := evE C e ρ) e0
    cases ret_some f1
    refine tE_of (k := kr) S e1 fun v G1 H1 sm S1 x1 w => fin v G1 H1 S1.ext S1.rel.sub S1.rel.tin ?_
    exact w.first S.ext hk
theorem rs_ite {c : E} {a b : List S} {u v : TS} (h : PS X st (tIfS (tT X.K ta C c) (tS X.K ta G₀ H₀ kr (evSs C a)) (tS X.K ta G₀ H₀ kr (evSs C b)))) : PS X st (tS X.K ta G₀ H₀ kr (evS C (.ite c a b))) :=
  PS.mono h fun Dn σ H h => by
    obtain ⟨G, ρ, τ, o, τ', S, e0, fin⟩ := h
    obtain ⟨x, τ1, e1, f1⟩ := bnd_some (x := evE C c ρ) e0
    obtain ⟨k, τ2, e2, f2⟩ := bnd_some f1
    obtain ⟨g2, rfl⟩ := of_some e2
    refine ⟨G, ρ, τ, k, _, S.rel, tru_bnd (τ2 := τ) e1 g2, fun G1 H1 x1 R1 => ?_⟩
    have fin' : FinO X.K ta G₀ H₀ G1 kr Dn τ' o := by
      cases o with
      | nx ρ' => exact fun σ' G' H' s S' => fin σ' G' H' (x1.g.trans s) S'
      | ct ρ' => exact fun σ' G' H' s S' => fin σ' G' H' (x1.g.trans s) S'
      | rt d => exact fin
    cases k with
    | true => exact iteT ⟨G1, ρ, _, o, τ', S.step x1 R1, f2, fin'⟩
    | false => exact iteF ⟨G1, ρ, _, o, τ', S.step x1 R1, f2, fin'⟩
theorem FinO.up {K : Fg} {G G1 : Hp} {Dn : Ends} {τ' : List D} {o : Out} (s : Same G G1) (f : FinO K ta G₀ H₀ G kr Dn τ' o) : FinO K ta G₀ H₀ G1 kr Dn τ' o := by
  cases o with
  | nx ρ' => exact fun σ' G' H' s' S' => f σ' G' H' (s.trans s') S'
  | ct ρ' => exact fun σ' G' H' s' S' => f σ' G' H' (s.trans s') S'
  | rt d => exact f
/-! a box of one's own -/
def tU (K : Fg) (C : Nat → List D → M D) (f i : Nat) : TE := fun σ H Q => ∃ a, σ[i]? = some (some (.ref a)) ∧ spF K C f true false [V.ref a] H Q E0
theorem urn_call {f i : Nat} {G H : Hp} {σ : L2.St} {ρ : En} {τ ds d1 : List D} {b : Bool} {Q : VK} (S : RelS X.K ta G₀ H₀ G σ H ρ τ) (ho : ρ[i]? = some (some (.own (.lst ds)))) (hc : C f [] ds = some (.bool b, d1))
    (q : ∀ G' H', Same G G' → RelS X.K ta G₀ H₀ G' σ H' (ρ.set i (some (.own (.lst d1)))) τ → Q (.bl b) H') : tU X.K C f i σ H Q := by
  obtain ⟨a, ws, q1, q2, q3, q4, q5⟩ := S.rel.own i _ ho
  obtain ⟨us, rfl, q6⟩ := q5.ofL
  refine ⟨a, q1, G, some a, [], [], ds, .bool b, d1, S.rel.sub, (fun b' e => ?_), ⟨a, rfl, rfl⟩, .nil, hc, fun v G' H' x' s' ht' h => ?_⟩
  · cases e
    exact ⟨q3, us, q4, q6⟩
  · have hv : v = .bl b := by
      cases h
      rfl
    subst hv
    exact q G' H' x'.g (S.urn ho q1 x' s' ht')
theorem rs_ask2 {i f : Nat} {a : List S} (h : PS X st (tIfS (tOr (tNot (tB (tU X.K C f i))) (tNot (tB (tU X.K C f i)))) (tS X.K ta G₀ H₀ kr (evSs C a)) (tS X.K ta G₀ H₀ kr (evSs C [])))) : PS X st (tS X.K ta G₀ H₀ kr (evS C (.ask2 i f a))) :=
  PS.mono h fun Dn σ H h => by
    obtain ⟨G, ρ, τ, o, τ', S, e0, fin⟩ := h
    obtain ⟨ds, τ1, e1, f1⟩ := bnd_some (x := lstAt ρ i) e0
    obtain ⟨ho, rfl⟩ := lstAt_some e1
    obtain ⟨r, τ2, e2, f2⟩ := bnd_some f1
    obtain ⟨g2, rfl⟩ := of_some e2
    have il : i < ρ.length := (List.getElem?_eq_some_iff.mp ho).1
    unfold askU at g2
    split at g2
    · rename_i d1 hc1
      split at g2
      · rename_i b d2 hc2
        cases g2
        refine urn_call S ho hc1 fun G1 H1 s1 S1 => ⟨true, rfl, ?_⟩
        refine urn_call S1 (List.getElem?_set_self il) hc2 fun G2 H2 s2 S2 => ⟨b, rfl, ?_⟩
        rw [List.set_set] at S2
        cases b with
        | true => exact ⟨G2, _, _, o, τ', S2, f2, FinO.up (s1.trans s2) fin⟩
        | false => exact ⟨G2, _, _, o, τ', S2, f2, FinO.up (s1.trans s2) fin⟩
      · cases g2
    · rename_i d1 hc1
      cases g2
      exact urn_call S ho hc1 fun G1 H1 s1 S1 => ⟨false, rfl, G1, _, _, o, τ', S1, f2, FinO.up s1 fin⟩
    · cases g2
/-! loops -/
theorem rs_loop {tg : Tg} {ik : IK} {src : List E} {body : List S} (hpr : pairIk ik = true → ∃ is, tg = .tup is) (h : PS X st (tFor (tIf X.K ta C ik src) (gT X.K tg) (tS X.K ta G₀ H₀ kr (evSs C body)))) : PS X st (tS X.K ta G₀ H₀ kr (evS C (.loop tg ik src body))) :=
  PS.mono h fun Dn σ H h => by
    obtain ⟨G, ρ, τ, o, τ', S, e0, fin⟩ := h
    obtain ⟨xs, τ1, e1, f1⟩ := bnd_some (x := evEs C src ρ) e0
    obtain ⟨items, τ2, e2, f2⟩ := bnd_some f1
    obtain ⟨g2, rfl⟩ := of_some e2
    refine ⟨G, ρ, τ, xs, _, items, S.rel, e1, g2, fun G1 H1 J x1 R1 wk => ?_⟩
    generalize hf : (fun d ρ => (M.of (setTg tg d ρ)).bnd fun ρ' => evSs C body ρ' : D → En → M Out) = f at f2
    refine ⟨fun i m σ2 H2 => i ≤ items.length ∧ m = items.length - i ∧ ∃ Gi ρi τi, Same G1 Gi ∧ RelS X.K ta G₀ H₀ Gi σ2 H2 ρi τi ∧ loopL f (items.drop i) ρi τi = some (o, τ'),
      ⟨_, Nat.zero_le _, rfl, G1, ρ, _, fun _ _ h => h, S.step x1 R1, f2⟩, ?_⟩
    rintro i m σ2 H2 ⟨hi, rfl, Gi, ρi, τi, sm, Si, ei⟩
    have sv : Same G1 H2 := sm.trans Si.rel.sub
    by_cases hlt : i < items.length
    · right
      refine ⟨wk.go i H2 sv hlt, fun σ' H' => i + 1 ≤ items.length ∧ items.length - (i + 1) = items.length - (i + 1) ∧ ∃ Gi ρi τi, Same G1 Gi ∧ RelS X.K ta G₀ H₀ Gi σ' H' ρi τi ∧ loopL f (items.drop (i + 1)) ρi τi = some (o, τ'),
        fun σ' H' h => ⟨items.length - (i + 1), by omega, h⟩, fun x H' y => ?_⟩
      have hd : items[i]? = some items[i] := List.getElem?_eq_getElem hlt
      rw [List.drop_eq_getElem_cons hlt] at ei
      obtain ⟨o1, τa, ea, fa⟩ := bnd_some (x := f items[i] ρi) ei
      have wki : Wk X.K Gi Gi J items (pairIk ik) := ⟨fun i H s h => wk.go i H (fun b o q => s b o (sm b o q)) h, fun H s => wk.stop H (fun b o q => s b o (sm b o q)), fun i H x H' d s e y => by
        rcases wk.yld i H x H' d (fun b o q => s b o (sm b o q)) e y with ⟨h1, h2⟩ | ⟨h0, T, a, b, va, vb, h1, h2, h3, h4, h5, h6⟩
        · exact .inl ⟨h1, h2.same sm⟩
        · exact .inr ⟨h0, T, a, b, va, vb, h1, h2, h3, h4, h5.same sm, h6.same sm⟩⟩
      obtain ⟨x0, R0, dx, _⟩ := item_ok (tg := tg) wki hpr (H1 := H2) Ext.refl Si.rel Si.rel.sub hd y
      have S' := Si.step x0 R0
      have x' : Same Gi Gi := fun _ _ h => h
      rw [← hf] at ea
      obtain ⟨ρ', τc, ec, fc⟩ := bnd_some ea
      obtain ⟨gc, rfl⟩ := of_some ec
      refine gTS_ok S' dx gc fun σ3 S3 => ⟨Gi, ρ', _, o1, τa, S3, fc, ?_⟩
      cases o1 with
      | nx ρ1 => exact fun σ' G'' H'' s S'' => ⟨hlt, rfl, G'', ρ1, τa, (sm.trans x').trans s, S'', fa⟩
      | ct ρ1 => exact fun σ' G'' H'' s S'' => ⟨hlt, rfl, G'', ρ1, τa, (sm.trans x').trans s, S'', fa⟩
      | rt d1 =>
        cases ret_some fa
        exact fin
    · left
      have hn : i = items.length := by omega
      subst hn
      rw [List.drop_length] at ei
      cases ret_some ei
      exact ⟨wk.stop H2 sv, fin σ2 Gi H2 (x1.g.trans sm) Si⟩
theorem rs_while {n0 : Nat} {c : E} {body : List S} (h : PS X st (tWhile (tT X.K ta C c) (tS X.K ta G₀ H₀ kr (evSs C body)))) : PS X st (tS X.K ta G₀ H₀ kr (evS C (.while n0 c body))) :=
  PS.mono h fun Dn σ H h => by
    obtain ⟨G, ρ, τ, o, τ', S, e0, fin⟩ := h
    refine ⟨fun m σ2 H2 => ∃ Gi ρi τi, Same G Gi ∧ RelS X.K ta G₀ H₀ Gi σ2 H2 ρi τi ∧ whileL (fun ρ => (evE C c ρ).bnd fun x => .of (truD x)) (fun ρ => evSs C body ρ) m ρi τi = some (o, τ'), ⟨n0, G, ρ, τ, fun _ _ h => h, S, e0⟩, ?_⟩
    rintro m σ2 H2 ⟨Gi, ρi, τi, sm, Si, ei⟩
    cases m with
    | zero => cases ei
    | succ m =>
      obtain ⟨k, τa, ea, fa⟩ := bnd_some (x := (evE C c ρi).bnd fun x => .of (truD x)) ei
      refine ⟨Gi, ρi, τi, k, τa, Si.rel, ea, fun G1 H1 x1 R1 => ?_⟩
      cases k with
      | false =>
        cases ret_some fa
        exact iteF (fin σ2 G1 H1 (sm.trans x1.g) (Si.step x1 R1))
      | true =>
        obtain ⟨o1, τb, eb, fb⟩ := bnd_some (x := evSs C body ρi) fa
        refine iteT ⟨fun σ' H' => ∃ Gi ρi τi, Same G Gi ∧ RelS X.K ta G₀ H₀ Gi σ' H' ρi τi ∧ whileL (fun ρ => (evE C c ρ).bnd fun x => .of (truD x)) (fun ρ => evSs C body ρ) m ρi τi = some (o, τ'), fun σ' H' h => ⟨m, Nat.lt_succ_self _, h⟩, G1, ρi, τa, o1, τb, Si.step x1 R1, eb, ?_⟩
        cases o1 with
        | nx ρ1 => exact fun σ' G'' H'' s S'' => ⟨G'', ρ1, τb, (sm.trans x1.g).trans s, S'', fb⟩
        | ct ρ1 => exact fun σ' G'' H'' s S'' => ⟨G'', ρ1, τb, (sm.trans x1.g).trans s, S'', fb⟩
        | rt d1 =>
          cases ret_some fb
          exact fin
theorem rs_cont (h : PS X st tCont) : PS X st (tS X.K ta G₀ H₀ kr (evS C .cont)) :=
  PS.mono h fun Dn σ H h => by
    obtain ⟨G, ρ, τ, o, τ', S, e0, fin⟩ := h
    cases ret_some e0
    exact fin σ G H (fun _ _ h => h) S
theorem rs_pass (h : PS X st tNext) : PS X st (tS X.K ta G₀ H₀ kr (evS C .pass)) :=
  PS.mono h fun Dn σ H h => by
    obtain ⟨G, ρ, τ, o, τ', S, e0, fin⟩ := h
    cases ret_some e0
    exact fin σ G H (fun _ _ h => h) S
/-! blocks -/
theorem rss_nil : PSs X [] (tS X.K ta G₀ H₀ kr (evSs C [])) :=
  PSs.mono pss_nil fun Dn σ H h => by
    obtain ⟨G, ρ, τ, o, τ', S, e0, fin⟩ := h
    cases ret_some e0
    exact fin σ G H (fun _ _ h => h) S
theorem rss_cons {s : S} {r : List S} {sts : List Stmt} (h1 : PS X st (tS X.K ta G₀ H₀ kr (evS C s))) (h2 : PSs X sts (tS X.K ta G₀ H₀ kr (evSs C r))) : PSs X (st :: sts) (tS X.K ta G₀ H₀ kr (evSs C (s :: r))) :=
  PSs.mono (pss_cons h1 h2) fun Dn σ H h => by
    obtain ⟨G, ρ, τ, o, τ', S, e0, fin⟩ := h
    obtain ⟨o1, τ1, e1, f1⟩ := bnd_some (x := evS C s ρ) e0
    refine ⟨G, ρ, τ, o1, τ1, S, e1, ?_⟩
    cases o1 with
    | nx ρ1 => exact fun σ' G' H' sm S' => ⟨G', ρ1, τ1, o, τ', S', f1, fin.up sm⟩
    | ct ρ1 =>
      cases ret_some f1
      exact fin
    | rt d1 =>
      cases ret_some f1
      exact fin
theorem rss_frz {i : Nat} {r : List S} {sts : List Stmt} (h2 : PSs X sts (tS X.K ta G₀ H₀ kr (evSs C r))) : PSs X sts (tS X.K ta G₀ H₀ kr (evSs C (.frz i :: r))) :=
  PSs.mono h2 fun Dn σ H h => by
    obtain ⟨G, ρ, τ, o, τ', S, e0, fin⟩ := h
    obtain ⟨o1, τ1, e1, f1⟩ := bnd_some (x := evS C (.frz i) ρ) e0
    obtain ⟨ds, τ2, e2, f2⟩ := bnd_some e1
    cases ret_some f2
    have e2 : (match ρ[i]? with
      | some (some (.own ds)) => some (ds, τ)
      | _ => none) = some (ds, τ1) := e2
    split at e2
    · rename_i es ho
      cases e2
      obtain ⟨G', sm, S'⟩ := S.freeze ho
      exact ⟨G', _, _, o, τ', S', f1, fin.up sm⟩
    · cases e2
end
end KN

set_option maxRecDepth 100000
set_option maxHeartbeats 4000000
namespace KN
open PySem L2 PyProof.Rows
/-! ### statements that end in an error -/
def tX (K : Fg) (mg : Str → Option Value) (xs : List Nat) (ta : Option Addr) (G₀ H₀ : Hp) (W : WX) (run : En → M (Exn × En)) : TS := fun _ σ H => ∃ G ρ τ x ρ' τ', RelS K ta G₀ H₀ G σ H ρ τ ∧ run ρ τ = some ((x, ρ'), τ') ∧
  ∀ cls d σ' G' H', Same G G' → RelS K ta G₀ H₀ G' σ' H' ρ' τ' → ExcR K mg xs G' H' cls d x → W cls d σ' H'
theorem PS.or {X : Cx} {st : Stmt} {t u : TS} (h1 : PS X st t) (h2 : PS X st u) : PS X st (fun D σ H => t D σ H ∨ u D σ H) := ⟨fun pins s σ H D I h => h.elim (h1.run pins s σ H D I) (h2.run pins s σ H D I)⟩
theorem PSs.or {X : Cx} {st : List Stmt} {t u : TS} (h1 : PSs X st t) (h2 : PSs X st u) : PSs X st (fun D σ H => t D σ H ∨ u D σ H) := ⟨fun pins s σ H D I h => h.elim (h1.run pins s σ H D I) (h2.run pins s σ H D I)⟩
theorem RelS.off {K : Fg} {ta : Option Addr} {G₀ H₀ G H : Hp} {σ : L2.St} {ρ : En} {τ : List D} (S : RelS K ta G₀ H₀ G σ H ρ τ) (i : Nat) (u : Option V) : RelS K ta G₀ H₀ G (σ.set i u) H (ρ.set i none) τ := by
  have old : ∀ {j : Nat} {e : Ent}, (ρ.set i none)[j]? = some (some e) → j ≠ i ∧ ρ[j]? = some (some e) := fun {j e} h => by
    rcases get_set h with ⟨rfl, _, z⟩ | ⟨hj, z⟩
    · cases z
    · exact ⟨hj, z⟩
  have ne : ∀ {j : Nat}, j ≠ i → (σ.set i u)[j]? = σ[j]? := fun {j} hj => List.getElem?_set_ne (Ne.symm hj)
  refine ⟨⟨S.rel.sub, S.rel.tin, fun j d e => ?_, fun j es e => ?_, fun j k es fs b hjk e1 e2 e3 => ?_, fun j e => ?_, by rw [List.length_set, List.length_set]; exact S.rel.len⟩, S.ext, fun j es b e1 e2 => ?_⟩
  · obtain ⟨hj, z⟩ := old e
    rw [ne hj]
    exact S.rel.dat j d z
  · obtain ⟨hj, z⟩ := old e
    rw [ne hj]
    exact S.rel.own j es z
  · obtain ⟨h1, z1⟩ := old e1
    obtain ⟨h2, z2⟩ := old e2
    rw [ne h1] at e3
    rw [ne h2]
    exact S.rel.apart j k es fs b hjk z1 z2 e3
  · obtain ⟨hj, z⟩ := old e
    rw [ne hj]
    exact S.rel.tn j z
  · obtain ⟨hj, z⟩ := old e1
    rw [ne hj] at e2
    exact S.new j es b z e2
section
variable {X : Cx} {ta : Option Addr} {G₀ H₀ : Hp} {kr : Kd} {C : Nat → List D → M D} {st : Stmt} {xs : List Nat} {W : WX}
theorem txe_of {K : Fg} {mg : Str → Option Value} {run : En → M Exn} {Dn : Ends} {σ : L2.St} {H : Hp} {Q : VK} (h : tX K mg xs ta G₀ H₀ W (fun ρ => (run ρ).bnd fun x => M.ret (x, ρ)) Dn σ H) : tXE K mg xs ta W run σ H Q := by
  obtain ⟨G, ρ, τ, x, ρ', τ', S, e, q⟩ := h
  obtain ⟨x', τ1, e1, f1⟩ := bnd_some e
  cases ret_some f1
  exact ⟨G, _, τ, x, τ', S.rel, e1, fun cls d G' H' x' R' h => q cls d σ G' H' x'.g (S.step x' R') h⟩
theorem ps_no {t : TS} (h : ∀ D σ H, ¬ t D σ H) : PS X st t := ⟨fun _ _ σ H D _ q => absurd q (h D σ H)⟩
theorem pss_no {sts : List Stmt} {t : TS} (h : ∀ D σ H, ¬ t D σ H) : PSs X sts t := ⟨fun _ _ σ H D _ q => absurd q (h D σ H)⟩
theorem rx_no {run : En → M (Exn × En)} (h : ∀ ρ τ, run ρ τ = none) : PS X st (tX X.K X.mg xs ta G₀ H₀ W run) := ps_no fun D σ H q => by
  obtain ⟨G, ρ, τ, x, ρ', τ', S, e, _⟩ := q
  rw [h] at e
  cases e
/-- what is evaluated first ends in an error -/
theorem rx_first {run : En → M Exn} {T : TS} (h : PS X st T) (hT : ∀ Dn σ H, (∀ Q, tXE X.K X.mg xs ta W run σ H Q) → T Dn σ H) : PS X st (tX X.K X.mg xs ta G₀ H₀ W fun ρ => (run ρ).bnd fun x => M.ret (x, ρ)) :=
  PS.mono h fun Dn σ H q => hT Dn σ H fun Q => txe_of q
theorem rx_iteS {c : E} {a b : List S} {ra rb : En → M (Exn × En)} (h : PS X st (tIfS (tT X.K ta C c) (tX X.K X.mg xs ta G₀ H₀ W ra) (tX X.K X.mg xs ta G₀ H₀ W rb))) : PS X st (tX X.K X.mg xs ta G₀ H₀ W fun ρ τ => match evE C c ρ τ with
    | some (x, τ') => (match truD x with
      | some true => ra ρ τ'
      | some false => rb ρ τ'
      | none => none)
    | none => none) :=
  PS.mono h fun Dn σ H h => by
    obtain ⟨G, ρ, τ, x, ρ', τ', S, e0, q⟩ := h
    dsimp only at e0
    split at e0
    · rename_i v τ1 e1
      split at e0
      · rename_i g2
        refine ⟨G, ρ, τ, true, _, S.rel, tru_bnd (τ2 := τ) e1 g2, fun G1 H1 x1 R1 => iteT ?_⟩
        exact ⟨G1, ρ, τ1, x, ρ', τ', S.step x1 R1, e0, fun cls d σ' G' H' s S' h => q cls d σ' G' H' (x1.g.trans s) S' h⟩
      · rename_i g2
        refine ⟨G, ρ, τ, false, _, S.rel, tru_bnd (τ2 := τ) e1 g2, fun G1 H1 x1 R1 => iteF ?_⟩
        exact ⟨G1, ρ, τ1, x, ρ', τ', S.step x1 R1, e0, fun cls d σ' G' H' s S' h => q cls d σ' G' H' (x1.g.trans s) S' h⟩
      · cases e0
    · cases e0
theorem rxs_nil : PSs X [] (tX X.K X.mg xs ta G₀ H₀ W (xSs C [])) := pss_no fun D σ H q => by
  obtain ⟨G, ρ, τ, x, ρ', τ', S, e, _⟩ := q
  cases e
theorem rxs_cons {s : S} {r : List S} {sts : List Stmt} (h1 : PS X st (tS X.K ta G₀ H₀ kr (evS C s))) (hx : PS X st (tX X.K X.mg xs ta G₀ H₀ W (xS C s))) (h2 : PSs X sts (tX X.K X.mg xs ta G₀ H₀ W (xSs C r))) : PSs X (st :: sts) (tX X.K X.mg xs ta G₀ H₀ W (xSs C (s :: r))) :=
  PSs.mono (pss_cons (PS.or h1 hx) h2) fun Dn σ H h => by
    obtain ⟨G, ρ, τ, x, ρ', τ', S, e0, q⟩ := h
    have e0 : (match evS C s ρ τ with
      | some (.nx ρ', τ') => xSs C r ρ' τ'
      | some _ => none
      | none => xS C s ρ τ) = some ((x, ρ'), τ') := e0
    split at e0
    · rename_i ρ1 τ1 e1
      exact .inl ⟨G, ρ, τ, .nx ρ1, τ1, S, e1, fun σ' G' H' sm S' => ⟨G', ρ1, τ1, x, ρ', τ', S', e0, fun cls d σ'' G'' H'' s S'' h => q cls d σ'' G'' H'' (sm.trans s) S'' h⟩⟩
    · cases e0
    · exact .inr ⟨G, ρ, τ, x, ρ', τ', S, e0, q⟩
theorem rxs_frz {i : Nat} {r : List S} {sts : List Stmt} (h2 : PSs X sts (tX X.K X.mg xs ta G₀ H₀ W (xSs C r))) : PSs X sts (tX X.K X.mg xs ta G₀ H₀ W (xSs C (.frz i :: r))) :=
  PSs.mono h2 fun Dn σ H h => by
    obtain ⟨G, ρ, τ, x, ρ', τ', S, e0, q⟩ := h
    have e0 : (match evS C (.frz i) ρ τ with
      | some (.nx ρ', τ') => xSs C r ρ' τ'
      | some _ => none
      | none => none) = some ((x, ρ'), τ') := e0
    split at e0
    · rename_i ρ1 τ1 e1
      obtain ⟨ds, τ2, e2, f2⟩ := bnd_some e1
      cases ret_some f2
      have e2 : (match ρ[i]? with
        | some (some (.own ds)) => some (ds, τ)
        | _ => none) = some (ds, τ1) := e2
      split at e2
      · rename_i es ho
        cases e2
        obtain ⟨G', sm, S'⟩ := S.freeze ho
        exact ⟨G', _, _, x, ρ', τ', S', e0, fun cls d σ'' G'' H'' s S'' h => q cls d σ'' G'' H'' (sm.trans s) S'' h⟩
      · cases e2
    · cases e0
    · cases e0
theorem rx_loop {tg : Tg} {ik : IK} {src : List E} {body : List S} (hpr : pairIk ik = true → ∃ is, tg = .tup is)
    (h : PS X st (tFor (tIf X.K ta C ik src) (gT X.K tg) (fun D σ H => tS X.K ta G₀ H₀ kr (evSs C body) D σ H ∨ tX X.K X.mg xs ta G₀ H₀ W (xSs C body) D σ H))) : PS X st (tX X.K X.mg xs ta G₀ H₀ W (xS C (.loop tg ik src body))) :=
  PS.mono h fun Dn σ H h => by
    obtain ⟨G, ρ, τ, x, ρ', τ', S, e0, q⟩ := h
    obtain ⟨ys, τ1, e1, f1⟩ := bnd_some (x := evEs C src ρ) e0
    obtain ⟨items, τ2, e2, f2⟩ := bnd_some f1
    obtain ⟨g2, rfl⟩ := of_some e2
    refine ⟨G, ρ, τ, ys, _, items, S.rel, e1, g2, fun G1 H1 J x1 R1 wk => ?_⟩
    generalize hf : (fun d ρ => (M.of (setTg tg d ρ)).bnd fun ρ' => evSs C body ρ' : D → En → M Out) = f at f2
    generalize hg : (fun d ρ => (M.of (setTg tg d ρ)).bnd fun ρ' => xSs C body ρ' : D → En → M (Exn × En)) = g at f2
    refine ⟨fun i m σ2 H2 => i ≤ items.length ∧ m = items.length - i ∧ ∃ Gi ρi τi, Same G1 Gi ∧ RelS X.K ta G₀ H₀ Gi σ2 H2 ρi τi ∧ xloopL f g (items.drop i) ρi τi = some ((x, ρ'), τ'),
      ⟨_, Nat.zero_le _, rfl, G1, ρ, _, fun _ _ h => h, S.step x1 R1, f2⟩, ?_⟩
    rintro i m σ2 H2 ⟨hi, rfl, Gi, ρi, τi, sm, Si, ei⟩
    have sv : Same G1 H2 := sm.trans Si.rel.sub
    by_cases hlt : i < items.length
    · right
      refine ⟨wk.go i H2 sv hlt, fun σ' H' => i + 1 ≤ items.length ∧ items.length - (i + 1) = items.length - (i + 1) ∧ ∃ Gi ρi τi, Same G1 Gi ∧ RelS X.K ta G₀ H₀ Gi σ' H' ρi τi ∧ xloopL f g (items.drop (i + 1)) ρi τi = some ((x, ρ'), τ'),
        fun σ' H' h => ⟨items.length - (i + 1), by omega, h⟩, fun y0 H' y => ?_⟩
      have hd : items[i]? = some items[i] := List.getElem?_eq_getElem hlt
      rw [List.drop_eq_getElem_cons hlt] at ei
      have ei2 : (match f items[i] ρi τi with
        | some (.nx ρ', τ') => xloopL f g (items.drop (i + 1)) ρ' τ'
        | some (.ct ρ', τ') => xloopL f g (items.drop (i + 1)) ρ' τ'
        | some (.rt _, _) => none
        | none => g items[i] ρi τi) = some ((x, ρ'), τ') := ei
      have wki : Wk X.K Gi Gi J items (pairIk ik) := ⟨fun i H s h => wk.go i H (fun b o q => s b o (sm b o q)) h, fun H s => wk.stop H (fun b o q => s b o (sm b o q)), fun i H x H' d s e y => by
        rcases wk.yld i H x H' d (fun b o q => s b o (sm b o q)) e y with ⟨h1, h2⟩ | ⟨h0, T, a, b, va, vb, h1, h2, h3, h4, h5, h6⟩
        · exact .inl ⟨h1, h2.same sm⟩
        · exact .inr ⟨h0, T, a, b, va, vb, h1, h2, h3, h4, h5.same sm, h6.same sm⟩⟩
      obtain ⟨x0, R0, dx, _⟩ := item_ok (tg := tg) wki hpr (H1 := H2) Ext.refl Si.rel Si.rel.sub hd y
      have S' := Si.step x0 R0
      split at ei2
      · rename_i ρa τa ea
        rw [← hf] at ea
        obtain ⟨ρc, τc, ec, fc⟩ := bnd_some ea
        obtain ⟨gc, rfl⟩ := of_some ec
        exact gTS_ok S' dx gc fun σ3 S3 => .inl ⟨Gi, ρc, _, .nx ρa, τa, S3, fc, fun σ' G'' H'' s S'' => ⟨hlt, rfl, G'', ρa, τa, sm.trans s, S'', ei2⟩⟩
      · rename_i ρa τa ea
        rw [← hf] at ea
        obtain ⟨ρc, τc, ec, fc⟩ := bnd_some ea
        obtain ⟨gc, rfl⟩ := of_some ec
        exact gTS_ok S' dx gc fun σ3 S3 => .inl ⟨Gi, ρc, _, .ct ρa, τa, S3, fc, fun σ' G'' H'' s S'' => ⟨hlt, rfl, G'', ρa, τa, sm.trans s, S'', ei2⟩⟩
      · cases ei2
      · rw [← hg] at ei2
        obtain ⟨ρc, τc, ec, fc⟩ := bnd_some ei2
        obtain ⟨gc, rfl⟩ := of_some ec
        exact gTS_ok S' dx gc fun σ3 S3 => .inr ⟨Gi, ρc, _, x, ρ', τ', S3, fc, fun cls d σ' G' H' s S'' h => q cls d σ' G' H' ((x1.g.trans sm).trans s) S'' h⟩
    · have hn : i = items.length := by omega
      subst hn
      rw [List.drop_length] at ei
      cases ei
end
end KN

set_option maxRecDepth 100000
set_option maxHeartbeats 4000000
namespace KN
open PySem L2 PyProof.Rows
theorem mkX_fld {c : Nat} {kn f : Str} {kb : String} {ds : List D} {x : Exn} (hk : xcs[c]? = some ⟨kn, some f, kb⟩) (h : mkX c ds = some x) : ∃ v, ds = [v] ∧ x = ⟨c, v⟩ := by
  unfold mkX at h
  rw [hk] at h
  match ds, h with
  | [v], h =>
    cases h
    exact ⟨v, rfl, rfl⟩
section
variable {Γ : Cn} {n : Nat} {X : Cx} {ta : Option Addr} {G₀ H₀ : Hp} {kr : Kd} {W : WX}
/-! ### raise -/
theorem raise_ok {c : Nat} {es : List E} {x : Str} {args : List Expr} {p p2 pos : Pos} (O : XOk Γ n X) (tk : Takes X W) (hk : ∃ k, xcs[c]? = some k ∧ k.name = x ∧ (match k.fld with
      | some _ => args.length = 1
      | none => args.length = 0)) (hc : c ∈ Γ.xs) (hg : Gl X x) (hd : (x == ("__debug__" : Str)) = false) (hr : PA X args (tK X.K ta (callF Γ.B n) es)) (hs : noStars args = true) (hes : es.length = args.length) :
    PS X (.Raise (some (.Call (.Name x p) args [] p2)) none pos) (tX X.K X.mg Γ.xs ta G₀ H₀ W (xS (callF Γ.B n) (.rais c es))) := by
  obtain ⟨k, hk, rfl, hl⟩ := hk
  obtain ⟨ad, had⟩ := O.xok.ex
  obtain ⟨⟨k', hk', K1⟩, _⟩ := had c hc
  rw [hk] at hk'
  cases hk'
  have rs : Raises X (.ref (ad c)) := raises_own K1.bC K1.tC
  have mak := K1.mak
  cases hf : k.fld with
  | none =>
    rw [hf] at mak hl
    obtain ⟨B, newId, initId, bmB, F, q⟩ := mak
    have e : args = [] := List.eq_nil_of_length_eq_zero hl
    subst e
    refine PS.mono (ps_raise O.calm tk (pmk_bare F q K1.gC K1.kC rs hg hd)) fun Dn σ H h => ?_
    obtain ⟨G, ρ, τ, x, ρ', τ', S, e0, q⟩ := h
    obtain ⟨ds, τ1, e1, f1⟩ := bnd_some (x := evEs (callF Γ.B n) es ρ) e0
    obtain ⟨x', τ2, e2, f2⟩ := bnd_some f1
    obtain ⟨g2, rfl⟩ := of_some e2
    cases ret_some f2
    have e : es = [] := List.eq_nil_of_length_eq_zero (hes.trans hl)
    subst e
    cases ret_some e1
    obtain ⟨kn, kf, kb⟩ := k
    cases hf
    have g2 : (match (some ⟨kn, none, kb⟩ : Option Xc), ([] : List D) with
      | some ⟨_, some _, _⟩, [v] => some (⟨c, v⟩ : Exn)
      | some ⟨_, none, _⟩, [] => some ⟨c, .none⟩
      | _, _ => none) = some x := by
      rw [← hk]
      exact g2
    cases g2
    exact q _ none σ G H (fun _ _ h => h) S ⟨hc, ad c, _, rfl, hk, K1.gC, rfl⟩
  | some f =>
    rw [hf] at mak hl
    obtain ⟨hno, fI, B, newId, initId, bmB, cda, cc, nm, qual, params, scope, y, sf, T⟩ := mak
    obtain ⟨a, rfl⟩ := List.length_eq_one_iff.mp hl
    simp only [noStars, Bool.and_eq_true] at hs
    refine PS.mono (ps_raise O.calm tk (pmk_ini T O.room rs (O.bi "super" (by decide)) hg K1.gC K1.kC hr hd (star_no hs.1))) fun Dn σ H h => ?_
    obtain ⟨G, ρ, τ, x, ρ', τ', S, e0, q⟩ := h
    obtain ⟨ds, τ1, e1, f1⟩ := bnd_some (x := evEs (callF Γ.B n) es ρ) e0
    obtain ⟨x', τ2, e2, f2⟩ := bnd_some f1
    obtain ⟨g2, rfl⟩ := of_some e2
    cases ret_some f2
    refine ⟨G, _, τ, ds, _, S.rel, e1, fun vs G1 H1 x1 R1 w1 => ?_⟩
    obtain ⟨kn, kf, kb⟩ := k
    have hf : kf = some f := hf
    subst hf
    obtain ⟨v0, rfl, rfl⟩ := mkX_fld hk g2
    cases w1 with
    | cons h1 h2 =>
      cases h2
      exact ⟨_, rfl, fun d hd => q _ _ σ G1 _ x1.g (S.step (x1.trans (Ext.fresh hd)) (R1.fresh hd)) ⟨hc, ad c, _, rfl, hk, K1.gC, d, _, rfl, upd_same, h1⟩⟩
/-! ### what a clause writes down -/
def HA.dat (x : Exn) : HA → D
  | .str z => .str z
  | .bl b => .bool b
  | .non => .none
  | .int i => .int i
  | .fld => x.v
  | .isi T => .bool (isX x.c T)
theorem toE_ev {C : Nat → List D → M D} {x : Exn} {a : HA} {ρ : En} {τ : List D} : evE C (a.toE x) ρ τ = some (a.dat x, τ) := by cases a <;> rfl
theorem toEs_ev {C : Nat → List D → M D} {x : Exn} {ρ : En} {τ : List D} : ∀ {as : List HA}, evEs C (as.map (HA.toE x)) ρ τ = some (as.map (HA.dat x), τ)
  | [] => rfl
  | a :: as => by
    have e : evEs C ((a :: as).map (HA.toE x)) ρ = (evE C (a.toE x) ρ).bnd fun z => (evEs C (as.map (HA.toE x)) ρ).bnd fun ys => .ret (z :: ys) := by
      cases a <;> rfl
    rw [e]
    unfold M.bnd
    rw [toE_ev]
    simp only [toEs_ev (as := as)]
    rfl
/-- the state of a clause -/
def tHd (K : Fg) (mg : Str → Option Value) (xs : List Nat) (ta : Option Addr) (G₀ H₀ : Hp) (kr : Kd) (C : Nat → List D → M D) (hd : Hd) (a : Addr) (cls : Value) (d : Option Addr) : TS := fun Dn σ H => ∃ G ρ τ x dv τ', RelS K ta G₀ H₀ G σ H ρ τ ∧ (∀ i, hd.slot = some i → i < σ.length → σ[i]? = some (some (.ref a))) ∧
  ExcR K mg xs G H cls d x ∧ x.c = hd.c ∧ evE C (hd.val.toE x) ρ τ = some (dv, τ') ∧ FinO K ta G₀ H₀ G kr Dn τ' (if hd.ret then .rt dv else .nx (ρ.set hd.tgt (some (.dat dv))))
/-- the facts that stay while a clause's value is made -/
def XF (K : Fg) (mg : Str → Option Value) (xs : List Nat) (ta : Option Addr) (c : Nat) (slot : Option Nat) (a : Addr) (cls : Value) (d : Option Addr) (G : Hp) (x : Exn) (σ : L2.St) (H : Hp) : Prop := ∃ ρ τ, Rel K ta G σ H ρ τ ∧ (∀ i, slot = some i → i < σ.length → σ[i]? = some (some (.ref a))) ∧ ExcR K mg xs G H cls d x ∧ x.c = c
def tHA (K : Fg) (mg : Str → Option Value) (xs : List Nat) (ta : Option Addr) (c : Nat) (slot : Option Nat) (a : Addr) (cls : Value) (d : Option Addr) (h : HA) : TE := fun σ H Q => ∃ G x, XF K mg xs ta c slot a cls d G x σ H ∧ ∀ v, DR K G v (h.dat x) → Q v H
theorem PE.monoI {X : Cx} {e : Expr} {t t' : TE} (h : PE X e t) (i : ∀ pins s σ H Q, L2.Inv X pins σ H s → t' σ H Q → t σ H Q) : PE X e t' := ⟨fun pins s σ H Q I q => h.run pins s σ H Q I (i pins s σ H Q I q)⟩
theorem pe_HA {c : Nat} {slot : Option Nat} {a : Addr} {oe : Obj} {cls : Value} {d : Option Addr} {pn : List (Addr × Obj)} (O : XOk Γ n X) (hc : c ∈ Γ.xs) (hz : Zc cls d oe) (hf : ∃ vs, oe.data = .fields vs) {h : HA} {e : Expr} (hm : mHA c slot Γ h e = true) :
    PE (X.suite a ((a, oe) :: pn)) e (tHA X.K X.mg Γ.xs ta c slot a cls d h) := by
  obtain ⟨ad, had⟩ := O.xok.ex
  obtain ⟨⟨k, hk, K1⟩, _⟩ := had c hc
  by_cases hcls : cls = .ref (ad c)
  · subst hcls
    have pv : ∀ {i : Nat} {z : Str} {p : Pos}, nameOk Γ i z = true → PE (X.suite a ((a, oe) :: pn)) (.Name z p) (tVar i) := fun {i z p} hn => by
      obtain ⟨h1, h2, h3, h4⟩ := O.var hn
      exact pe_var h1 h2 h3 h4
    unfold mHA at hm
    split at hm
    · simp only [decide_eq_true_eq] at hm
      subst hm
      exact PE.mono pe_str fun σ H Q ⟨G, x, _, q⟩ => q _ (.str _)
    · simp only [beq_iff_eq] at hm
      subst hm
      exact PE.mono pe_bl fun σ H Q ⟨G, x, _, q⟩ => q _ (.bl _)
    · exact PE.mono pe_non fun σ H Q ⟨G, x, _, q⟩ => q _ .non
    · simp only [beq_iff_eq] at hm
      subst hm
      exact PE.mono pe_int fun σ H Q ⟨G, x, _, q⟩ => q _ (.int _)
    · rename_i nm p f p2
      split at hm
      · rename_i i k' hk'
        rw [hk] at hk'
        cases hk'
        simp only [Bool.and_eq_true, decide_eq_true_eq] at hm
        have mak := K1.mak
        rw [hm.2] at mak
        refine PE.monoI (pe_xf K1.xf mak.1 hz hf (pv hm.1)) fun pins s σ H Q I h => ?_
        have il : i < σ.length := by rw [I.len]; exact (List.getElem?_eq_some_iff.mp (O.var hm.1).1).1
        obtain ⟨G, x, ⟨ρ, τ, R, hs, hx, rfl⟩, q⟩ := h
        obtain ⟨_, C', k2, e1, e2, e3, e4⟩ := hx
        rw [hk] at e2
        cases e2
        rw [hm.2] at e4
        obtain ⟨dd, v, rfl, hdd, dr⟩ := e4
        exact ⟨.ref a, hs i rfl il, rfl, rfl, dd, _, v, rfl, hdd, by simp [List.lookup], q v dr⟩
      · cases hm
    · rename_i T z p nm p1 t p2 p3
      split at hm
      · rename_i i
        simp only [Bool.and_eq_true, decide_eq_true_eq] at hm
        obtain ⟨⟨⟨⟨⟨rfl, h2⟩, h3⟩, rfl⟩, h5⟩, h6⟩ := hm
        have bt : bootBuiltins (Str.ofString T) = some (.type T) := by
          simp only [List.mem_cons, List.not_mem_nil, or_false] at h5
          rcases h5 with rfl | rfl <;> decide +kernel
        have hmt : X.mg (Str.ofString T) = none := O.bi _ (by
          simp only [List.mem_cons, List.not_mem_nil, or_false] at h5
          rcases h5 with rfl | rfl <;> decide)
        obtain ⟨g1, g2, g3⟩ := O.glob h6
        refine PE.monoI (pe_callB (call_isX K1.eC hz hf) (O.glob h2).1 (O.bi "isinstance" (by decide)) (by decide +kernel) (pa_cons (pv h3) (pa_cons (pe_bltn (v := .ty T) g1 hmt bt rfl g2 g3) pa_nil)) (by decide) (by decide)) fun pins s σ H Q I h => ?_
        have il : i < σ.length := by rw [I.len]; exact (List.getElem?_eq_some_iff.mp (O.var h3).1).1
        obtain ⟨G, x, ⟨ρ, τ, R, hs, hx, rfl⟩, q⟩ := h
        obtain ⟨_, C', k2, e1, e2, e3, e4⟩ := hx
        rw [hk] at e2
        cases e2
        refine ⟨.ref a, hs i rfl il, .ty T, .type T, k.base == T, rfl, fun u hu => hu, K1.kit T h5, fun dd hd => ?_, ?_⟩
        · cases hfl : k.fld with
          | none =>
            rw [hfl] at e4
            rw [e4] at hd
            cases hd
          | some f =>
            rw [hfl] at e4
            obtain ⟨dd', v, e5, hdd, _⟩ := e4
            rw [e5] at hd
            cases hd
            exact ⟨_, hdd⟩
        · have e : isX x.c T = (k.base == T) := by
            unfold isX
            rw [hk]
          refine q _ ?_
          show DR X.K G (.bl (k.base == T)) (.bool (isX x.c T))
          rw [e]
          exact .bl _
      · cases hm
    · cases hm
  · refine pe_false fun σ H Q h => ?_
    obtain ⟨G, x, ⟨ρ, τ, R, hs, hx, rfl⟩, q⟩ := h
    obtain ⟨_, C', k2, e1, e2, e3, e4⟩ := hx
    rw [hk] at e2
    cases e2
    rw [K1.gC] at e3
    cases e3
    exact hcls e1
end
end KN

set_option maxRecDepth 100000
set_option maxHeartbeats 4000000
namespace KN
open PySem L2 PyProof.Rows
section
variable {Γ : Cn} {n : Nat} {X : Cx} {ta : Option Addr} {G₀ H₀ : Hp} {c : Nat} {slot : Option Nat} {a : Addr} {oe : Obj} {cls : Value} {d : Option Addr} {pn : List (Addr × Obj)}
theorem pa_HAs (O : XOk Γ n X) (hc : c ∈ Γ.xs) (hz : Zc cls d oe) (hf : ∃ vs, oe.data = .fields vs) : ∀ {as : List HA} {es : List Expr}, mHAs c slot Γ as es = true →
    PA (X.suite a ((a, oe) :: pn)) es (fun σ H Q => ∃ G x, XF X.K X.mg Γ.xs ta c slot a cls d G x σ H ∧ ∀ vs, DRs X.K G vs (as.map (HA.dat x)) → Q vs H)
  | [], [], _ => ⟨fun pos pins s σ H Q I h => pa_nil.run pos pins s σ H Q I (by
      obtain ⟨G, x, _, q⟩ := h
      exact q [] .nil)⟩
  | [], _ :: _, h => by cases h
  | _ :: _, [], h => by cases h
  | h :: as, e :: es, hm => by
    simp only [mHAs, Bool.and_eq_true] at hm
    have ns : notStar e = true := by
      cases e <;> first | rfl | (cases h <;> cases hm.1)
    have pc := pa_cons (pe_HA (ta := ta) (a := a) (pn := pn) O hc hz hf hm.1) (pa_HAs O hc hz hf hm.2) (star_no ns)
    exact ⟨fun pos pins s σ H Q I q => pc.run pos pins s σ H Q I (by
      obtain ⟨G, x, xf, q⟩ := q
      exact ⟨G, x, xf, fun v dr => ⟨G, x, xf, fun vs drs => q _ (.cons dr drs)⟩⟩)⟩
def HE.dat (x : Exn) : HE → D
  | .one a => a.dat x
  | .lst as => .list (as.map (HA.dat x))
theorem toHE_ev {C : Nat → List D → M D} {x : Exn} {h : HE} {ρ : En} {τ τ' : List D} {dv : D} (e : evE C (h.toE x) ρ τ = some (dv, τ')) : dv = h.dat x ∧ τ' = τ := by
  cases h with
  | one a =>
    have e : evE C (a.toE x) ρ τ = some (dv, τ') := e
    rw [toE_ev] at e
    cases e
    exact ⟨rfl, rfl⟩
  | lst as =>
    obtain ⟨ds, τ1, e1, f1⟩ := bnd_some (x := evEs C (as.map (HA.toE x)) ρ) e
    rw [toEs_ev] at e1
    cases e1
    split at f1
    · cases ret_some f1
      exact ⟨rfl, rfl⟩
    · cases f1
theorem toHE_env {C : Nat → List D → M D} {x : Exn} {h : HE} {ρ ρ2 : En} : evE C (h.toE x) ρ = evE C (h.toE x) ρ2 := by
  funext τ
  cases h with
  | one a =>
    show evE C (a.toE x) ρ τ = evE C (a.toE x) ρ2 τ
    rw [toE_ev, toE_ev]
  | lst as =>
    show ((evEs C (as.map (HA.toE x)) ρ).bnd _) τ = ((evEs C (as.map (HA.toE x)) ρ2).bnd _) τ
    unfold M.bnd
    rw [toEs_ev, toEs_ev]
def tHE (K : Fg) (mg : Str → Option Value) (xs : List Nat) (ta : Option Addr) (c : Nat) (slot : Option Nat) (a : Addr) (cls : Value) (d : Option Addr) (h : HE) : TE := fun σ H Q => ∃ G ρ τ x, Rel K ta G σ H ρ τ ∧ (∀ i, slot = some i → i < σ.length → σ[i]? = some (some (.ref a))) ∧ ExcR K mg xs G H cls d x ∧ x.c = c ∧
  ∀ v G' H', Ext ta G H G' H' → Rel K ta G' σ H' ρ τ → DR K G' v (h.dat x) → Q v H'
theorem pe_HE (O : XOk Γ n X) (hc : c ∈ Γ.xs) (hz : Zc cls d oe) (hf : ∃ vs, oe.data = .fields vs) {h : HE} {e : Expr} (hm : mHE c slot Γ h e = true) : PE (X.suite a ((a, oe) :: pn)) e (tHE X.K X.mg Γ.xs ta c slot a cls d h) := by
  cases h with
  | one g =>
    refine PE.mono (pe_HA (ta := ta) O hc hz hf hm) fun σ H Q h => ?_
    obtain ⟨G, ρ, τ, x, R, hs, hx, hxc, q⟩ := h
    exact ⟨G, x, ⟨ρ, τ, R, hs, hx, hxc⟩, fun v dr => q v G H Ext.refl R dr⟩
  | lst as =>
    cases e with
    | List es p =>
      simp only [mHE, Bool.and_eq_true, decide_eq_true_eq] at hm
      refine PE.mono (pe_lst (pa_HAs (ta := ta) O hc hz hf hm.1)) fun σ H Q h => ?_
      obtain ⟨G, ρ, τ, x, R, hs, hx, hxc, q⟩ := h
      refine ⟨G, x, ⟨ρ, τ, R, hs, hx, hxc⟩, fun vs dr => ⟨?_, fun p hp => ?_⟩⟩
      · have l1 := dr.length
        have l2 : ∀ {as : List HA} {es : List Expr}, mHAs c slot Γ as es = true → as.length = es.length := by
          intro as
          induction as with
          | nil =>
            intro es h
            cases es with
            | nil => rfl
            | cons _ _ => cases h
          | cons a as ih =>
            intro es h
            cases es with
            | nil => cases h
            | cons e es =>
              simp only [mHAs, Bool.and_eq_true] at h
              simp [ih h.2]
        have l3 := l2 hm.1
        rw [List.length_map] at l1
        rw [l1, sizeLine_eq]
        omega
      · exact q _ (upd G p (.lst vs)) _ (Ext.laid R.sub hp) (R.laid hp) (.lst (SqL.of upd_same) (dr.same (Ext.laid (ta := ta) R.sub hp).g))
    | _ => cases hm
/-- a clause's suite -/
theorem suite_ok {fr : Bool} {hd : Hd} {x : Str} {np hp : Pos} {nm : Option Str} {st : Stmt} {C : Nat → List D → M D} (O : XOk Γ n X) (hm : mH fr hd Γ (.ExceptHandler (some (.Name x np)) nm [st] hp) = true) (hz : Zc cls d oe) (hf : ∃ vs, oe.data = .fields vs) :
    PSs (X.suite a ((a, oe) :: pn)) [st] (tHd X.K X.mg Γ.xs ta G₀ H₀ (if fr then .fresh else .dat) C hd a cls d) := by
  simp only [mH, Bool.and_eq_true, decide_eq_true_eq] at hm
  obtain ⟨⟨⟨⟨h1, hc⟩, h3⟩, h4⟩, h5⟩ := hm
  split at h5
  · rename_i v p hr
    simp only [Bool.and_eq_true, Bool.not_eq_true'] at h5
    obtain ⟨rfl, h5⟩ := h5
    refine PSs.mono (pss_one (ps_ret (pe_HE (ta := ta) (a := a) (pn := pn) O hc hz hf h5))) fun Dn σ H h => ?_
    obtain ⟨G, ρ, τ, x, dv, τ', S, hs, hx, hxc, e, fin⟩ := h
    rw [hr] at fin
    obtain ⟨rfl, rfl⟩ := toHE_ev e
    exact ⟨G, ρ, _, x, S.rel, hs, hx, hxc, fun v G' H' x' R' dr => fin v G' H' (S.ext.trans x') R'.sub R'.tin dr⟩
  · rename_i t p1 v p2 hr
    simp only [Bool.and_eq_true, decide_eq_true_eq] at h5
    obtain ⟨⟨ht, hst⟩, h5⟩ := h5
    have st := O.sto.at hst
    have hN : X.N[hd.tgt]? = some t := by rw [O.N]; exact ht
    have sw : swapsWith v (some (.Name t p1)) p2.line X.env = pure false := by
      cases v <;> first
        | rfl
        | (cases hv : hd.val with
          | one g =>
            rw [hv] at h5
            cases g <;> cases h5
          | lst as =>
            rw [hv] at h5
            cases h5)
    refine PSs.mono (pss_one (ps_set (X := X.suite a ((a, oe) :: pn)) O.nd hN st.1 (pe_HE (ta := ta) (a := a) (pn := pn) O hc hz hf h5) sw st.2)) fun Dn σ H h => ?_
    obtain ⟨G, ρ, τ, x, dv, τ', S, hs, hx, hxc, e, fin⟩ := h
    rw [hr] at fin
    obtain ⟨rfl, rfl⟩ := toHE_ev e
    exact ⟨G, ρ, _, x, S.rel, hs, hx, hxc, fun v G' H' x' R' dr => fin _ G' H' x'.g ((S.step x' R').setDat dr hd.tgt)⟩
  · cases h5
def hxs (K : Fg) (mg : Str → Option Value) (xs : List Nat) (ta : Option Addr) (G₀ H₀ : Hp) (kr : Kd) (C : Nat → List D → M D) (ad : Nat → Addr) (hs : List Hd) : List HX := hs.map fun hd => (.ref (ad hd.c), hd.slot, tHd K mg xs ta G₀ H₀ kr C hd)
def goodH (Γ : Cn) (hd : Hd) : Prop := hd.c ∈ Γ.xs ∧ ∀ i, hd.slot = some i → i ≠ hd.tgt
theorem hdX_ok {fr : Bool} {C : Nat → List D → M D} {ad : Nat → Addr} (O : XOk Γ n X) (had : ∀ c ∈ Γ.xs, ∃ k, xcs[c]? = some k ∧ XcOk X.prog X.K X.mg k (ad c)) : ∀ {hs : List Hd} {hds : List ExceptHandler}, mHs fr hs Γ hds = true →
    HdX X hds (hxs X.K X.mg Γ.xs ta G₀ H₀ (if fr then .fresh else .dat) C ad hs) ∧ ∀ hd ∈ hs, goodH Γ hd
  | [], [], _ => ⟨.nil, fun _ h => nomatch h⟩
  | [], _ :: _, h => by cases h
  | _ :: _, [], h => by cases h
  | hd :: hs, e :: es, h => by
    simp only [mHs, Bool.and_eq_true] at h
    obtain ⟨h1, h2⟩ := h
    obtain ⟨i1, i2⟩ := hdX_ok O had h2
    have h1' := h1
    unfold mH at h1
    split at h1
    · rename_i x np nm st hp
      simp only [Bool.and_eq_true, decide_eq_true_eq] at h1
      obtain ⟨⟨⟨⟨k1, hc⟩, k3⟩, k4⟩, k5⟩ := h1
      obtain ⟨k, hk, K1⟩ := had hd.c hc
      rw [hk] at k1
      have kn : k.name = x := by simpa using k1
      have nms : Names X x (.ref (ad hd.c)) := ⟨(O.glob k3).1, (O.glob k3).2.2, .inl (by rw [← kn]; exact K1.gC)⟩
      have su := fun (a : Addr) (oe : Obj) (cls : Value) (d : Option Addr) (pn : List (Addr × Obj)) (hz : Zc cls d oe) (hf : ∃ vs, oe.data = .fields vs) => suite_ok (ta := ta) (G₀ := G₀) (H₀ := H₀) (a := a) (pn := pn) (C := C) O h1' hz hf
      have good : goodH Γ hd ∧ HdX X (.ExceptHandler (some (.Name x np)) nm [st] hp :: es) (hxs X.K X.mg Γ.xs ta G₀ H₀ (if fr then .fresh else .dat) C ad (hd :: hs)) := by
        split at k4
        · rename_i hsl
          refine ⟨⟨hc, fun i hi => by rw [hsl] at hi; cases hi⟩, ?_⟩
          show HdX X _ ((.ref (ad hd.c), hd.slot, _) :: _)
          rw [hsl]
          exact .only nms su i1
        · rename_i i nm' hsl
          simp only [Bool.and_eq_true, decide_eq_true_eq] at k4
          refine ⟨⟨hc, fun j hj => by rw [hsl] at hj; cases hj; exact k4.2⟩, ?_⟩
          show HdX X _ ((.ref (ad hd.c), hd.slot, _) :: _)
          rw [hsl]
          exact .named nms (by rw [O.N]; exact k4.1.1) (by show X.env.scope.names.lookup _ = _; rw [O.sc]; exact k4.1.2) su i1
        · cases k4
      exact ⟨good.2, fun hd' hm => by
        rcases List.mem_cons.mp hm with rfl | hm
        · exact good.1
        · exact i2 hd' hm⟩
    · cases h1
theorem RelS.offS {K : Fg} {G H : Hp} {σ : L2.St} {ρ : En} {τ : List D} (S : RelS K ta G₀ H₀ G σ H ρ τ) (slot : Option Nat) (a : Addr) : RelS K ta G₀ H₀ G (onS slot a σ) H (offE slot ρ) τ := by
  cases slot with
  | none => exact S
  | some i => exact S.off i _
theorem wX_ok {kr : Kd} {C : Nat → List D → M D} {ad : Nat → Addr} {Wout : WX} {Dn : Ends} {x : Exn} {ρ1 : En} {τ1 τ' : List D} {o : Out} {σ : L2.St} {G H : Hp} (hkr : kr ≠ .peek)
    (had : ∀ c ∈ Γ.xs, ∃ k, xcs[c]? = some k ∧ XcOk X.prog X.K X.mg k (ad c)) (hex : ∀ c ∈ Γ.xs, ∀ c' ∈ Γ.xs, PySem.W.exmOne X.K (.ref (ad c)) (.ref (ad c')) = some (decide (c = c')))
    (S : RelS X.K ta G₀ H₀ G σ H ρ1 τ1) (hx : ExcR X.K X.mg Γ.xs G H cls d x) (fin : FinO X.K ta G₀ H₀ G kr Dn τ' o) : ∀ {hs : List Hd}, (∀ hd ∈ hs, goodH Γ hd) → handX C hs x ρ1 τ1 = some (o, τ') → wX X.K Wout Dn (hxs X.K X.mg Γ.xs ta G₀ H₀ kr C ad hs) cls d σ H
  | [], _, e => by cases e
  | hd :: hs, hg, e => by
    obtain ⟨hxc, C', k, e1, e2, e3, e4⟩ := id hx
    obtain ⟨k', hk', K1⟩ := had x.c hxc
    rw [e2] at hk'
    cases hk'
    have eC : C' = ad x.c := by
      rw [K1.gC] at e3
      cases e3
      rfl
    subst eC
    obtain ⟨gc, gs⟩ := hg hd (List.mem_cons_self ..)
    refine ⟨decide (x.c = hd.c), by rw [e1]; exact hex _ hxc _ gc, fun b a ha => ?_, fun b => ?_⟩
    · have xc : x.c = hd.c := of_decide_eq_true b
      have ef : (hd :: hs).find? (fun h => h.c == x.c) = some hd := by
        rw [List.find?_cons_of_pos]
        simp [xc]
      unfold handX at e
      rw [ef] at e
      obtain ⟨dv, τ2, h1, h2⟩ := bnd_some (x := evE C (hd.val.toE x) ρ1) e
      rw [toHE_env (ρ2 := offE hd.slot ρ1)] at h1
      refine ⟨G, offE hd.slot ρ1, τ1, x, dv, τ2, S.offS hd.slot a, fun i hi il => ?_, hx, xc, h1, ?_⟩
      · rw [hi] at il ⊢
        show (σ.set i (some (.ref a)))[i]? = _
        have il : i < (σ.set i (some (.ref a))).length := il
        rw [List.length_set] at il
        rw [List.getElem?_set_self il]
      · cases hr : hd.ret with
        | true =>
          rw [hr] at h2
          cases ret_some h2
          show FinO X.K ta G₀ H₀ G kr (offD hd.slot Dn) _ (.rt dv)
          cases hd.slot <;> exact fin
        | false =>
          rw [hr] at h2
          cases ret_some h2
          show FinO X.K ta G₀ H₀ G kr (offD hd.slot Dn) _ (.nx _)
          cases hsl : hd.slot with
          | none =>
            rw [hsl] at fin
            exact fin
          | some i =>
            rw [hsl] at fin
            intro σ' G' H' sm S'
            refine fin (σ'.set i none) G' H' sm ?_
            have := S'.off i none
            have ec : ((offE (some i) ρ1).set hd.tgt (some (.dat dv))).set i none = (ρ1.set hd.tgt (some (.dat dv))).set i none := by
              show ((ρ1.set i none).set hd.tgt _).set i none = _
              rw [List.set_comm _ _ (gs i hsl), List.set_set]
            rw [ec] at this
            exact this
    · have xc : ¬ x.c = hd.c := of_decide_eq_false b
      refine wX_ok hkr had hex S hx fin (fun h hm => hg h (List.mem_cons_of_mem _ hm)) ?_
      have ef : (hd :: hs).find? (fun h => h.c == x.c) = hs.find? (fun h => h.c == x.c) := by
        rw [List.find?_cons_of_neg]
        simp only [beq_iff_eq]
        exact fun z => xc z.symm
      unfold handX at e ⊢
      rw [ef] at e
      exact e
/-- try -/
theorem rs_try {fr : Bool} {C : Nat → List D → M D} {body : List S} {hs : List Hd} {bs : List Stmt} {hds : List ExceptHandler} {pos : Pos} (O : XOk Γ n X) (hst : X.stack = X.env :: X.outer) (hfr : X.env.frame = some X.env.locals) (hm : mHs fr hs Γ hds = true) (hne : hds ≠ [])
    (hb : ∀ (W : WX) (pn : List (Addr × Obj)) (xe : Value → Shared → Prop), Takes (X.tr pn xe) W → PassesOwn (model X.prog X.w) X.A X.env xe → PSs (X.tr pn xe) bs (fun D σ H => tS X.K ta G₀ H₀ (if fr then .fresh else .dat) (evSs C body) D σ H ∨ tX X.K X.mg Γ.xs ta G₀ H₀ W (xSs C body) D σ H)) :
    PS X (.Try bs hds [] [] pos) (tS X.K ta G₀ H₀ (if fr then .fresh else .dat) (evS C (.tryx body hs))) := by
  obtain ⟨ad, had⟩ := O.xok.ex
  obtain ⟨hX, hG⟩ := hdX_ok (ta := ta) (G₀ := G₀) (H₀ := H₀) (C := C) O (fun c hc => (had c hc).1) hm
  cases hds with
  | nil => exact absurd rfl hne
  | cons h0 hds =>
    refine PS.mono (ps_tryX hst hfr O.nd takes_none5 hb hX) fun Dn σ H h => ?_
    obtain ⟨G, ρ, τ, o, τ', S, e0, fin⟩ := h
    have e0 : (match evSs C body ρ τ with
      | some r => some r
      | none => (match xSs C body ρ τ with
        | some ((x, ρ'), τ') => handX C hs x ρ' τ'
        | none => none)) = some (o, τ') := e0
    split at e0
    · rename_i r e1
      cases e0
      exact .inl ⟨G, ρ, τ, o, τ', S, e1, fin⟩
    · split at e0
      · rename_i x ρ1 τ1 e1
        exact .inr ⟨G, ρ, τ, x, ρ1, τ1, S, e1, fun cls d σ' G' H' sm S' hx => wX_ok (by cases fr <;> decide) (fun c hc => (had c hc).1) (fun c hc c' hc' => (had c hc).2 c' hc') S' hx (fin.up sm) hG e0⟩
      · cases e0
end
end KN

set_option maxRecDepth 100000
set_option maxHeartbeats 4000000
namespace KN
open PySem L2 PyProof.Rows
section
variable {Γ : Cn} {n : Nat} {ta : Option Addr} {W : WX}
theorem any_of {f : Nat} {x : Str} {b : Bool} (h : fnIs Γ f x false b = true) : fnAny Γ f x = true := by
  unfold fnIs at h
  unfold fnAny
  split at h
  · simp only [Bool.and_eq_true] at h ⊢
    exact h.1
  · cases h
theorem rx_call0 {X : Cx} {f : Nat} {z : Str} {p pos : Pos} (O : XOk Γ n X) (tk : Takes X W) (hf : fnAny Γ f z = true) (hg : Gl X z) (hd : (z == ("__debug__" : Str)) = false) :
    PE X (.Call (.Name z p) [] [] pos) (tXE X.K X.mg Γ.xs ta W fun ρ => (evEs (callF Γ.B n) [] ρ).bnd fun ds => callX (callF Γ.B n) f ds) := by
  obtain ⟨a, g1, A⟩ := atF_any O hf
  obtain ⟨fd, ps, b, F⟩ := A.xk
  refine ⟨fun pins s σ H Q I h => ?_⟩
  obtain ⟨G, ρ, τ, x, τ', R, e, q⟩ := h
  obtain ⟨ds, τ1, e1, f1⟩ := bnd_some e
  cases ret_some e1
  obtain ⟨rfl, yv, τ2, hc, hy⟩ := callX_some f1
  refine wpAny_Call_Name_kw (ld_glob I hg g1 ?_ hd)
  refine PySem.W.callWith_K0 I.kIn A.kp ?_
  exact run_fnS (E := WE W) (vs := []) (us := []) F O.room b (passAt tk σ) I .nil (callX_sp R Ext.refl .nil hc hy q)
/-- an expression that ends in an error -/
theorem sndXE : ∀ (e : E) {X : Cx} {ex : Expr} (O : XOk Γ n X) (tk : Takes X W), mE e Γ ex = true → PE X ex (tXE X.K X.mg Γ.xs ta W (xE (callF Γ.B n) e))
  | .call f es, X, ex, O, tk, h => by
    rw [mE_call] at h
    split at h
    · rename_i x p args pos
      simp only [Bool.and_eq_true] at h
      obtain ⟨⟨h1, h2⟩, h3⟩ := h
      obtain ⟨g1, g2, g3⟩ := O.glob h2
      obtain ⟨v1, v2, v3, v4, _⟩ := sndK (ta := ta) es O h3
      cases args with
      | nil =>
        cases es with
        | nil => exact rx_call0 O tk h1 g1 g3
        | cons _ _ => simp at v4
      | cons y ys => exact rx_call O tk h1 g1 g3 v1 v2
    · cases h
  | .callN f es, X, ex, O, tk, h => by
    rw [mE_callN] at h
    split at h
    · rename_i x p args pos
      simp only [Bool.and_eq_true] at h
      obtain ⟨⟨h1, h2⟩, h3⟩ := h
      obtain ⟨g1, g2, g3⟩ := O.glob h2
      obtain ⟨v1, v2, v3, v4, _⟩ := sndK (ta := ta) es O h3
      cases args with
      | nil =>
        cases es with
        | nil => exact rx_call0 O tk (any_of h1) g1 g3
        | cons _ _ => simp at v4
      | cons y ys => exact rx_call O tk (any_of h1) g1 g3 v1 v2
    · cases h
  | .callI fs ix es, X, ex, O, tk, h => by
    rw [mE_callI] at h
    split at h
    · simp only [Bool.and_eq_true, decide_eq_true_eq] at h
      obtain ⟨⟨⟨⟨h1, h2⟩, h3⟩, h4⟩, h5⟩ := h
      obtain ⟨v1, v2, v3, v4, _⟩ := sndK (ta := ta) es O h5
      exact rx_callI O tk (fun x hx => O.glob hx) h1 h2 (snd ix O h3).1 (plainIx h4) v1 v2
    · cases h
  | .ite c a b, X, ex, O, tk, h => by
    rw [mE_ite] at h
    simp only [Bool.and_eq_true] at h
    obtain ⟨_, h⟩ := h
    split at h
    · simp only [Bool.and_eq_true] at h
      obtain ⟨⟨h1, h2⟩, h3⟩ := h
      exact rx_ite (a := a) (b := b) (snd (ta := ta) c O h1).2.1 (sndXE a O tk h2) (sndXE b O tk h3)
    · cases h
  | .cmp op a b, X, ex, O, tk, h => by
    rw [mE_cmp] at h
    split at h
    · simp only [Bool.and_eq_true, decide_eq_true_eq, Bool.not_eq_true'] at h
      obtain ⟨⟨⟨rfl, h2⟩, h3⟩, h4⟩ := h
      exact PE.mono (pe_cmpR (op_cmpD op O.units) (sndXE a O tk h2) (snd (ta := ta) b O h3).1 h4) fun σ H Q h => h
    · cases h
  | .var _, X, ex, O, tk, h => rx_fail fun _ => rfl
  | .peek _, X, ex, O, tk, h => rx_fail fun _ => rfl
  | .non, X, ex, O, tk, h => rx_fail fun _ => rfl
  | .bl _, X, ex, O, tk, h => rx_fail fun _ => rfl
  | .int _, X, ex, O, tk, h => rx_fail fun _ => rfl
  | .str _, X, ex, O, tk, h => rx_fail fun _ => rfl
  | .glob _ _, X, ex, O, tk, h => rx_fail fun _ => rfl
  | .bin _ _ _, X, ex, O, tk, h => rx_fail fun _ => rfl
  | .chain _ _ _ _ _, X, ex, O, tk, h => rx_fail fun _ => rfl
  | .neg _, X, ex, O, tk, h => rx_fail fun _ => rfl
  | .not _, X, ex, O, tk, h => rx_fail fun _ => rfl
  | .and _ _, X, ex, O, tk, h => rx_fail fun _ => rfl
  | .or _ _, X, ex, O, tk, h => rx_fail fun _ => rfl
  | .bi _ _, X, ex, O, tk, h => rx_fail fun _ => rfl
  | .isi _ _ _, X, ex, O, tk, h => rx_fail fun _ => rfl
  | .tget _ _, X, ex, O, tk, h => rx_fail fun _ => rfl
  | .get _ _, X, ex, O, tk, h => rx_fail fun _ => rfl
  | .slice _ _ _, X, ex, O, tk, h => rx_fail fun _ => rfl
  | .rev _, X, ex, O, tk, h => rx_fail fun _ => rfl
  | .sset _, X, ex, O, tk, h => rx_fail fun _ => rfl
  | .lrg _, X, ex, O, tk, h => rx_fail fun _ => rfl
  | .lst _, X, ex, O, tk, h => rx_fail fun _ => rfl
  | .tup _, X, ex, O, tk, h => rx_fail fun _ => rfl
  | .star _, X, ex, O, tk, h => rx_fail fun _ => rfl
  | .dic0, X, ex, O, tk, h => rx_fail fun _ => rfl
  | .dic1 _ _, X, ex, O, tk, h => rx_fail fun _ => rfl
  | .dget _ _ _, X, ex, O, tk, h => rx_fail fun _ => rfl
  | .sitm _, X, ex, O, tk, h => rx_fail fun _ => rfl
  | .idx _ _, X, ex, O, tk, h => rx_fail fun _ => rfl
  | .callK _ _ _ _, X, ex, O, tk, h => rx_fail fun _ => rfl
  | .callT _ _ _, X, ex, O, tk, h => rx_fail fun _ => rfl
  | .callR _ _ _, X, ex, O, tk, h => rx_fail fun _ => rfl
  | .comp _ _ _ _ _, X, ex, O, tk, h => rx_fail fun _ => rfl
  | .comp2 _ _ _ _ _ _ _ _ _, X, ex, O, tk, h => rx_fail fun _ => rfl
  | .dcomp _ _ _ _ _ _, X, ex, O, tk, h => rx_fail fun _ => rfl
  | .absent, X, ex, O, tk, h => rx_fail fun _ => rfl
end
end KN

set_option maxRecDepth 100000
set_option maxHeartbeats 4000000
namespace KN
open PySem L2 PyProof.Rows
theorem blk_fun {env : PySem.Env} (hk : env.scope.kind = .function) : env.blockKind = .function := by
  unfold Env.blockKind
  rw [hk]
  rfl
theorem sw_eq {env : PySem.Env} {ts vs : List Expr} {k k2 : Nat} {p p2 : Pos} {r : Option (List Str)} (hk : env.scope.kind = .function) (h : swN env.scope ts vs = some r) : swappedStores [.Tuple ts k p] (.Tuple vs k2 p2) env = pure r := by
  have hb := blk_fun hk
  unfold swappedStores
  unfold swN at h
  simp only [hb]
  have e0 : (ScopeKind.function != ScopeKind.function) = false := by decide
  simp only [e0, Bool.or_false]
  by_cases c1 : (!(ts.length == 2 || ts.length == 3) || vs.length != ts.length) = true
  · rw [if_pos c1] at h
    rw [if_pos c1]
    cases h
    rfl
  · rw [if_neg c1] at h
    rw [if_neg c1]
    split at h
    · rename_i c2
      cases h
      exact if_pos c2
    · rename_i c2
      refine (if_neg c2).trans ?_
      simp only at h
      split at h
      · rename_i c3
        cases h
        exact if_pos c3
      · rename_i c3
        refine (if_neg c3).trans ?_
        split at h
        · rename_i c4
          cases h
          exact if_pos c4
        · rename_i c4
          refine (if_neg c4).trans ?_
          split at h
          · cases h
          · rename_i c5
            cases h
            exact if_neg c5
theorem swap_comp {env : PySem.Env} {el : Expr} {gs : List Comprehension} {scope : Scope} {pos py : Pos} {y : Str} {l : Nat} (hk : env.scope.kind = .function) :
    swapsWith (.ListComp el gs scope pos) (some (.Name y py)) l env = pure (swC env.scope y py (.ListComp el gs scope pos)) := by
  have hb := blk_fun hk
  unfold swapsWith
  simp only [hb, Expr.pos]
  have e0 : (ScopeKind.function == ScopeKind.function) = true := by decide
  simp only [e0, Bool.true_and]
  rfl
theorem pe_urn {Γ : Cn} {n : Nat} {X : Cx} {f i : Nat} {z w : Str} {p p2 pos : Pos} (O : XOk Γ n X) (hf : fnIs Γ f z true false = true) (hg : Gl X z) (hd : (z == ("__debug__" : Str)) = false)
    (hN : X.N[i]? = some w) (hv : Vis X.env.scope w) (hwd : (w == ("__debug__" : Str)) = false) (hcd : (w == ("__classdict__" : Str)) = false) :
    PE X (.Call (.Name z p) [.Name w p2] [] pos) (tU X.K (callF Γ.B n) f i) := by
  obtain ⟨F, hF, rfl, h2, h3⟩ := getT (F := ⟨"", [], [], false, false, []⟩) hf
  obtain ⟨fa, fd, g1, g2, g3, g4, _⟩ := O.fns f F hF
  rw [h2, h3] at g4
  refine PE.mono (pe_call g4 O.room hg g1 g2 g3 .nil pass0 (pa_cons (pe_var hN hv hwd hcd) pa_nil (star_no rfl)) hd (star_no rfl) (back_no rfl)) fun σ H Q h => ?_
  obtain ⟨a, h1, q⟩ := h
  refine ⟨_, h1, ?_⟩
  show spF X.K (callF Γ.B n) f true false ((V.ref a :: []) ++ []) H Q E0
  rw [app_nil]
  exact q
section
variable {Γ : Cn} {n : Nat} {X : Cx} {ta : Option Addr}
/-- name = value, whatever the value -/
theorem asg_parts {i : Nat} {x : Str} {px pos : Pos} {v : Expr} {e : E} (O : XOk Γ n X) (hk : X.env.scope.kind = .function) (hi : Γ.N[i]? = some x) (hs : stOk Γ x = true) (he : mE e Γ v = true) (hc : (!isComp v || isEComp e) = true) :
    ∃ te, (∀ σ H Q, tE X.K ta (callF Γ.B n) (kdOf e) e σ H Q → te σ H Q) ∧ PS X (.Assign [.Name x px] v pos) (tAsg te (gName i)) := by
  have hN : X.N[i]? = some x := by rw [O.N]; exact hi
  have st := O.sto.at hs
  by_cases hv : isComp v = true
  · have hec : isEComp e = true := by simpa [hv] using hc
    cases e with
    | comp elt tg ik src cond =>
      have h := he
      rw [mE_comp] at h
      split at h
      · simp only [Bool.and_eq_true, decide_eq_true_eq] at h
        obtain ⟨⟨⟨⟨⟨⟨⟨pe, h1⟩, h2⟩, h3⟩, _⟩, h4⟩, h5⟩, h6⟩ := h
        rename_i el t it ifs scope p _
        have bo : BlkOk X.N X.env.scope scope (blkOf Γ tg) := by rw [O.N, O.sc]; exact blkOk_by h1
        have q1 : PI X t it (tI X.K ta (callF Γ.B n) ik src) := src_ok O (fun xs hx => sndV src O hx) h6
        have q4 : ∀ (s : Shared) (H : Hp) (C' : Addr) (cl : List (Str × Addr)) (fp : List Addr), PTs (X.blk s H scope (compEnvC scope cl C' X.env) fp) ifs (tCond X.K ta (callF Γ.B n) cond) := by
          intro s H C' cl fp
          split at h5
          · exact pts_gone h5
          · simp only [Bool.and_eq_true, Bool.not_eq_true'] at h5
            exact pts_cond h5.1 (snd cond (O.blk s H scope cl C' fp) h5.2).2.1
          · cases h5
        have q3 : ∀ (s : Shared) (H : Hp) (C' : Addr) (cl : List (Str × Addr)) (fp : List Addr), PG (X.blk s H scope (compEnvC scope cl C' X.env) fp) t (gT X.K tg) := fun s H C' cl fp => pg_T (O.blk s H scope cl C' fp).sto h2
        have q5 : ∀ (s : Shared) (H : Hp) (C' : Addr) (cl : List (Str × Addr)) (fp : List Addr), PE (X.blk s H scope (compEnvC scope cl C' X.env) fp) el (tE X.K ta (callF Γ.B n) .dat elt) := fun s H C' cl fp => (snd elt (O.blk s H scope cl C' fp) h4).dat pe
        have key := rd_comp (pos := p) O.calm O.nd q1 bo (blkOf_snd Γ tg) q3 q4 q5 (foldSet h3) (pair_tg h6 h2)
        have sw := swap_comp (env := X.env) (el := el) (gs := [⟨t, it, ifs, 0⟩]) (scope := scope) (pos := p) (py := px) (y := x) (l := pos.line) hk
        cases hw : swC X.env.scope x px (.ListComp el [⟨t, it, ifs, 0⟩] scope p) with
        | true =>
          rw [hw] at sw
          have hyl : X.env.scope.names.lookup x = some .local := by
            simp only [swC, Bool.and_eq_true, beq_iff_eq] at hw
            exact hw.1.1
          exact ⟨_, key.1, ps_setLc O.calm O.nd hN hyl sw q1 bo q3 q4 q5 (foldSet h3)⟩
        | false =>
          rw [hw] at sw
          exact ⟨_, fun σ H Q h => h, ps_set O.nd hN st.1 key.2 sw st.2⟩
      · cases h
    | comp2 elt tg ik src cond tg1 ik1 src1 cond1 =>
      have h := he
      rw [mE_comp2] at h
      split at h
      · simp only [Bool.and_eq_true, decide_eq_true_eq] at h
        obtain ⟨⟨⟨⟨⟨⟨⟨⟨⟨⟨⟨pe, h1⟩, h2⟩, h3⟩, h4⟩, h5⟩, _⟩, h7⟩, h8⟩, h9⟩, h10⟩, h11⟩ := h
        rename_i el t it ifs t1 it1 ifs1 scope p _
        have bo : BlkOk X.N X.env.scope scope (blkOf2 Γ tg tg1) := by rw [O.N, O.sc]; exact blkOk_by h1
        have q1 : PI X t it (tI X.K ta (callF Γ.B n) ik src) := src_ok O (fun xs hx => sndV src O hx) h10
        have q4 : ∀ (s : Shared) (H : Hp) (C' : Addr) (cl : List (Str × Addr)) (fp : List Addr), PTs (X.blk s H scope (compEnvC scope cl C' X.env) fp) ifs (tCond X.K ta (callF Γ.B n) cond) := by
          intro s H C' cl fp
          split at h8
          · exact pts_gone h8
          · simp only [Bool.and_eq_true, Bool.not_eq_true'] at h8
            exact pts_cond h8.1 (snd cond (O.blk s H scope cl C' fp) h8.2).2.1
          · cases h8
        have q9 : ∀ (s : Shared) (H : Hp) (C' : Addr) (cl : List (Str × Addr)) (fp : List Addr), PTs (X.blk s H scope (compEnvC scope cl C' X.env) fp) ifs1 (tCond X.K ta (callF Γ.B n) cond1) := by
          intro s H C' cl fp
          split at h9
          · exact pts_gone h9
          · simp only [Bool.and_eq_true, Bool.not_eq_true'] at h9
            exact pts_cond h9.1 (snd cond1 (O.blk s H scope cl C' fp) h9.2).2.1
          · cases h9
        have q3 : ∀ (s : Shared) (H : Hp) (C' : Addr) (cl : List (Str × Addr)) (fp : List Addr), PG (X.blk s H scope (compEnvC scope cl C' X.env) fp) t (gT X.K tg) := fun s H C' cl fp => pg_T (O.blk s H scope cl C' fp).sto h2
        have q8 : ∀ (s : Shared) (H : Hp) (C' : Addr) (cl : List (Str × Addr)) (fp : List Addr), PG (X.blk s H scope (compEnvC scope cl C' X.env) fp) t1 (gT X.K tg1) := fun s H C' cl fp => pg_T (O.blk s H scope cl C' fp).sto h3
        have q5 : ∀ (s : Shared) (H : Hp) (C' : Addr) (cl : List (Str × Addr)) (fp : List Addr), PE (X.blk s H scope (compEnvC scope cl C' X.env) fp) el (tE X.K ta (callF Γ.B n) .dat elt) := fun s H C' cl fp => (snd elt (O.blk s H scope cl C' fp) h7).dat pe
        have q7 : ∀ (s : Shared) (H : Hp) (C' : Addr) (cl : List (Str × Addr)) (fp : List Addr), PI (X.blk s H scope (compEnvC scope cl C' X.env) fp) t1 it1 (tIf X.K ta (callF Γ.B n) ik1 src1) :=
          fun s H C' cl fp => srcf_ok (O.blk s H scope cl C' fp) (fun xs hx => sndV src1 (O.blk s H scope cl C' fp) hx) (fun xs hx => sndK src1 (O.blk s H scope cl C' fp) hx) h11
        have key := rd_comp2 (pos := p) O.calm O.nd q1 bo (blkOf2_snd Γ tg tg1) q3 q4 q7 q8 q9 q5 (foldSet h4) (fun env => foldSet h5) (pair_tg h10 h2) (pair_tg h11 h3)
        have sw := swap_comp (env := X.env) (el := el) (gs := [⟨t, it, ifs, 0⟩, ⟨t1, it1, ifs1, 0⟩]) (scope := scope) (pos := p) (py := px) (y := x) (l := pos.line) hk
        cases hw : swC X.env.scope x px (.ListComp el [⟨t, it, ifs, 0⟩, ⟨t1, it1, ifs1, 0⟩] scope p) with
        | true =>
          rw [hw] at sw
          have hyl : X.env.scope.names.lookup x = some .local := by
            simp only [swC, Bool.and_eq_true, beq_iff_eq] at hw
            exact hw.1.1
          exact ⟨_, key.1, ps_setLc2 O.calm O.nd hN hyl sw q1 bo (fun i hi => by rw [blkOf2_snd]; exact List.mem_append_right _ hi) q3 q4 q7 q8 q9 q5 (foldSet h4) (fun env => foldSet h5)⟩
        | false =>
          rw [hw] at sw
          exact ⟨_, fun σ H Q h => h, ps_set O.nd hN st.1 key.2 sw st.2⟩
      · cases h
    | _ => cases hec
  · have hs' : swapsWith v (some (.Name x px)) pos.line X.env = pure false := by
      cases v <;> first | rfl | exact absurd rfl hv
    exact ⟨_, fun σ H Q h => h, ps_set O.nd hN st.1 (snd e O he).1 hs' st.2⟩
/-- several at once -/
theorem par_parts (O : XOk Γ n X) : ∀ {ts : List (Nat × Bool)} {es : List E} {vs : List Expr}, mPs ts es Γ vs = true → PA X vs (tM X.K ta (callF Γ.B n) (ts.map (·.2)) es)
  | [], [], [], _ => rm_nil
  | [], [], _ :: _, h => by cases h
  | [], _ :: _, _, h => by cases h
  | _ :: _, [], _, h => by cases h
  | _ :: _, _ :: _, [], h => by cases h
  | (i, b) :: ts, t :: r, x :: q, h => by
    simp only [mPs, Bool.and_eq_true] at h
    obtain ⟨⟨⟨h1, h2⟩, h3⟩, h4⟩ := h
    cases b with
    | false =>
      have h2 : plain t = true := by simpa using h2
      exact rm_dat ((snd t O h3).dat h2) (par_parts O h4) h1 (notStar_of h3)
    | true =>
      have h2 : kdOf t = .fresh := by simpa using h2
      have he := (snd (ta := ta) t O h3).1
      rw [h2] at he
      exact rm_own he (par_parts O h4) h1 (notStar_of h3)
theorem locs_cons {i : Nat} {b : Bool} {ts : List (Nat × Bool)} {tg : List Expr} {ns : List Str} (h : locsOk Γ ((i, b) :: ts) tg ns = true) : ∃ x px es ys, tg = .Name x px :: es ∧ ns = x :: ys ∧ Γ.N[i]? = some x ∧ Γ.sc.names.lookup x = some .local ∧ locsOk Γ ts es ys = true := by
  unfold locsOk at h
  split at h
  · rename_i a1; cases a1
  · rename_i a1
    cases a1
    simp only [Bool.and_eq_true, decide_eq_true_eq] at h
    obtain ⟨⟨⟨h1, rfl⟩, h3⟩, h4⟩ := h
    exact ⟨_, _, _, _, rfl, rfl, h1, h3, h4⟩
  · cases h
theorem locs_nil {tg : List Expr} {ns : List Str} (h : locsOk Γ [] tg ns = true) : tg = [] ∧ ns = [] := by
  unfold locsOk at h
  split at h
  · exact ⟨rfl, rfl⟩
  · rename_i a1; cases a1
  · cases h
theorem mPs_len : ∀ {ts : List (Nat × Bool)} {es : List E} {vs : List Expr}, mPs ts es Γ vs = true → vs.length = ts.length
  | [], [], [], _ => rfl
  | [], [], _ :: _, h => by cases h
  | [], _ :: _, _, h => by cases h
  | _ :: _, [], _, h => by cases h
  | _ :: _, _ :: _, [], h => by cases h
  | (i, b) :: ts, t :: r, x :: q, h => by
    simp only [mPs, Bool.and_eq_true] at h
    simp [mPs_len h.2]
theorem tM_len {K : Fg} {C : Nat → List D → M D} {bs : List Bool} {es : List E} {σ : L2.St} {H : Hp} {Q Q' : List V → Hp → Prop} (imp : ∀ vs H, vs.length = bs.length → Q vs H → Q' vs H) (h : tM K ta C bs es σ H Q) : tM K ta C bs es σ H Q' := by
  obtain ⟨G, ρ, τ, ds, τ', R, e, q⟩ := h
  exact ⟨G, ρ, τ, ds, τ', R, e, fun vs as G' H' x r w => imp vs H' w.lenB (q vs as G' H' x r w)⟩
theorem lenV2 {α : Type} {vs : List α} (h : vs.length = 2) : ∃ a b, vs = [a, b] := len2 h
theorem len3 {α : Type} {vs : List α} (h : vs.length = 3) : ∃ a b c, vs = [a, b, c] := by
  match vs, h with
  | [a, b, c], _ => exact ⟨a, b, c, rfl⟩
end
theorem sub_asg {o k : Expr} {pos : Pos} {env : PySem.Env} (h : notSlice k = true) : ∀ v, assign (.Subscript o k pos) env v = (do
      let ov ← holding [v] (eval o env)
      let iv ← holding [v, ov] (eval k env)
      standAt pos
      holding [v, ov, iv] (setItem ov iv v)
      release [v, ov, iv] []) := by
  intro v
  cases k <;> first | rfl | cases h
section
variable {Γ : Cn} {n : Nat} {ta : Option Addr} {G₀ H₀ : Hp} {fr : Bool}
def krOf (fr : Bool) : Kd := if fr then .fresh else .dat
/-- a def's own body (or a try's) -/
structure Fx (X : Cx) (H₀ : Hp) : Prop where
  hp : PassesOwn (model X.prog X.w) X.A X.env X.xe
  st : X.stack = X.env :: X.outer
  fr : X.env.frame = some X.env.locals
  hH : X.H_0 = H₀
  hk : X.env.scope.kind = .function
theorem XOk.tr {X : Cx} (O : XOk Γ n X) (pn : List (Addr × Obj)) (xe : Value → Shared → Prop) : XOk Γ n (X.tr pn xe) := ⟨O.N, O.nd, O.sc, O.fn, O.calm, O.room, O.bi, O.gl, O.fns, O.fnx, O.xok⟩
theorem Fx.tr {X : Cx} {H₀ : Hp} (Y : Fx X H₀) (pn : List (Addr × Obj)) {xe : Value → Shared → Prop} (hp : PassesOwn (model X.prog X.w) X.A X.env xe) : Fx (X.tr pn xe) H₀ := ⟨hp, Y.st, Y.fr, Y.hH, Y.hk⟩
theorem krOf_ne : krOf fr ≠ .peek := by cases fr <;> decide
theorem fld_len {fo : Option Str} {m : Nat} : ((match fo with
    | some _ => decide (m = 1)
    | none => decide (m = 0)) = true) → (match fo with
    | some _ => m = 1
    | none => m = 0) := by
  intro h
  cases fo with
  | none => exact of_decide_eq_true h
  | some f => exact of_decide_eq_true h
theorem rx_asg {W : WX} {X : Cx} {i : Nat} {x : Str} {px pos : Pos} {v : Expr} {e : E} (O : XOk Γ n X) (tk : Takes X W) (hi : Γ.N[i]? = some x) (hs : stOk Γ x = true) (he : mE e Γ v = true) (hc : (!isComp v || isEComp e) = true) :
    PS X (.Assign [.Name x px] v pos) (tX X.K X.mg Γ.xs ta G₀ H₀ W fun ρ => (xE (callF Γ.B n) e ρ).bnd fun x => M.ret (x, ρ)) := by
  have hN : X.N[i]? = some x := by rw [O.N]; exact hi
  have st := O.sto.at hs
  by_cases hv : isComp v = true
  · have hec : isEComp e = true := by simpa [hv] using hc
    cases e <;> first | exact rx_no fun _ _ => rfl | cases hec
  · have hs' : swapsWith v (some (.Name x px)) pos.line X.env = pure false := by
      cases v <;> first | rfl | exact absurd rfl hv
    exact rx_first (ps_set O.nd hN st.1 (sndXE (ta := ta) e O tk he) hs' st.2) fun Dn σ H q => q (fun _ _ => True)
mutual
theorem sndS : ∀ (s : S) {X : Cx} {st : Stmt} (O : XOk Γ n X) (Y : Fx X H₀), mS fr s Γ st = true → PS X st (tS X.K ta G₀ H₀ (krOf fr) (evS (callF Γ.B n) s))
  | .asg i e, X, st, O, Y, h => by
    simp only [mS] at h
    split at h
    · simp only [Bool.and_eq_true, decide_eq_true_eq] at h
      obtain ⟨⟨⟨⟨h1, h2⟩, h3⟩, h4⟩, h5⟩ := h
      obtain ⟨te, imp, ps⟩ := asg_parts (ta := ta) O Y.hk h1 h2 h4 h5
      exact rs_asg (plain_ne h3) imp ps
    · cases h
  | .asgO i e, X, st, O, Y, h => by
    simp only [mS] at h
    split at h
    · simp only [Bool.and_eq_true, decide_eq_true_eq] at h
      obtain ⟨⟨⟨⟨h1, h2⟩, h3⟩, h4⟩, h5⟩ := h
      obtain ⟨te, imp, ps⟩ := asg_parts (ta := ta) O Y.hk h1 h2 h4 h5
      rw [h3] at imp
      exact rs_asgO imp ps
    · cases h
  | .unp is e, X, st, O, Y, h => by
    simp only [mS] at h
    split at h
    · simp only [Bool.and_eq_true] at h
      obtain ⟨⟨⟨h1, h2⟩, h3⟩, h4⟩ := h
      rename_i ts k p v pos
      have hw : swappedStores [.Tuple ts k p] v X.env = pure none := by
        cases v <;> first
          | rfl
          | (simp only [decide_eq_true_eq] at h4; exact sw_eq Y.hk (by rw [O.sc]; exact h4))
      refine rs_unp (ps_asg ((snd e O h3).dat h2) (pg_T O.sto (tg := .tup is) (e := .Tuple ts k p) h1) ?_ hw rfl)
      cases v <;> rfl
    · cases h
  | .par ts es, X, st, O, Y, h => by
    simp only [mS] at h
    split at h
    · simp only [Bool.and_eq_true, decide_eq_true_eq] at h
      obtain ⟨⟨⟨⟨h1, h2⟩, h3⟩, h4⟩, h5⟩ := h
      rename_i tg k1 p1 vs k2 p2 pos
      have pa := par_parts (ta := ta) O h3
      split at h5
      · rename_i ns hns
        simp only [Bool.and_eq_true, decide_eq_true_eq] at h5
        obtain ⟨h6, h7⟩ := h5
        have hsw := sw_eq (k := k1) (k2 := k2) (p := p1) (p2 := p2) Y.hk (show swN X.env.scope tg vs = some (some ns) by rw [O.sc]; exact hns)
        rcases h7 with h7 | h7
        · obtain ⟨⟨i, bi⟩, ⟨j, bj⟩, rfl⟩ := len2 h7
          obtain ⟨x, px, tg1, ns1, rfl, rfl, a1, a3, h6⟩ := locs_cons h6
          obtain ⟨y, py, tg2, ns2, rfl, rfl, b1, b3, h6⟩ := locs_cons h6
          obtain ⟨rfl, rfl⟩ := locs_nil h6
          obtain ⟨a, b, rfl⟩ := len2 (mPs_len h3)
          simp only [List.map_cons, List.map_nil, List.nodup_cons, List.mem_cons, List.not_mem_nil, or_false] at h2
          refine rs_par (ps_par O.calm O.nd (by rw [O.N]; exact a1) (by rw [O.N]; exact b1) h2.1 (by rw [O.sc]; exact a3) (by rw [O.sc]; exact b3) pa hsw rfl) fun Dn σ H h => ?_
          refine tM_len (fun us H1 hl q => ?_) h
          obtain ⟨u, w, rfl⟩ := len2 hl
          exact ⟨u, w, rfl, q.1⟩
        · obtain ⟨⟨i, bi⟩, ⟨j, bj⟩, ⟨l, bl⟩, rfl⟩ := len3 h7
          obtain ⟨x, px, tg1, ns1, rfl, rfl, a1, a3, h6⟩ := locs_cons h6
          obtain ⟨y, py, tg2, ns2, rfl, rfl, b1, b3, h6⟩ := locs_cons h6
          obtain ⟨z, pz, tg3, ns3, rfl, rfl, c1, c3, h6⟩ := locs_cons h6
          obtain ⟨rfl, rfl⟩ := locs_nil h6
          obtain ⟨a, b, c, rfl⟩ := len3 (mPs_len h3)
          simp only [List.map_cons, List.map_nil, List.nodup_cons, List.mem_cons, List.not_mem_nil, or_false, not_or] at h2
          refine rs_par (ps_par3 O.calm O.nd (by rw [O.N]; exact a1) (by rw [O.N]; exact b1) (by rw [O.N]; exact c1) h2.1.1 h2.1.2 h2.2.1 (by rw [O.sc]; exact a3) (by rw [O.sc]; exact b3) (by rw [O.sc]; exact c3) pa hsw rfl) fun Dn σ H h => ?_
          refine tM_len (fun us H1 hl q => ?_) h
          obtain ⟨u, v, w, rfl⟩ := len3 hl
          exact ⟨u, v, w, rfl, q.1⟩
      · rename_i hns
        have hsw := sw_eq (k := k1) (k2 := k2) (p := p1) (p2 := p2) Y.hk (show swN X.env.scope tg vs = some none by rw [O.sc]; exact hns)
        refine rs_par (ps_asg (pe_tupP pa) (pg_T O.sto (tg := .tup (ts.map fun x : Nat × Bool => x.1)) (e := .Tuple tg k1 p1) h1) rfl hsw rfl) fun Dn σ H h => ?_
        refine tM_len (fun us H1 hl q => ?_) h
        have h5 : ts.length ≤ 8 := by simpa using h5
        rw [List.length_map] at hl
        refine ⟨by rw [hl]; exact Nat.le_trans h5 (by decide), fun o p ho hp => ⟨p, us, rfl, PlT.sq ⟨o, upd_same, ho⟩, by rw [List.length_map]; exact hl, setL_gNs (by rw [List.length_map]; exact hl) (q.2 p _ hp)⟩⟩
      · cases h5
    · cases h
  | .sto i ix e, X, st, O, Y, h => by
    simp only [mS] at h
    split at h
    · simp only [Bool.and_eq_true, Bool.not_eq_true'] at h
      obtain ⟨⟨⟨⟨h1, h2⟩, h3⟩, h4⟩, h6⟩ := h
      obtain ⟨g1, g2, g3, g4⟩ := O.var h1
      rename_i x p1 k p2 v pos
      refine rs_sto Y.hH (ps_asg ((snd e O h3).dat h2) (pg_sub (pe_var g1 g2 g3 g4) (snd ix O h4).1 (set_own O.units) (sub_asg h6)) ?_ ?_ rfl)
      · cases v <;> rfl
      · cases v <;> rfl
    · cases h
  | .stoT i ix e, X, st, O, Y, h => by
    simp only [mS] at h
    split at h
    · simp only [Bool.and_eq_true, Bool.not_eq_true'] at h
      obtain ⟨⟨⟨⟨h1, h2⟩, h3⟩, h4⟩, h6⟩ := h
      obtain ⟨g1, g2, g3, g4⟩ := O.var h1
      rename_i x p1 k p2 v pos
      refine rs_stoT (ps_asg ((snd e O h3).dat h2) (pg_sub (pe_var g1 g2 g3 g4) (snd ix O h4).1 set_list (sub_asg h6)) ?_ ?_ rfl)
      · cases v <;> rfl
      · cases v <;> rfl
    · cases h
  | .app i e, X, st, O, Y, h => by
    simp only [mS] at h
    split at h
    · simp only [Bool.and_eq_true, decide_eq_true_eq] at h
      obtain ⟨⟨⟨⟨⟨rfl, h1⟩, h2⟩, h3⟩, h4⟩, h5⟩ := h
      obtain ⟨g1, g2, g3, g4⟩ := O.var h1
      refine rs_app (notStar_of h4) (ps_expr (pe_bm PySem.F.plainAttrs_list PySem.F.slot_list_append PySem.F.type_list_append mt_append (pe_var g1 g2 g3 g4) (rk_cons ((snd e O h4).dat h3) rk_nil h2 (notStar_of h4)) rfl ?_ h5 (star_no h2) rfl) rfl)
      rw [star_no h2]
      rfl
    · cases h
  | .extd i e, X, st, O, Y, h => by
    simp only [mS] at h
    split at h
    · simp only [Bool.and_eq_true, decide_eq_true_eq] at h
      obtain ⟨⟨⟨⟨rfl, h1⟩, h2⟩, h4⟩, h5⟩ := h
      obtain ⟨g1, g2, g3, g4⟩ := O.var h1
      refine rs_extd (notStar_of h4) (ps_expr (pe_bm PySem.F.plainAttrs_list PySem.F.slot_list_extend PySem.F.type_list_extend mt_ext (pe_var g1 g2 g3 g4) (rv_cons (snd e O h4).1 rv_nil h2 (notStar_of h4)) rfl ?_ h5 (star_no h2) rfl) rfl)
      rw [star_no h2]
      rfl
    · cases h
  | .pop tg i, X, st, O, Y, h => by
    simp only [mS] at h
    split at h
    · rename_i t x p1 m p2 p3 p4
      simp only [Bool.and_eq_true, decide_eq_true_eq, Bool.not_eq_true'] at h
      obtain ⟨⟨⟨⟨rfl, h1⟩, h2⟩, h4⟩, h5⟩ := h
      obtain ⟨g1, g2, g3, g4⟩ := O.var h1
      refine rs_pop (fun z => ?_) (ps_asg (pe_bm0 PySem.F.plainAttrs_list PySem.F.slot_list_pop PySem.F.type_list_pop mt_pop (pe_var g1 g2 g3 g4) rfl h5) (pg_T O.sto h2) rfl ?_ ?_)
      · simp [z] at h4
      · cases t <;> rfl
      · cases t <;> first | rfl | (cases tg <;> cases h2)
    · cases h
  | .rais _ _, X, st, O, Y, h => PS.mono ps_never fun Dn σ H h => by
    obtain ⟨G, ρ, τ, o, τ', S, e0, fin⟩ := h
    cases e0
  | .tryx body hs, X, st, O, Y, h => by
    simp only [mS] at h
    split at h
    · simp only [Bool.and_eq_true, Bool.not_eq_true'] at h
      obtain ⟨⟨h1, h2⟩, h3⟩ := h
      refine rs_try O Y.st Y.fr h2 (fun z => by rw [z] at h3; cases h3) fun W pn xe tk hp => ?_
      exact PSs.or (sndSs body (O.tr pn xe) (Y.tr pn hp) h1) (sndXs body (O.tr pn xe) (Y.tr pn hp) tk h1)
    · cases h
  | .expr e, X, st, O, Y, h => by
    simp only [mS] at h
    split at h
    · simp only [Bool.and_eq_true, Bool.not_eq_true'] at h
      obtain ⟨h1, h2⟩ := h
      rename_i v pos
      refine rs_expr (ps_expr (snd e O h1).1 ?_)
      cases v <;> first | rfl | cases h2
    · cases h
  | .ret e, X, st, O, Y, h => by
    simp only [mS] at h
    split at h
    · simp only [Bool.and_eq_true] at h
      obtain ⟨h1, h2⟩ := h
      cases fr with
      | true =>
        have h2 : kdOf e = .fresh := by simpa using h2
        have he := (snd (ta := ta) e O h1).1
        rw [h2] at he
        exact rs_ret (by decide) (ps_ret he)
      | false =>
        have h2 : plain e = true := by simpa using h2
        exact rs_ret (by decide) (ps_ret ((snd (ta := ta) e O h1).dat h2))
    · cases h
  | .ite c a b, X, st, O, Y, h => by
    simp only [mS] at h
    split at h
    · simp only [Bool.and_eq_true] at h
      obtain ⟨⟨h1, h2⟩, h3⟩ := h
      exact rs_ite (u := tNext) (v := tNext) (ps_if (snd c O h1).2.1 (sndSs a O Y h2) (sndSs b O Y h3))
    · cases h
  | .ask2 i f a, X, st, O, Y, h => by
    simp only [mS] at h
    split at h
    · simp only [Bool.and_eq_true] at h
      obtain ⟨⟨⟨⟨⟨⟨h1, h2⟩, h3⟩, h4⟩, h5⟩, h6⟩, h7⟩ := h
      exact rs_ask2 (ps_if (pw_or (pt_not (pt_val (pe_urn O h1 (O.glob h3).1 (O.glob h3).2.2 (O.var h5).1 (O.var h5).2.1 (O.var h5).2.2.1 (O.var h5).2.2.2))) (pw_or1 (pt_not (pt_val (pe_urn O h2 (O.glob h4).1 (O.glob h4).2.2 (O.var h6).1 (O.var h6).2.1 (O.var h6).2.2.1 (O.var h6).2.2.2))))).pt (sndSs a O Y h7) rss_nil)
    · cases h
  | .loop tg ik src body, X, st, O, Y, h => by
    simp only [mS] at h
    split at h
    · simp only [Bool.and_eq_true] at h
      obtain ⟨⟨⟨h1, h2⟩, h3⟩, h4⟩ := h
      exact rs_loop (pair_tg h3 h1) (ps_for Y.hp O.calm (srcf_ok O (fun xs hx => sndV src O hx) (fun xs hx => sndK src O hx) h3) (pg_T O.sto h1) (sndSs body O Y h4) (foldSet h2))
    · cases h
  | .while m c body, X, st, O, Y, h => by
    simp only [mS] at h
    split at h
    · simp only [Bool.and_eq_true] at h
      exact rs_while (ps_while Y.hp (snd c O h.1).2.1 (sndSs body O Y h.2))
    · cases h
  | .cont, X, st, O, Y, h => by
    simp only [mS] at h
    split at h
    · exact rs_cont ps_continue
    · cases h
  | .pass, X, st, O, Y, h => by
    simp only [mS] at h
    split at h
    · exact rs_pass ps_pass
    · cases h
  | .frz _, X, st, O, Y, h => by simp [mS] at h
theorem sndSs : ∀ (ss : List S) {X : Cx} {sts : List Stmt} (O : XOk Γ n X) (Y : Fx X H₀), mSs fr ss Γ sts = true → PSs X sts (tS X.K ta G₀ H₀ (krOf fr) (evSs (callF Γ.B n) ss))
  | [], X, sts, O, Y, h => by
    cases sts with
    | nil => exact rss_nil
    | cons _ _ => simp [mSs] at h
  | s :: r, X, sts, O, Y, h => by
    cases s with
    | frz i =>
      simp only [mSs] at h
      exact rss_frz (sndSs r O Y h)
    | _ =>
      simp only [mSs] at h
      split at h
      · simp only [Bool.and_eq_true] at h
        exact rss_cons (sndS _ O Y h.1) (sndSs r O Y h.2)
      · cases h
theorem sndX {W : WX} : ∀ (s : S) {X : Cx} {st : Stmt} (O : XOk Γ n X) (Y : Fx X H₀) (tk : Takes X W), mS fr s Γ st = true → PS X st (tX X.K X.mg Γ.xs ta G₀ H₀ W (xS (callF Γ.B n) s))
  | .asg i e, X, st, O, Y, tk, h => by
    simp only [mS] at h
    split at h
    · simp only [Bool.and_eq_true, decide_eq_true_eq] at h
      obtain ⟨⟨⟨⟨h1, h2⟩, h3⟩, h4⟩, h5⟩ := h
      exact rx_asg O tk h1 h2 h4 h5
    · cases h
  | .asgO i e, X, st, O, Y, tk, h => by
    simp only [mS] at h
    split at h
    · simp only [Bool.and_eq_true, decide_eq_true_eq] at h
      obtain ⟨⟨⟨⟨h1, h2⟩, h3⟩, h4⟩, h5⟩ := h
      exact rx_asg O tk h1 h2 h4 h5
    · cases h
  | .unp is e, X, st, O, Y, tk, h => by
    simp only [mS] at h
    split at h
    · simp only [Bool.and_eq_true] at h
      obtain ⟨⟨⟨h1, h2⟩, h3⟩, h4⟩ := h
      rename_i ts k p v pos
      have hw : swappedStores [.Tuple ts k p] v X.env = pure none := by
        cases v <;> first
          | rfl
          | (simp only [decide_eq_true_eq] at h4; exact sw_eq Y.hk (by rw [O.sc]; exact h4))
      refine rx_first (ps_asg (sndXE (ta := ta) e O tk h3) (pg_T O.sto (tg := .tup is) (e := .Tuple ts k p) h1) ?_ hw rfl) fun Dn σ H q => q (fun _ _ => True)
      cases v <;> rfl
    · cases h
  | .par ts es, X, st, O, Y, tk, h => by
    cases es with
    | nil => exact rx_no fun _ _ => rfl
    | cons e es =>
      simp only [mS] at h
      split at h
      · simp only [Bool.and_eq_true, decide_eq_true_eq] at h
        obtain ⟨⟨⟨⟨h1, h2⟩, h3⟩, h4⟩, h5⟩ := h
        rename_i tg k1 p1 vs k2 p2 pos
        cases ts with
        | nil => cases h3
        | cons t0 ts =>
          cases vs with
          | nil => cases h3
          | cons v0 vs =>
            obtain ⟨t0, b0⟩ := t0
            simp only [mPs, Bool.and_eq_true] at h3
            obtain ⟨⟨⟨n1, n2⟩, n3⟩, n4⟩ := h3
            have pa := pa_cons (sndXE (ta := ta) e O tk n3) (par_parts (ta := ta) O n4) (star_no n1)
            have lv := mPs_len n4
            split at h5
            · rename_i ns hns
              simp only [Bool.and_eq_true, decide_eq_true_eq] at h5
              obtain ⟨h6, h7⟩ := h5
              have hsw := sw_eq (k := k1) (k2 := k2) (p := p1) (p2 := p2) Y.hk (show swN X.env.scope tg (v0 :: vs) = some (some ns) by rw [O.sc]; exact hns)
              rcases h7 with h7 | h7
              · obtain ⟨⟨j, bj⟩, rfl⟩ := len1 (Nat.succ.inj h7)
                obtain ⟨x, px, tg1, ns1, rfl, rfl, a1, a3, h6⟩ := locs_cons h6
                obtain ⟨y, py, tg2, ns2, rfl, rfl, b1, b3, h6⟩ := locs_cons h6
                obtain ⟨rfl, rfl⟩ := locs_nil h6
                obtain ⟨b, rfl⟩ := len1 lv
                simp only [List.map_cons, List.map_nil, List.nodup_cons, List.mem_cons, List.not_mem_nil, or_false] at h2
                exact rx_first (ps_par O.calm O.nd (by rw [O.N]; exact a1) (by rw [O.N]; exact b1) h2.1 (by rw [O.sc]; exact a3) (by rw [O.sc]; exact b3) pa hsw rfl) fun Dn σ H q => q (fun _ _ => True)
              · obtain ⟨⟨j, bj⟩, ⟨l, bl⟩, rfl⟩ := len2 (Nat.succ.inj h7)
                obtain ⟨x, px, tg1, ns1, rfl, rfl, a1, a3, h6⟩ := locs_cons h6
                obtain ⟨y, py, tg2, ns2, rfl, rfl, b1, b3, h6⟩ := locs_cons h6
                obtain ⟨z, pz, tg3, ns3, rfl, rfl, c1, c3, h6⟩ := locs_cons h6
                obtain ⟨rfl, rfl⟩ := locs_nil h6
                obtain ⟨b, c, rfl⟩ := len2 lv
                simp only [List.map_cons, List.map_nil, List.nodup_cons, List.mem_cons, List.not_mem_nil, or_false, not_or] at h2
                exact rx_first (ps_par3 O.calm O.nd (by rw [O.N]; exact a1) (by rw [O.N]; exact b1) (by rw [O.N]; exact c1) h2.1.1 h2.1.2 h2.2.1 (by rw [O.sc]; exact a3) (by rw [O.sc]; exact b3) (by rw [O.sc]; exact c3) pa hsw rfl) fun Dn σ H q => q (fun _ _ => True)
            · rename_i hns
              have hsw := sw_eq (k := k1) (k2 := k2) (p := p1) (p2 := p2) Y.hk (show swN X.env.scope tg (v0 :: vs) = some none by rw [O.sc]; exact hns)
              exact rx_first (ps_asg (pe_tupP pa) (pg_T O.sto (tg := .tup (((t0, b0) :: ts).map fun x : Nat × Bool => x.1)) (e := .Tuple tg k1 p1) h1) rfl hsw rfl) fun Dn σ H q => q (fun _ _ => True)
            · cases h5
      · cases h
  | .expr e, X, st, O, Y, tk, h => by
    simp only [mS] at h
    split at h
    · simp only [Bool.and_eq_true, Bool.not_eq_true'] at h
      obtain ⟨h1, h2⟩ := h
      rename_i v pos
      refine rx_first (ps_expr (sndXE (ta := ta) e O tk h1) ?_) fun Dn σ H q => q (fun _ _ => True)
      cases v <;> first | rfl | cases h2
    · cases h
  | .ret e, X, st, O, Y, tk, h => by
    simp only [mS] at h
    split at h
    · simp only [Bool.and_eq_true] at h
      exact rx_first (ps_ret (sndXE (ta := ta) e O tk h.1)) fun Dn σ H q => q (fun _ _ => True)
    · cases h
  | .rais c es, X, st, O, Y, tk, h => by
    simp only [mS] at h
    split at h
    · simp only [Bool.and_eq_true, decide_eq_true_eq] at h
      obtain ⟨⟨⟨h1, h2⟩, h3⟩, h4⟩ := h
      obtain ⟨v1, v2, v3, v4, _⟩ := sndK (ta := ta) es O h4
      refine raise_ok O tk ?_ h2 (O.glob h3).1 (O.glob h3).2.2 v1 v2 v4.symm
      split at h1
      · rename_i k hk
        simp only [Bool.and_eq_true, decide_eq_true_eq] at h1
        exact ⟨k, hk, h1.1, fld_len h1.2⟩
      · cases h1
    · cases h
  | .ite c a b, X, st, O, Y, tk, h => by
    simp only [mS] at h
    split at h
    · simp only [Bool.and_eq_true] at h
      obtain ⟨⟨h1, h2⟩, h3⟩ := h
      exact rx_iteS (a := a) (b := b) (ps_if (snd (ta := ta) c O h1).2.1 (sndXs a O Y tk h2) (sndXs b O Y tk h3))
    · cases h
  | .loop tg ik src body, X, st, O, Y, tk, h => by
    simp only [mS] at h
    split at h
    · simp only [Bool.and_eq_true] at h
      obtain ⟨⟨⟨h1, h2⟩, h3⟩, h4⟩ := h
      exact rx_loop (kr := krOf fr) (pair_tg h3 h1) (ps_for Y.hp O.calm (srcf_ok O (fun xs hx => sndV src O hx) (fun xs hx => sndK src O hx) h3) (pg_T O.sto h1) (PSs.or (sndSs body O Y h4) (sndXs body O Y tk h4)) (foldSet h2))
    · cases h
  | .sto _ _ _, X, st, O, Y, tk, h => rx_no fun _ _ => rfl
  | .stoT _ _ _, X, st, O, Y, tk, h => rx_no fun _ _ => rfl
  | .app _ _, X, st, O, Y, tk, h => rx_no fun _ _ => rfl
  | .extd _ _, X, st, O, Y, tk, h => rx_no fun _ _ => rfl
  | .pop _ _, X, st, O, Y, tk, h => rx_no fun _ _ => rfl
  | .tryx _ _, X, st, O, Y, tk, h => rx_no fun _ _ => rfl
  | .while _ _ _, X, st, O, Y, tk, h => rx_no fun _ _ => rfl
  | .cont, X, st, O, Y, tk, h => rx_no fun _ _ => rfl
  | .pass, X, st, O, Y, tk, h => rx_no fun _ _ => rfl
  | .frz _, X, st, O, Y, tk, h => rx_no fun _ _ => rfl
  | .ask2 _ _ _, X, st, O, Y, tk, h => rx_no fun _ _ => rfl
theorem sndXs {W : WX} : ∀ (ss : List S) {X : Cx} {sts : List Stmt} (O : XOk Γ n X) (Y : Fx X H₀) (tk : Takes X W), mSs fr ss Γ sts = true → PSs X sts (tX X.K X.mg Γ.xs ta G₀ H₀ W (xSs (callF Γ.B n) ss))
  | [], X, sts, O, Y, tk, h => by
    cases sts with
    | nil => exact rxs_nil
    | cons _ _ => simp [mSs] at h
  | s :: r, X, sts, O, Y, tk, h => by
    cases s with
    | frz i =>
      simp only [mSs] at h
      exact rxs_frz (sndXs r O Y tk h)
    | _ =>
      simp only [mSs] at h
      split at h
      · simp only [Bool.and_eq_true] at h
        exact rxs_cons (kr := krOf fr) (sndS _ O Y h.1) (sndX _ O Y tk h.1) (sndXs r O Y tk h.2)
      · cases h
end
end
end KN

set_option maxRecDepth 100000
set_option maxHeartbeats 4000000
namespace KN
open PySem L2 PyProof.Rows
/-! ### a def's text as a whole -/
def scB (N P : List Str) (sc : Scope) : Bool := (match sc.kind with
  | .function => true
  | _ => false) && !sc.isCoroutine && !sc.isGenerator && decide (N.Nodup) && decide (N.take P.length = P) && (P.all fun x => match sc.names.lookup x with
  | some .local => true
  | some .cell => true
  | _ => false) && (sc.names.all fun y => match y.2 with
  | .free => false
  | _ => true)
theorem scB_of {N P : List Str} {sc : Scope} (h : scB N P sc = true) : FnScope N P sc := by
  simp only [scB, Bool.and_eq_true, Bool.not_eq_true', decide_eq_true_eq, List.all_eq_true] at h
  obtain ⟨⟨⟨⟨⟨⟨h1, h2⟩, h3⟩, h4⟩, h5⟩, h6⟩, h7⟩ := h
  refine ⟨?_, h2, h3, h4, h5, fun x hx => ?_, fun y hy => ?_⟩
  · split at h1
    · assumption
    · cases h1
  · have := h6 x hx
    split at this
    · rename_i e; exact .inl e
    · rename_i e; exact .inr e
    · cases this
  · have := h7 y hy
    split at this
    · cases this
    · rename_i e; exact e
def cnOf (T : List (Nat × Fn)) (B : Tb) (gl : List (Str × D)) (kw : List Kw) (xs : List Nat) (F : Fn) (st : Stmt) : Cn := ⟨F.N, defScope st, none, T, B, gl, kw, xs⟩
/-- the text of each def is the row's -/
def textOk (T : List (Nat × Fn)) (B : Tb) (gl : List (Str × D)) (kw : List Kw) (xs : List Nat) : List (Nat × Fn) → List Stmt → Bool
  | [], [] => true
  | F :: r, st :: q => scB F.2.N F.2.ps (defScope st) && mSs F.2.fresh F.2.body (cnOf T B gl kw xs F.2 st) (defBody st) && (B (XB + F.1)).isNone && textOk T B gl kw xs r q
  | _, _ => false
/-- what stands behind the top of a def -/
structure FnAt (K : Fg) (mg : Str → Option Value) (kw : List Kw) (i : Nat) (F : Fn) (st : Stmt) : Prop where
  ex : ∃ f fd, Fun K F.name F.name st f fd ∧ mg F.name = some (.ref f) ∧ Binds K fd F.ps [] ∧ ∀ p ∈ kw, p.f = i → KBinds K fd F.ps p.ks (gP p) (gP p)
def AllAt (K : Fg) (mg : Str → Option Value) (kw : List Kw) : List (Nat × Fn) → List Stmt → Prop
  | [], [] => True
  | F :: r, st :: q => FnAt K mg kw F.1 F.2 st ∧ AllAt K mg kw r q
  | _, _ => False
theorem look_cons {α : Type} {i j : Nat} {a b : α} {l : List (Nat × α)} (h : ((j, a) :: l).lookup i = some b) : (i = j ∧ b = a) ∨ l.lookup i = some b := by
  rw [List.lookup_cons] at h
  split at h
  · rename_i e
    cases h
    exact .inl ⟨by simpa using e, rfl⟩
  · exact .inr h
theorem all_get {K : Fg} {mg : Str → Option Value} {kw : List Kw} {xs : List Nat} {T : List (Nat × Fn)} {B : Tb} {gl : List (Str × D)} : ∀ {l : List (Nat × Fn)} {sts : List Stmt}, AllAt K mg kw l sts → textOk T B gl kw xs l sts = true → ∀ (i : Nat) F, l.lookup i = some F →
    ∃ st, FnAt K mg kw i F st ∧ FnScope F.N F.ps (defScope st) ∧ mSs F.fresh F.body (cnOf T B gl kw xs F st) (defBody st) = true ∧ B (XB + i) = none
  | [], _, _, _, i, F, e => by simp at e
  | _ :: _, [], h, _, _, _, _ => by cases h
  | (j, F0) :: r, st :: q, h, c, i, F, e => by
    simp only [textOk, Bool.and_eq_true] at c
    rcases look_cons e with ⟨rfl, rfl⟩ | e
    · exact ⟨st, h.1, scB_of c.1.1.1, c.1.1.2, by simpa using c.1.2⟩
    · exact all_get h.2 c.2 i F e
/-! ### the start of a def -/
theorem env0_get {F : Fb} {ds : List D} {i : Nat} {x : Ent} (h : (env0 F ds)[i]? = some (some x)) : (F.tin = true ∧ i = 0 ∧ x = .tin) ∨ ∃ k d, i = (if F.tin then k + 1 else k) ∧ ds[k]? = some d ∧ x = .dat d := by
  unfold env0 at h
  have tail : ∀ {j : Nat} {x : Ent}, (ds.map (fun d => some (Ent.dat d)) ++ List.replicate (F.nN - F.np) none)[j]? = some (some x) → ∃ d, ds[j]? = some d ∧ x = .dat d := fun {j x} h => by
    rw [List.getElem?_append] at h
    split at h
    · rw [List.getElem?_map] at h
      cases e : ds[j]? with
      | none => rw [e] at h; cases h
      | some d =>
        rw [e] at h
        simp only [Option.map_some, Option.some.injEq] at h
        exact ⟨d, rfl, h.symm⟩
    · rw [List.getElem?_replicate] at h
      split at h <;> cases h
  cases ht : F.tin with
  | false =>
    rw [ht] at h
    simp only [Bool.false_eq_true, if_false, List.nil_append] at h
    obtain ⟨d, h1, h2⟩ := tail h
    exact .inr ⟨i, d, by simp, h1, h2⟩
  | true =>
    rw [ht] at h
    simp only [if_true, List.cons_append, List.nil_append] at h
    cases i with
    | zero =>
      simp only [List.getElem?_cons_zero, Option.some.injEq] at h
      exact .inl ⟨rfl, rfl, h.symm⟩
    | succ i =>
      rw [List.getElem?_cons_succ] at h
      obtain ⟨d, h1, h2⟩ := tail h
      exact .inr ⟨i, d, by simp, h1, h2⟩
theorem start_get {N : List Str} {vs : List V} {i : Nat} {v : V} (h : vs[i]? = some v) : (start N vs)[i]? = some (some v) := by
  unfold L2.start
  have hl : i < (vs.map some).length := by
    rw [List.length_map]
    exact (List.getElem?_eq_some_iff.mp h).1
  rw [List.getElem?_append_left hl, List.getElem?_map, h]
  rfl
theorem rel_start {K : Fg} {ta : Option Addr} {G H : Hp} {τ : List D} {F : Fn} {vs ws : List V} {ds : List D} (sm : Same G H) (ht : TinOk K ta G H τ) (hv : match F.tin with
    | true => ∃ a, ta = some a ∧ vs = .ref a :: ws
    | false => ta = none ∧ vs = ws) (dr : DRs K G ws ds) (hl : vs.length = F.ps.length) (hn : F.ps.length ≤ F.N.length) : RelS K ta G H G (start F.N vs) H (env0 F.fb ds) τ := by
  have at_ : ∀ {k : Nat} {d : D}, ds[k]? = some d → ∃ v, vs[if F.fb.tin then k + 1 else k]? = some v ∧ DR K G v d := fun {k d} e => by
    obtain ⟨v, h1, h2⟩ := dr.get e
    have hb : F.fb.tin = F.tin := rfl
    rw [hb]
    cases hF : F.tin with
    | true =>
      rw [hF] at hv
      obtain ⟨a, _, rfl⟩ := hv
      exact ⟨v, by simpa using h1, h2⟩
    | false =>
      rw [hF] at hv
      obtain ⟨_, rfl⟩ := hv
      exact ⟨v, by simpa using h1, h2⟩
  refine ⟨⟨sm, ht, fun i d e => ?_, fun i es e => ?_, fun i j es fs a _ e _ _ => ?_, fun i e => ?_, ?_⟩, Ext.refl, fun i es a e _ => ?_⟩
  · rcases env0_get e with ⟨_, _, z⟩ | ⟨k, d', rfl, h1, h2⟩
    · cases z
    · cases h2
      obtain ⟨v, h3, h4⟩ := at_ h1
      exact ⟨v, start_get h3, h4⟩
  · rcases env0_get e with ⟨_, _, z⟩ | ⟨k, d', _, h1, h2⟩
    · cases z
    · cases h2
  · rcases env0_get e with ⟨_, _, z⟩ | ⟨k, d', _, h1, h2⟩
    · cases z
    · cases h2
  · rcases env0_get e with ⟨hF, rfl, _⟩ | ⟨k, d', _, h1, h2⟩
    · have hF : F.tin = true := hF
      rw [hF] at hv
      obtain ⟨a, h1, rfl⟩ := hv
      exact ⟨a, h1, start_get rfl⟩
    · cases h2
  · have l1 := dr.length
    unfold env0 L2.start
    have hb : F.fb.tin = F.tin := rfl
    have hc : F.fb.nN = F.N.length := rfl
    have hd : F.fb.np = F.ps.length := rfl
    rw [List.length_append, List.length_append, List.length_append, List.length_map, List.length_map, List.length_replicate, List.length_replicate, hb, hc, hd]
    clear at_
    clear hb
    cases hF : F.tin with
    | true =>
      rw [hF] at hv
      obtain ⟨a, _, rfl⟩ := hv
      simp only [List.length_cons] at hl ⊢
      simp
      omega
    | false =>
      rw [hF] at hv
      obtain ⟨_, rfl⟩ := hv
      simp
      omega
  · rcases env0_get e with ⟨_, _, z⟩ | ⟨k, d', _, h1, h2⟩
    · cases z
    · cases h2
theorem callF_some {T : Tb} {n f : Nat} {ds : List D} {τ τ' : List D} {d : D} {F : Fb} (hF : T f = some F) (h : callF T (n + 1) f ds τ = some (d, τ')) :
    (if F.tin then ds.length + 1 else ds.length) = F.np ∧ ∃ o, evSs (callF T n) F.body (env0 F ds) τ = some (o, τ') ∧ outD o = some d := by
  have h : (match T f with
    | none => (match T (f - XB) with
      | some F => if !F.tin && decide (XB ≤ f) && decide (ds.length = F.np) then (xSs (callF T n) F.body (env0 F ds)).bnd fun r => .ret r.1.enc else .fail
      | none => .fail)
    | some F => if (if F.tin then ds.length + 1 else ds.length) = F.np then (evSs (callF T n) F.body (env0 F ds)).bnd fun o => .of (outD o) else .fail) τ = some (d, τ') := h
  rw [hF] at h
  simp only at h
  by_cases hl : (if F.tin then ds.length + 1 else ds.length) = F.np
  · rw [if_pos hl] at h
    obtain ⟨o, τ1, e1, f1⟩ := bnd_some h
    obtain ⟨g1, rfl⟩ := of_some f1
    exact ⟨hl, o, e1, g1⟩
  · rw [if_neg hl] at h
    cases h
/-- one def, by one more than its callees -/
theorem fn_step {P : Program} {w : World} {K : Fg} {mg : Str → Option Value} {base : Heap} {T : List (Nat × Fn)} {B : Tb} {gl : List (Str × D)} {kw : List Kw} {xs : List Nat} (hb : ∀ x ∈ biL, mg x = none) (hg : ∀ p ∈ gl, GlV mg p) (hB : ∀ (i : Nat) (F : Fn), T.lookup i = some F → B i = some F.fb) {n : Nat}
    (hxs : XsOk P K mg xs) (ihx : ∀ (i : Nat) (F : Fn), T.lookup i = some F → F.tin = false → ∃ f fd, mg F.name = some (.ref f) ∧ PySem.W.keepIn K (.ref f) = true ∧ Binds K fd F.ps [] ∧ FnOk P w K mg base (L2.CX P w) n f fd F.ps (spR K mg xs (callF B n) i))
    (ih : ∀ (i : Nat) (F : Fn), T.lookup i = some F → ∃ f fd, mg F.name = some (.ref f) ∧ PySem.W.keepIn K (.ref f) = true ∧ Binds K fd F.ps [] ∧ FnOk P w K mg base CX0 n f fd F.ps (spF K (callF B n) i F.tin F.fresh) ∧ ∀ p ∈ kw, p.f = i → KBinds K fd F.ps p.ks (gP p) (gP p))
    {i : Nat} {F : Fn} {st : Stmt} {f : Addr} {fd : FuncData} (hF : T.lookup i = some F) (h1 : Fun K F.name F.name st f fd) (h5 : FnScope F.N F.ps (defScope st)) (h6 : mSs F.fresh F.body (cnOf T B gl kw xs F st) (defBody st) = true) :
    FnOk P w K mg base CX0 (n + 1) f fd F.ps (spF K (callF B (n + 1)) i F.tin F.fresh) := by
    have lenOk : ∀ vs H Q E, spF K (callF B (n + 1)) i F.tin F.fresh vs H Q E → vs.length = F.ps.length := fun vs H Q E q => by
      obtain ⟨G, ta, ws, ds, τ, d, τ', sm, ht, hv, dr, ec, q⟩ := q
      obtain ⟨hl, _⟩ := callF_some (hB _ _ hF) ec
      have hl : (if F.tin then ds.length + 1 else ds.length) = F.ps.length := hl
      have l1 := dr.length
      cases ht' : F.tin with
      | true =>
        rw [ht'] at hv hl
        obtain ⟨a, _, rfl⟩ := hv
        simp only [if_true] at hl
        simp only [List.length_cons]
        omega
      | false =>
        rw [ht'] at hv hl
        obtain ⟨_, rfl⟩ := hv
        simp only [Bool.false_eq_true, if_false] at hl
        omega
    refine h1.ok h5 lenOk fun cdv A outer s H vs Q E hr hsp => ?_
    have hl := lenOk vs H Q E hsp
    obtain ⟨G, ta, ws, ds, τ, d, τ', sm, ht, hv, dr, ec, q⟩ := hsp
    obtain ⟨_, o, e1, e2⟩ := callF_some (hB _ _ hF) ec
    have hn : F.ps.length ≤ F.N.length := by
      have := congrArg List.length h5.pre
      rw [List.length_take] at this
      omega
    have O : XOk (cnOf T B gl kw xs F st) n (cxOf CX0 P w K mg base F.N F.name (defScope st) f cdv A outer s H E).nox :=
      { N := rfl, nd := h5.nd, sc := rfl, fn := rfl, calm := rfl, room := hr, bi := hb, gl := hg, fns := ih, fnx := ihx, xok := hxs }
    refine ⟨_, sndSs (ta := ta) (G₀ := G) (H₀ := H) (fr := F.fresh) F.body O ⟨PassesOwn.never, rfl, rfl, rfl, h5.kind⟩ h6, G, env0 F.fb ds, τ, o, τ', rel_start sm ht hv dr hl hn, e1, ?_⟩
    cases o with
    | nx ρ' =>
      cases e2
      intro σ' G' H' _ S'
      refine q _ G' H' S'.ext S'.rel.sub S'.rel.tin ?_
      cases F.fresh with
      | true => exact .inl ⟨.non, rfl⟩
      | false => exact .non
    | ct ρ' => cases e2
    | rt d' =>
      cases e2
      intro v G' H' x' s' t' w'
      exact q v G' H' x' s' t' w'
theorem dec_enc (x : Exn) : exDec x.enc = some x := by
  cases x
  simp [Exn.enc, exDec]
theorem callF_X {T : Tb} {n i : Nat} {ds : List D} {τ τ' : List D} {y : D} {F : Fb} (hn : T (XB + i) = none) (hF : T i = some F) (h : callF T (n + 1) (XB + i) ds τ = some (y, τ')) :
    F.tin = false ∧ ds.length = F.np ∧ ∃ x ρ', xSs (callF T n) F.body (env0 F ds) τ = some ((x, ρ'), τ') ∧ y = x.enc := by
  have h : (match T (XB + i) with
    | none => (match T (XB + i - XB) with
      | some F => if !F.tin && decide (XB ≤ XB + i) && decide (ds.length = F.np) then (xSs (callF T n) F.body (env0 F ds)).bnd fun r => .ret r.1.enc else .fail
      | none => .fail)
    | some F => if (if F.tin then ds.length + 1 else ds.length) = F.np then (evSs (callF T n) F.body (env0 F ds)).bnd fun o => .of (outD o) else .fail) τ = some (y, τ') := h
  rw [hn] at h
  simp only [Nat.add_sub_cancel_left, hF] at h
  split at h
  · rename_i hc
    simp only [Bool.and_eq_true, Bool.not_eq_true', decide_eq_true_eq] at hc
    obtain ⟨⟨x, ρ'⟩, τ1, e1, f1⟩ := bnd_some h
    cases ret_some f1
    exact ⟨hc.1.1, hc.2, x, ρ', e1, rfl⟩
  · cases h
/-- one def that ends in an error -/
theorem fn_stepX {P : Program} {w : World} {K : Fg} {mg : Str → Option Value} {base : Heap} {T : List (Nat × Fn)} {B : Tb} {gl : List (Str × D)} {kw : List Kw} {xs : List Nat} (hb : ∀ x ∈ biL, mg x = none) (hg : ∀ p ∈ gl, GlV mg p) (hB : ∀ (i : Nat) (F : Fn), T.lookup i = some F → B i = some F.fb) {n : Nat}
    (hxs : XsOk P K mg xs) (ihx : ∀ (i : Nat) (F : Fn), T.lookup i = some F → F.tin = false → ∃ f fd, mg F.name = some (.ref f) ∧ PySem.W.keepIn K (.ref f) = true ∧ Binds K fd F.ps [] ∧ FnOk P w K mg base (L2.CX P w) n f fd F.ps (spR K mg xs (callF B n) i))
    (ih : ∀ (i : Nat) (F : Fn), T.lookup i = some F → ∃ f fd, mg F.name = some (.ref f) ∧ PySem.W.keepIn K (.ref f) = true ∧ Binds K fd F.ps [] ∧ FnOk P w K mg base CX0 n f fd F.ps (spF K (callF B n) i F.tin F.fresh) ∧ ∀ p ∈ kw, p.f = i → KBinds K fd F.ps p.ks (gP p) (gP p))
    {i : Nat} {F : Fn} {st : Stmt} {f : Addr} {fd : FuncData} (hF : T.lookup i = some F) (hX : B (XB + i) = none) (ht : F.tin = false) (h1 : Fun K F.name F.name st f fd) (h5 : FnScope F.N F.ps (defScope st)) (h6 : mSs F.fresh F.body (cnOf T B gl kw xs F st) (defBody st) = true) :
    FnOk P w K mg base (L2.CX P w) (n + 1) f fd F.ps (spR K mg xs (callF B (n + 1)) i) := by
  have lenOk : ∀ vs H Q E, spR K mg xs (callF B (n + 1)) i vs H Q E → vs.length = F.ps.length := fun vs H Q E q => by
    obtain ⟨G, ds, x, y, τ', sm, dr, ec, ey, q⟩ := q
    obtain ⟨_, hl, _⟩ := callF_X hX (hB _ _ hF) ec
    exact dr.length.trans hl
  refine h1.okX h5 lenOk fun cdv A outer s H vs Q E hr hsp => ?_
  have hl := lenOk vs H Q E hsp
  obtain ⟨G, ds, x, y, τ', sm, dr, ec, ey, q⟩ := hsp
  obtain ⟨_, _, x', ρ', e1, rfl⟩ := callF_X hX (hB _ _ hF) ec
  rw [dec_enc] at ey
  cases ey
  have hn : F.ps.length ≤ F.N.length := by
    have := congrArg List.length h5.pre
    rw [List.length_take] at this
    omega
  have O : XOk (cnOf T B gl kw xs F st) n (cxOf (L2.CX P w) P w K mg base F.N F.name (defScope st) f cdv A outer s H E) :=
    { N := rfl, nd := h5.nd, sc := rfl, fn := rfl, calm := rfl, room := hr, bi := hb, gl := hg, fns := ih, fnx := ihx, xok := hxs }
  refine ⟨_, sndXs (ta := none) (G₀ := G) (H₀ := H) (fr := F.fresh) (W := fun cls d _ H => E cls d H) F.body O ⟨passes_of rfl, rfl, rfl, rfl, h5.kind⟩ (takes_of rfl rfl rfl rfl) h6, G, env0 F.fb ds, [], x, ρ', τ', ?_, e1, fun cls d σ' G' H' s S' hx => q cls d G' H' S'.ext S'.rel.sub hx⟩
  exact rel_start (ws := vs) sm (fun _ z => nomatch z) (by rw [ht]; exact ⟨rfl, rfl⟩) dr hl hn
/-- THE RULE: every def keeps its promise, by as much as the number says -/
theorem fns_ok {P : Program} {w : World} {K : Fg} {mg : Str → Option Value} {base : Heap} {T : List (Nat × Fn)} {B : Tb} {gl : List (Str × D)} {kw : List Kw} {xs : List Nat} {sts : List Stmt} (hb : ∀ x ∈ biL, mg x = none) (hg : ∀ p ∈ gl, GlV mg p) (hB : ∀ (i : Nat) (F : Fn), T.lookup i = some F → B i = some F.fb) (hxs : XsOk P K mg xs) (hc : textOk T B gl kw xs T sts = true) (ha : AllAt K mg kw T sts) :
    ∀ n : Nat, (∀ (i : Nat) (F : Fn), T.lookup i = some F → ∃ f fd, mg F.name = some (.ref f) ∧ PySem.W.keepIn K (.ref f) = true ∧ Binds K fd F.ps [] ∧ FnOk P w K mg base CX0 n f fd F.ps (spF K (callF B n) i F.tin F.fresh) ∧ ∀ p ∈ kw, p.f = i → KBinds K fd F.ps p.ks (gP p) (gP p)) ∧
      ∀ (i : Nat) (F : Fn), T.lookup i = some F → F.tin = false → ∃ f fd, mg F.name = some (.ref f) ∧ PySem.W.keepIn K (.ref f) = true ∧ Binds K fd F.ps [] ∧ FnOk P w K mg base (L2.CX P w) n f fd F.ps (spR K mg xs (callF B n) i) := by
  intro n
  induction n with
  | zero =>
    refine ⟨fun i F hF => ?_, fun i F hF ht => ?_⟩
    · obtain ⟨st, ⟨f, fd, h1, h2, h3, h4⟩, h5, h6, _⟩ := all_get ha hc i F hF
      refine ⟨f, fd, h2, h1.kp, h3, ⟨fun vs H Q E q => ?_, fun A outer s H args us vs Q E _ _ _ _ q => ?_⟩, h4⟩
      · obtain ⟨_, _, _, _, _, _, _, _, _, _, _, z, _⟩ := q
        cases z
      · obtain ⟨_, _, _, _, _, _, _, _, _, _, _, z, _⟩ := q
        cases z
    · obtain ⟨st, ⟨f, fd, h1, h2, h3, h4⟩, h5, h6, _⟩ := all_get ha hc i F hF
      refine ⟨f, fd, h2, h1.kp, h3, ⟨fun vs H Q E q => ?_, fun A outer s H args us vs Q E _ _ _ _ q => ?_⟩⟩
      · obtain ⟨_, _, _, _, _, _, _, z, _⟩ := q
        cases z
      · obtain ⟨_, _, _, _, _, _, _, z, _⟩ := q
        cases z
  | succ n ih =>
    obtain ⟨ih, ihx⟩ := ih
    refine ⟨fun i F hF => ?_, fun i F hF ht => ?_⟩
    · obtain ⟨st, ⟨f, fd, h1, h2, h3, h4⟩, h5, h6, _⟩ := all_get ha hc i F hF
      exact ⟨f, fd, h2, h1.kp, h3, fn_step hb hg hB hxs ihx ih hF h1 h5 h6, h4⟩
    · obtain ⟨st, ⟨f, fd, h1, h2, h3, h4⟩, h5, h6, hX⟩ := all_get ha hc i F hF
      exact ⟨f, fd, h2, h1.kp, h3, fn_stepX hb hg hB hxs ihx ih hF hX ht h1 h5 h6⟩
theorem text_get {T : List (Nat × Fn)} {B : Tb} {gl : List (Str × D)} {kw : List Kw} {xs : List Nat} : ∀ {l : List (Nat × Fn)} {sts : List Stmt}, textOk T B gl kw xs l sts = true → ∀ (k i : Nat) F st, l[k]? = some (i, F) → sts[k]? = some st → FnScope F.N F.ps (defScope st) ∧ mSs F.fresh F.body (cnOf T B gl kw xs F st) (defBody st) = true
  | [], _, _, _, _, _, _, e, _ => by simp at e
  | _ :: _, [], c, _, _, _, _, _, _ => by cases c
  | F0 :: r, st0 :: q, c, 0, i, F, st, e, e' => by
    simp only [List.getElem?_cons_zero, Option.some.injEq] at e e'
    subst e
    subst e'
    simp only [textOk, Bool.and_eq_true] at c
    exact ⟨scB_of c.1.1.1, c.1.1.2⟩
  | F0 :: r, st0 :: q, c, k + 1, i, F, st, e, e' => by
    simp only [textOk, Bool.and_eq_true] at c
    exact text_get c.2 k i F st (by simpa using e) (by simpa using e')
/-- a def at the top, from what the top has written -/
theorem at_mk {K : Fg} {h : Heap} {mg : Str → Option Value} {kw : List Kw} {i : Nat} {F : Fn} {st : Stmt} {f : Addr} {od an : Option Addr} {sl : Array (Option Value)} {oc kV dc pm cd ct : Value} (X : K.In h) (G : h.Ns mainGlobals mg)
    (a : PySem.W.nsIn K mainGlobals F.name = some (some (.ref f))) (l : K.lookup f = some ⟨oc, od, .func (PySem.W.fnOf F.name F.name (defArgs st) (defBody st) (defScope st) .none kV dc pm an cd ct), sl⟩) (c : PySem.W.codeIn K cd F.name = true) (k : PySem.W.keepIn K (.ref f) = true)
    (hb : ∀ (kV doc pm : Value) (an : Option Addr) (cdv ct : Value) (us : List Value), us.length = F.ps.length → bindArgs (PySem.W.fnOf F.name F.name (defArgs st) (defBody st) (defScope st) .none kV doc pm an cdv ct) ⟨us, []⟩ = pure (F.ps.zip us))
    (hw : ∀ p ∈ kw, p.f = i → KBinds K (PySem.W.fnOf F.name F.name (defArgs st) (defBody st) (defScope st) .none kV dc pm an cd ct) F.ps p.ks (gP p) (gP p)) : FnAt K mg kw i F st :=
  have F1 := fun_mk (st := st) l c k
  ⟨f, _, F1, PySem.W.mg_of X G a, F1.binds hb, hw⟩
/-- the law itself -/
theorem law_mk {P : Program} {w : World} {K : Fg} {h : Heap} {mg : Str → Option Value} {T : List (Nat × Fn)} {B : Tb} {gl : List (Str × D)} {kw : List Kw} {xs : List Nat} {sts : List Stmt} (X : K.In h) (G : h.Ns mainGlobals mg) (hb : ∀ x ∈ biL, mg x = none) (hg : ∀ p ∈ gl, GlV mg p) (hB : ∀ (i : Nat) (F : Fn), T.lookup i = some F → B i = some F.fb) (hxs : XsOk P K mg xs) (hc : textOk T B gl kw xs T sts = true) (ha : AllAt K mg kw T sts)
    {k0 i : Nat} {F : Fn} {st : Stmt} {f fa : Addr} {od an : Option Addr} {sl : Array (Option Value)} {oc kV dc pm cd ct : Value} {x : Str} (hfa : mg F.name = some (.ref fa)) (hF : T.lookup i = some F) (hF0 : T[k0]? = some (i, F)) (hs : sts[k0]? = some st) (ht : F.tin = false) (hfr : F.fresh = false) (hps : F.ps = [x])
    (a : PySem.W.nsIn K mainGlobals F.name = some (some (.ref f))) (l : K.lookup f = some ⟨oc, od, .func (PySem.W.fnOf F.name F.name (defArgs st) (defBody st) (defScope st) .none kV dc pm an cd ct), sl⟩) (c : PySem.W.codeIn K cd F.name = true) (k : PySem.W.keepIn K (.ref f) = true)
    (hbd : ∀ (kV doc pm : Value) (an : Option Addr) (cdv ct : Value) (us : List Value), us.length = F.ps.length → bindArgs (PySem.W.fnOf F.name F.name (defArgs st) (defBody st) (defScope st) .none kV doc pm an cdv ct) ⟨us, []⟩ = pure (F.ps.zip us)) (n : Nat) :
    ∃ fd : FuncData, (∀ (s : Shared) (v : Value), BindsTo s fd ⟨[v], []⟩ [(x, v)]) ∧ ∀ base : Heap, K.In base → base.Ns mainGlobals mg → FnOk P w K mg base CX0 (n + 1) fa fd [x] (spF K (callF B (n + 1)) i false false) := by
  have e := hfa.symm.trans (PySem.W.mg_of X G a)
  cases e
  obtain ⟨h5, h6⟩ := text_get hc k0 i F st hF0 hs
  refine ⟨PySem.W.fnOf F.name F.name (defArgs st) (defBody st) (defScope st) .none kV dc pm an cd ct, fun s v => ?_, fun base _ _ => ?_⟩
  rotate_left
  · have := fn_step (P := P) (w := w) (base := base) hb hg hB hxs (fns_ok hb hg hB hxs hc ha n).2 (fns_ok hb hg hB hxs hc ha n).1 hF (fun_mk (st := st) l c k) h5 h6
    rw [ht, hfr, hps] at this
    exact this
  · have := hbd kV dc pm an cd ct [v] (by rw [hps]; rfl)
    rw [hps] at this
    exact .of_eq this
/-! ### keywords -/
theorem gP_rel {p : Kw} {vs zs : List V} {us ws : List Value} (h1 : Vals vs us) (h2 : Vals zs ws) : Vals (gP p vs zs) (gP (α := Value) p us ws) := by
  unfold gP
  rw [h1.length, h2.length]
  split
  · have ap := h1.append h2
    unfold permL
    generalize p.perm = l
    induction l with
    | nil => exact .nil
    | cons i r ih =>
      refine .cons ?_ ih
      show RelV ((vs ++ zs).getD i default) ((us ++ ws).getD i default)
      rw [List.getD_eq_getElem?_getD, List.getD_eq_getElem?_getD]
      cases e : (vs ++ zs)[i]? with
      | none =>
        rw [ap.none_of e]
        exact rfl
      | some v =>
        obtain ⟨u, e1, e2⟩ := ap.get e
        rw [e1]
        exact e2
  · exact .nil
theorem kw_of {K : Fg} {fd : FuncData} {ps : List Str} {p : Kw} (h : ∀ (s : Shared) (us ws : List Value), us.length = p.np → ws.length = p.ks.length → BindsTo s fd ⟨us, p.ks.zip ws⟩ (ps.zip (permL p.perm (us ++ ws)))) (hne : ps ≠ []) : KBinds K fd ps p.ks (gP p) (gP p) := by
  refine ⟨fun s us ws _ hl => ?_, fun h1 h2 => gP_rel h1 h2⟩
  unfold gP at hl ⊢
  split
  · rename_i c
    exact h s us ws c.1 c.2
  · rename_i c
    rw [if_neg c] at hl
    exact absurd (List.eq_nil_of_length_eq_zero hl.symm) hne
/-! ### the law's end -/
/-- the law's promise: its own run of data says True for every script -/
theorem law_sp {K : Fg} {T : Tb} {n i : Nat} {H : Hp} {a : Addr} {ns : List Int} (hS : SqL K H a (ns.map V.int)) (h : ∃ τ', callF T n i [.list (ns.map PyData.int)] [] = some (.bool true, τ')) :
    spF K (callF T n) i false false [.ref a] H (fun v _ => v = .bl true) fun _ _ _ => False := by
  obtain ⟨τ', h⟩ := h
  refine ⟨H, none, [.ref a], _, [], _, τ', fun _ _ h => h, (fun _ z => nomatch z), ⟨rfl, rfl⟩, .cons (.lst hS (DRs.ofInts ns)) .nil, h, fun v G' H' _ _ _ w => ?_⟩
  cases w
  rfl
end KN

set_option maxRecDepth 100000
set_option maxHeartbeats 4000000
namespace KN
open PySem L2 PyProof.Rows
/-! ### the classes of errors at the top -/
def cBody : Stmt → List Stmt
  | .ClassDef _ _ _ b _ _ _ _ _ _ _ => b
  | _ => []
section
open PySem.W
def isO (x : Option Bool) (b : Bool) : Bool := match x with
  | some c => c == b
  | none => false
def isV (x : Option (Option Value)) (v : Option Value) : Bool := match x with
  | some c => decide (c = v)
  | none => false
theorem isO_of {x : Option Bool} {b : Bool} (h : isO x b = true) : x = some b := by
  unfold isO at h
  split at h
  · rw [beq_iff_eq.mp h]
  · cases h
theorem isV_of {x : Option (Option Value)} {v : Option Value} (h : isV x v = true) : x = some v := by
  unfold isV at h
  split at h
  · rw [of_decide_eq_true h]
  · cases h
/-- what is asked of each class -/
def xcB (K : Fg) (C : Addr) (base : String) : Bool := keepIn K (.ref C) && isO (subIn K (.ref C) (.type "BaseException")) true && decide (typeIn K (.ref C) = some (.type "type")) && isV (findIn K (.ref C) "__getattribute__") (some (.builtin "BaseException.__getattribute__")) && isV (findIn K (.ref C) "__getattr__") none &&
  hasDictIn K C && isV (findIn K (.ref C) "__class__") (some (.builtin "object.__class__")) && isV (specialIn K (.builtin "object.__class__") "__get__") (some (.builtin "getset_descriptor.__get__")) && isO (takesIn K (.builtin "object.__class__")) true && isO (mroIn K C (.type "object")) true &&
  isO (kitOne K (.ref C) (.type "LookupError")) (base == "LookupError") && isO (kitOne K (.ref C) (.type "ValueError")) (base == "ValueError")
theorem xc_of {prog : Program} {K : Fg} {h : Heap} {mg : Str → Option Value} {k : Xc} {C : Addr} (X : K.In h) (G : h.Ns mainGlobals mg) (a : nsIn K mainGlobals k.name = some (some (.ref C))) (b : xcB K C k.base = true)
    (m : match k.fld with
      | none => ∃ B newId initId bmB, ExcBaseFacts B newId initId bmB ∧ excIn K C bmB newId = true
      | some f => findIn K (.ref C) f = some none ∧ ∃ fI B newId initId bmB cda cc nm qual params scope y sf, IniC prog K C fI f B newId initId bmB cda cc nm qual params scope y sf) : XcOk prog K mg k C := by
  simp only [xcB, Bool.and_eq_true] at b
  obtain ⟨⟨⟨⟨⟨⟨⟨⟨⟨⟨⟨b1, b2⟩, b3⟩, b4⟩, b5⟩, b6⟩, b7⟩, b8⟩, b9⟩, b10⟩, b11⟩, b12⟩ := b
  have b2 := isO_of b2
  have b4 := isV_of b4
  have b5 := isV_of b5
  refine ⟨mg_of X G a, b1, b2, of_decide_eq_true b3, ⟨b4, b5, b2, b6, isV_of b7, isV_of b8, isO_of b9, isO_of b10⟩, ⟨b4, b5, b2, b6⟩, m, fun T hT => ?_⟩
  simp only [List.mem_cons, List.not_mem_nil, or_false] at hT
  rcases hT with rfl | rfl
  · exact isO_of b11
  · exact isO_of b12
def fileB (K : Fg) (cda : Addr) (file : Str) : Bool := match K.lookup cda with
  | some ⟨_, _, .fields vs, _⟩ => (match (vs[2]? : Option Value) with
    | some (Value.str f _) => file == f
    | _ => false)
  | _ => false
def cellB (K : Fg) (cc C : Addr) : Bool := match K.lookup cc with
  | some ⟨_, _, .cell (some (.ref D)), _⟩ => D == C
  | _ => false
def iniB (y fld sf : Str) : List Stmt → Bool
  | [.Expr (.Call (.Attribute (.Call (.Name s _) [] [] _) m p2) [.Name a _] [] p4) _, .Assign [.Attribute (.Name b _) f _] (.Name c _) _] => decide (s = "super") && decide (m = "__init__") && decide (a = y) && decide (b = sf) && decide (f = fld) && decide (c = y) && (p2.endLine == p4.line)
  | _ => false
theorem iniB_of {y fld sf : Str} {l : List Stmt} (h : iniB y fld sf l = true) : ∃ p0 p1 p2 p3 p4 p5 p6 p7 p8 p9, l = iniBody y fld sf p0 p1 p2 p3 p4 p5 p6 p7 p8 p9 ∧ (p2.endLine == p4.line) = true := by
  unfold iniB at h
  split at h
  · simp only [Bool.and_eq_true, decide_eq_true_eq] at h
    obtain ⟨⟨⟨⟨⟨⟨rfl, rfl⟩, rfl⟩, rfl⟩, rfl⟩, rfl⟩, hl⟩ := h
    exact ⟨_, _, _, _, _, _, _, _, _, _, rfl, hl⟩
  · cases h
/-- the first def's names -/
def iniSc (y sf : Str) (params : Arguments) (sc : Scope) : Bool := decide ((params.posonlyargs ++ params.args).head?.map (·.arg) = some sf) && decide (sc.names.lookup ("super" : Str) = some .globalImplicit) && decide (sc.names.lookup ("__class__" : Str) = some .free) && decide (sc.names.lookup sf = some .local) &&
  decide (sc.names.lookup y = some .local) && decide (y ≠ sf) && (match sc.kind with
    | .function => true
    | _ => false) && (sc.names.all fun x => decide (x.2 ≠ .cell)) && !sc.isCoroutine && !sc.isGenerator && !(y == ("__debug__" : Str)) && !(sf == ("__debug__" : Str))
/-- what is asked of a class with a first def -/
def inkB (K : Fg) (C cda cc : Addr) (qual fld : Str) (B newId initId : String) (bmB : List Value) (file : Str) : Bool := excInitIn K C bmB newId && codeIn K (.ref cda) qual && fileB K cda file && cellB K cc C && isO (mroIn K C (.ref C)) true && isV (nsIn K cStatics "thirdparty.any") none &&
  isV (ks_superIn K C C "__init__") (some (.builtin initId)) && isO (subIn K (.ref C) (.type B)) true && isV (takerIn K C fld) none && isV (findIn K (.ref C) "__setattr__") (some (.builtin "object.__setattr__")) && excOver K C bmB && hasDictIn K C && isV (findIn K (.ref C) fld) none
theorem ini_of {prog : Program} {K : Fg} {C fI cda cc : Addr} {nm qual fld y sf : Str} {B newId initId : String} {bmB : List Value} {st : Stmt} {od an : Option Addr} {osl : Array (Option Value)} {kV dc pm ct : Value}
    (FB : ExcBaseFacts B newId initId bmB) (KF : KxsFacts B initId) (SF : StoreFacts B bmB "object.__setattr__" "object") (iC : findIn K (.ref C) "__init__" = some (some (.ref fI)))
    (lk : K.lookup fI = some ⟨.type "function", od, .func (ksFn nm qual (defArgs st) (defBody st) (defScope st) .none kV dc pm an (.ref cda) ct cc), osl⟩)
    (hb : ∀ (kV dc pm : Value) (an : Option Addr) (cd ct : Value) (u v : Value), bindArgs (ksFn nm qual (defArgs st) (defBody st) (defScope st) .none kV dc pm an cd ct cc) ⟨[u, v], []⟩ = pure [(sf, u), (y, v)])
    (h1 : iniB y fld sf (defBody st) = true) (h2 : iniSc y sf (defArgs st) (defScope st) = true) (h3 : inkB K C cda cc qual fld B newId initId bmB prog.main.file = true) (htop : (prog.main.scope.names.lookup ("super" : Str)).isSome = false) :
    findIn K (.ref C) fld = some none ∧ ∃ fI B newId initId bmB cda cc nm qual params scope y sf, IniC prog K C fI fld B newId initId bmB cda cc nm qual params scope y sf := by
  simp only [inkB, Bool.and_eq_true] at h3
  obtain ⟨⟨⟨⟨⟨⟨⟨⟨⟨⟨⟨⟨k1, k2⟩, k3⟩, k4⟩, k5⟩, k6⟩, k7⟩, k8⟩, k9⟩, k10⟩, k11⟩, k12⟩, k13⟩ := h3
  obtain ⟨p0, p1, p2, p3, p4, p5, p6, p7, p8, p9, eb, hl⟩ := iniB_of h1
  simp only [iniSc, Bool.and_eq_true, decide_eq_true_eq, Bool.not_eq_true', List.all_eq_true] at h2
  obtain ⟨⟨⟨⟨⟨⟨⟨⟨⟨⟨⟨s1, s2⟩, s3⟩, s4⟩, s5⟩, s6⟩, s7⟩, s8⟩, s9⟩, s10⟩, s11⟩, s12⟩ := h2
  refine ⟨isV_of k13, fI, B, newId, initId, bmB, cda, cc, nm, qual, defArgs st, defScope st, y, sf, ?_⟩
  refine { FB := FB, KF := KF, SF := SF, q := k1, iC := iC, fn := ?_, hcd := k2, code := ?_, cell := ?_, sub := isO_of k5, htop := htop, hopq := isV_of k6, hm := isV_of k7, hB := isO_of k8, tk := isV_of k9, sa := isV_of k10, over := k11, hd := k12, par := s1, ks := s2, kc := s3, ksf := s4, ky := s5, ne := s6, kind := ?_, nc := s8, co := s9, gen := s10, dy := s11, ds := s12 }
  · refine ⟨_, od, osl, .none, kV, dc, pm, an, ct, p0, p1, p2, p3, p4, p5, p6, p7, p8, p9, rfl, hl, ?_, fun u v => ?_⟩
    · rw [← eb]
      exact lk
    · rw [← eb]
      exact hb _ _ _ _ _ _ _ _
  · unfold fileB at k3
    split at k3
    · rename_i c d vs sl e
      split at k3
      · rename_i f t ev
        exact ⟨c, d, vs, sl, f, t, e, ev, k3⟩
      · cases k3
    · cases k3
  · unfold cellB at k4
    split at k4
    · rename_i c d D sl e
      rw [beq_iff_eq.mp k4] at e
      exact ⟨c, d, sl, e⟩
    · cases k4
  · split at s7
    · rename_i e
      exact e
    · cases s7
/-- each class is its own alone -/
def exmB (K : Fg) (l : List (Nat × Addr)) : Bool := l.all fun p => l.all fun q => isO (exmOne K (.ref p.2) (.ref q.2)) (decide (p.1 = q.1))
def adOf (l : List (Nat × Addr)) (c : Nat) : Addr := (l.lookup c).getD 0
theorem xs_of {prog : Program} {K : Fg} {mg : Str → Option Value} (l : List (Nat × Addr)) (hn : (l.map (·.1)).Nodup) (hx : exmB K l = true) (hk : ∀ p ∈ l, ∃ k, xcs[p.1]? = some k ∧ XcOk prog K mg k p.2) : XsOk prog K mg (l.map (·.1)) := by
  have look : ∀ {l : List (Nat × Addr)}, (l.map (·.1)).Nodup → ∀ p ∈ l, l.lookup p.1 = some p.2 := by
    intro l
    induction l with
    | nil => intro _ p hp; cases hp
    | cons q r ih =>
      intro hn p hp
      simp only [List.map_cons, List.nodup_cons] at hn
      rcases List.mem_cons.mp hp with rfl | hpr
      · obtain ⟨a, b⟩ := p
        simp [List.lookup]
      · have ne : p.1 ≠ q.1 := fun e => hn.1 (e ▸ List.mem_map.mpr ⟨p, hpr, rfl⟩)
        obtain ⟨a, b⟩ := q
        have e : (p.1 == a) = false := by simpa using ne
        simp only [List.lookup, e]
        exact ih hn.2 p hpr
  have ad : ∀ p ∈ l, adOf l p.1 = p.2 := fun p hp => by
    unfold adOf
    rw [look hn p hp]
    rfl
  refine ⟨adOf l, fun c hc => ?_⟩
  obtain ⟨p, hp, rfl⟩ := List.mem_map.mp hc
  refine ⟨?_, fun c' hc' => ?_⟩
  · rw [ad p hp]
    exact hk p hp
  · obtain ⟨q, hq, rfl⟩ := List.mem_map.mp hc'
    rw [ad p hp, ad q hq]
    have := List.all_eq_true.mp hx p hp
    exact isO_of (List.all_eq_true.mp this q hq)
theorem xs_nil {prog : Program} {K : Fg} {mg : Str → Option Value} : XsOk prog K mg [] := ⟨⟨fun _ => 0, fun c hc => nomatch hc⟩⟩
end
end KN

set_option maxRecDepth 100000
set_option maxHeartbeats 4000000
namespace KN
open PySem L2 PyProof.Rows
/-! ### plain reasoning over runs of data -/
def Ok {α : Type} (m : M α) (τ : List D) (Q : α → List D → Prop) : Prop := ∃ a τ', m τ = some (a, τ') ∧ Q a τ'
theorem Ok.mono {α : Type} {m : M α} {τ : List D} {Q R : α → List D → Prop} (h : Ok m τ Q) (f : ∀ a τ', Q a τ' → R a τ') : Ok m τ R := by
  obtain ⟨a, τ', e, q⟩ := h
  exact ⟨a, τ', e, f _ _ q⟩
@[simp] theorem ok_ret {α : Type} {a : α} {τ : List D} {Q : α → List D → Prop} : Ok (M.ret a) τ Q ↔ Q a τ :=
  ⟨fun ⟨_, _, e, q⟩ => by cases e; exact q, fun q => ⟨_, _, rfl, q⟩⟩
@[simp] theorem ok_fail {α : Type} {τ : List D} {Q : α → List D → Prop} : Ok (M.fail : M α) τ Q ↔ False :=
  ⟨fun ⟨_, _, e, q⟩ => (nomatch e), False.elim⟩
@[simp] theorem ok_bnd {α β : Type} {x : M α} {f : α → M β} {τ : List D} {Q : β → List D → Prop} : Ok (x.bnd f) τ Q ↔ Ok x τ fun a τ' => Ok (f a) τ' Q :=
  ⟨fun ⟨_, _, e, q⟩ => by
    obtain ⟨a, τ1, e1, e2⟩ := bnd_some e
    exact ⟨a, τ1, e1, _, _, e2, q⟩, fun ⟨a, τ1, e1, b, τ2, e2, q⟩ => ⟨b, τ2, by unfold M.bnd; rw [e1]; exact e2, q⟩⟩
theorem ok_of {α : Type} {o : Option α} {τ : List D} {Q : α → List D → Prop} : Ok (M.of o) τ Q ↔ ∃ a, o = some a ∧ Q a τ :=
  ⟨fun ⟨a, _, e, q⟩ => by
    obtain ⟨e1, rfl⟩ := of_some e
    exact ⟨a, e1, q⟩, fun ⟨a, e, q⟩ => ⟨a, τ, by subst e; rfl, q⟩⟩
@[simp] theorem ok_of_some {α : Type} {a : α} {τ : List D} {Q : α → List D → Prop} : Ok (M.of (some a)) τ Q ↔ Q a τ := by
  rw [ok_of]
  exact ⟨fun ⟨_, e, q⟩ => by cases e; exact q, fun q => ⟨_, rfl, q⟩⟩
@[simp] theorem ok_if {α : Type} {c : Prop} [Decidable c] {m m' : M α} {τ : List D} {Q : α → List D → Prop} : Ok (if c then m else m') τ Q ↔ (c → Ok m τ Q) ∧ (¬ c → Ok m' τ Q) := by
  by_cases h : c
  · rw [if_pos h]; exact ⟨fun q => ⟨fun _ => q, fun z => absurd h z⟩, fun q => q.1 h⟩
  · rw [if_neg h]; exact ⟨fun q => ⟨fun z => absurd z h, fun _ => q⟩, fun q => q.2 h⟩
/-- a def's run -/
theorem ok_call {T : Tb} {n f : Nat} {ds : List D} {τ : List D} {Q : D → List D → Prop} {F : Fb} (hF : T f = some F) (hl : (if F.tin then ds.length + 1 else ds.length) = F.np) :
    Ok (callF T (n + 1) f ds) τ Q ↔ Ok (evSs (callF T n) F.body (env0 F ds)) τ fun o τ' => ∃ d, outD o = some d ∧ Q d τ' := by
  have : callF T (n + 1) f ds = (evSs (callF T n) F.body (env0 F ds)).bnd fun o => .of (outD o) := by
    rw [callF]
    simp only [hF]
    rw [if_pos hl]
  rw [this, ok_bnd]
  simp only [ok_of]
def envI (tin : Bool) (k : Nat) (ds : List D) : En := (if tin then [some Ent.tin] else []) ++ ds.map (fun d => some (Ent.dat d)) ++ List.replicate k none
/-- def f of the table: its body, whether it draws, how many parameters and names it has -/
def Is (T : Tb) (f : Nat) (b : List S) (tin : Bool) (p nn : Nat) : Prop := T f = some ⟨b, tin, p, nn⟩
theorem ok_is {T : Tb} {n f : Nat} {b : List S} {tin : Bool} {p nn : Nat} {ds : List D} {τ : List D} {Q : D → List D → Prop} (h : Is T f b tin p nn) (hl : (if tin then ds.length + 1 else ds.length) = p) :
    Ok (callF T (n + 1) f ds) τ Q ↔ Ok (evSs (callF T n) b (envI tin (nn - p) ds)) τ fun o τ' => ∃ d, outD o = some d ∧ Q d τ' :=
  ok_call h hl
/-- loops: what holds of what is left -/
theorem ok_loop {f : D → En → M Out} {Q : Out → List D → Prop} (I : List D → En → List D → Prop)
    (hs : ∀ d r ρ τ, I (d :: r) ρ τ → Ok (f d ρ) τ fun o τ' => match o with
      | .nx ρ' => I r ρ' τ'
      | .ct ρ' => I r ρ' τ'
      | .rt x => Q (.rt x) τ')
    (he : ∀ ρ τ, I [] ρ τ → Q (.nx ρ) τ) : ∀ (items : List D) (ρ : En) (τ : List D), I items ρ τ → Ok (loopL f items ρ) τ Q
  | [], ρ, τ, h => ok_ret.2 (he ρ τ h)
  | d :: r, ρ, τ, h => by
    show Ok ((f d ρ).bnd _) τ Q
    rw [ok_bnd]
    refine (hs d r ρ τ h).mono fun o τ' q => ?_
    cases o with
    | nx ρ' => exact ok_loop I hs he r ρ' τ' q
    | ct ρ' => exact ok_loop I hs he r ρ' τ' q
    | rt x => exact ok_ret.2 q
/-- comprehensions: a fact of each made value, and what holds of the box -/
theorem ok_comp {f : D → M (Option D)} (I : List D → List D → List D → Prop) {Q : List D → List D → Prop}
    (hs : ∀ d r ys τ, I (d :: r) ys τ → Ok (f d) τ fun o τ' => match o with
      | some y => I r (ys ++ [y]) τ'
      | none => I r ys τ')
    (he : ∀ ys τ, I [] ys τ → Q ys τ) : ∀ (items ys : List D) (τ : List D), I items ys τ → Ok (compL f items) τ fun r τ' => Q (ys ++ r) τ'
  | [], ys, τ, h => ok_ret.2 (by rw [List.append_nil]; exact he ys τ h)
  | d :: r, ys, τ, h => by
    show Ok ((f d).bnd _) τ _
    rw [ok_bnd]
    refine (hs d r ys τ h).mono fun o τ' q => ?_
    rw [ok_bnd]
    cases o with
    | none =>
      refine (ok_comp I hs he r ys τ' q).mono fun r' τ2 q2 => ?_
      exact ok_ret.2 q2
    | some y =>
      refine (ok_comp I hs he r (ys ++ [y]) τ' q).mono fun r' τ2 q2 => ?_
      rw [ok_ret]
      rw [List.append_assoc] at q2
      exact q2
/-- a comprehension that leaves the box alone -/
theorem comp_map {f : D → M (Option D)} {g : D → Option D} {τ : List D} : ∀ (items : List D), (∀ d ∈ items, f d τ = some (g d, τ)) → compL f items τ = some (items.filterMap g, τ)
  | [], _ => rfl
  | d :: r, h => by
    show ((f d).bnd _) τ = _
    unfold M.bnd
    rw [h d List.mem_cons_self]
    simp only
    rw [comp_map r fun d hd => h d (List.mem_cons_of_mem _ hd), List.filterMap_cons]
    cases g d <;> rfl
/-! ### the rules of plain reasoning, as rewriting -/
@[simp] theorem ok_of' {α : Type} {o : Option α} {τ : List D} {Q : α → List D → Prop} : Ok (M.of o) τ Q ↔ ∃ a, o = some a ∧ Q a τ := ok_of
section
variable {C : Nat → List D → M D} {ρ : En} {τ : List D} {Q : D → List D → Prop} {R : List D → List D → Prop} {U : Out → List D → Prop}
@[simp] theorem okE_var {i : Nat} : Ok (evE C (.var i) ρ) τ Q ↔ ∃ d, ρ[i]? = some (some (.dat d)) ∧ Q d τ := by
  show Ok (fun τ => match ρ[i]? with
    | some (some (.dat d)) => some (d, τ)
    | _ => none) τ Q ↔ _
  constructor
  · rintro ⟨d, τ', e, q⟩
    split at e
    · rename_i h
      cases e
      exact ⟨_, h, q⟩
    · cases e
  · rintro ⟨d, e, q⟩
    exact ⟨d, τ, by simp only [e], q⟩
@[simp] theorem okE_peek {i : Nat} : Ok (evE C (.peek i) ρ) τ Q ↔ ∃ o : Od, ρ[i]? = some (some (.own o)) ∧ Q o.data τ := by
  show Ok (fun τ => match ρ[i]? with
    | some (some (.own o)) => some (o.data, τ)
    | _ => none) τ Q ↔ _
  constructor
  · rintro ⟨d, τ', e, q⟩
    split at e
    · rename_i h
      cases e
      exact ⟨_, h, q⟩
    · cases e
  · rintro ⟨d, e, q⟩
    exact ⟨_, τ, by simp only [e], q⟩
@[simp] theorem Od.data_lst {ds : List D} : (Od.lst ds).data = .list ds := rfl
@[simp] theorem Od.data_dic {ds : List (D × D)} : (Od.dic ds).data = .dict ds := rfl
@[simp] theorem okE_non : Ok (evE C .non ρ) τ Q ↔ Q .none τ := ok_ret
@[simp] theorem okE_bl {b : Bool} : Ok (evE C (.bl b) ρ) τ Q ↔ Q (.bool b) τ := ok_ret
@[simp] theorem okE_int {b : Int} : Ok (evE C (.int b) ρ) τ Q ↔ Q (.int b) τ := ok_ret
@[simp] theorem okE_str {b : Str} : Ok (evE C (.str b) ρ) τ Q ↔ Q (.str b) τ := ok_ret
@[simp] theorem okE_glob {b : Str} {c : D} : Ok (evE C (.glob b c) ρ) τ Q ↔ Q c τ := ok_ret
@[simp] theorem okE_bin {op : Operator} {a b : E} : Ok (evE C (.bin op a b) ρ) τ Q ↔ Ok (evE C a ρ) τ fun x τ1 => Ok (evE C b ρ) τ1 fun y τ2 => ∃ d, binD op x y = some d ∧ Q d τ2 := by
  show Ok ((evE C a ρ).bnd fun x => (evE C b ρ).bnd fun y => .of (binD op x y)) τ Q ↔ _
  simp only [ok_bnd, ok_of]
@[simp] theorem okE_cmp {op : CmpOp} {a b : E} : Ok (evE C (.cmp op a b) ρ) τ Q ↔ Ok (evE C a ρ) τ fun x τ1 => Ok (evE C b ρ) τ1 fun y τ2 => ∃ d, cmpD op x y = some d ∧ Q d τ2 := by
  show Ok ((evE C a ρ).bnd fun x => (evE C b ρ).bnd fun y => .of (cmpD op x y)) τ Q ↔ _
  simp only [ok_bnd, ok_of]
@[simp] theorem okE_neg {a : E} : Ok (evE C (.neg a) ρ) τ Q ↔ Ok (evE C a ρ) τ fun x τ1 => ∃ i, x = .int i ∧ Q (.int (-i)) τ1 := by
  show Ok ((evE C a ρ).bnd fun x => match x with
    | .int i => .ret (.int (-i))
    | _ => .fail) τ Q ↔ _
  rw [ok_bnd]
  constructor
  · refine fun h => h.mono fun x τ1 q => ?_
    cases x with
    | int i => exact ⟨i, rfl, ok_ret.1 q⟩
    | _ => exact (ok_fail.1 q).elim
  · refine fun h => h.mono fun x τ1 q => ?_
    obtain ⟨i, rfl, q⟩ := q
    exact ok_ret.2 q
@[simp] theorem okE_not {a : E} : Ok (evE C (.not a) ρ) τ Q ↔ Ok (evE C a ρ) τ fun x τ1 => ∃ k, truD x = some k ∧ Q (.bool (!k)) τ1 := by
  show Ok ((evE C a ρ).bnd fun x => (M.of (truD x)).bnd fun k => .ret (.bool (!k))) τ Q ↔ _
  simp only [ok_bnd, ok_of, ok_ret]
@[simp] theorem okE_and {a b : E} : Ok (evE C (.and a b) ρ) τ Q ↔ Ok (evE C a ρ) τ fun x τ1 => ∃ k, truD x = some k ∧ (k = true → Ok (evE C b ρ) τ1 Q) ∧ (k = false → Q x τ1) := by
  show Ok ((evE C a ρ).bnd fun x => (M.of (truD x)).bnd fun k => if k then evE C b ρ else .ret x) τ Q ↔ _
  simp only [ok_bnd, ok_of, ok_ret, ok_if, Bool.not_eq_true]
@[simp] theorem okE_or {a b : E} : Ok (evE C (.or a b) ρ) τ Q ↔ Ok (evE C a ρ) τ fun x τ1 => ∃ k, truD x = some k ∧ (k = true → Q x τ1) ∧ (k = false → Ok (evE C b ρ) τ1 Q) := by
  show Ok ((evE C a ρ).bnd fun x => (M.of (truD x)).bnd fun k => if k then .ret x else evE C b ρ) τ Q ↔ _
  simp only [ok_bnd, ok_of, ok_ret, ok_if, Bool.not_eq_true]
@[simp] theorem okE_ite {c a b : E} : Ok (evE C (.ite c a b) ρ) τ Q ↔ Ok (evE C c ρ) τ fun x τ1 => ∃ k, truD x = some k ∧ (k = true → Ok (evE C a ρ) τ1 Q) ∧ (k = false → Ok (evE C b ρ) τ1 Q) := by
  show Ok ((evE C c ρ).bnd fun x => (M.of (truD x)).bnd fun k => if k then evE C a ρ else evE C b ρ) τ Q ↔ _
  simp only [ok_bnd, ok_of, ok_ret, ok_if, Bool.not_eq_true]
@[simp] theorem okE_chain {o1 o2 : CmpOp} {a b c : E} : Ok (evE C (.chain o1 o2 a b c) ρ) τ Q ↔ Ok (evE C a ρ) τ fun x τ1 => Ok (evE C b ρ) τ1 fun y τ2 => ∃ k, cmpD o1 x y = some (.bool k) ∧ (k = true → Ok (evE C c ρ) τ2 fun z τ3 => ∃ d, cmpD o2 y z = some d ∧ Q d τ3) ∧ (k = false → Q (.bool false) τ2) := by
  show Ok ((evE C a ρ).bnd fun x => (evE C b ρ).bnd fun y => (M.of (cmpD o1 x y)).bnd fun r => match r with
    | .bool true => (evE C c ρ).bnd fun z => .of (cmpD o2 y z)
    | .bool false => .ret (.bool false)
    | _ => .fail) τ Q ↔ _
  simp only [ok_bnd, ok_of]
  constructor
  · refine fun h => h.mono fun x τ1 q => q.mono fun y τ2 q => ?_
    obtain ⟨r, e, q⟩ := q
    cases r with
    | bool k => cases k with
      | true => exact ⟨true, e, fun _ => by simpa only [ok_bnd, ok_of] using q, fun z => Bool.noConfusion z⟩
      | false => exact ⟨false, e, ⟨fun z => (Bool.noConfusion z), fun _ => ok_ret.1 q⟩⟩
    | _ => exact (ok_fail.1 q).elim
  · refine fun h => h.mono fun x τ1 q => q.mono fun y τ2 q => ?_
    obtain ⟨k, e, q1, q2⟩ := q
    refine ⟨_, e, ?_⟩
    cases k with
    | true => simpa only [ok_bnd, ok_of] using q1 rfl
    | false => exact ok_ret.2 (q2 rfl)
@[simp] theorem okE_bi {f : Bi} {es : List E} : Ok (evE C (.bi f es) ρ) τ Q ↔ Ok (evEs C es ρ) τ fun ds τ1 => ∃ d, biD f ds = some d ∧ Q d τ1 := by
  show Ok ((evEs C es ρ).bnd fun ds => .of (biD f ds)) τ Q ↔ _
  simp only [ok_bnd, ok_of]
@[simp] theorem okE_isi {a : E} {ts : List String} {k : Bool} : Ok (evE C (.isi a ts k) ρ) τ Q ↔ Ok (evE C a ρ) τ fun x τ1 => ∃ d, isiD x ts = some d ∧ Q d τ1 := by
  show Ok ((evE C a ρ).bnd fun ds => .of (isiD ds ts)) τ Q ↔ _
  simp only [ok_bnd, ok_of]
@[simp] theorem okE_get {a b : E} : Ok (evE C (.get a b) ρ) τ Q ↔ Ok (evE C a ρ) τ fun x τ1 => Ok (evE C b ρ) τ1 fun y τ2 => ∃ d, getD x y = some d ∧ Q d τ2 := by
  show Ok ((evE C a ρ).bnd fun x => (evE C b ρ).bnd fun y => .of (getD x y)) τ Q ↔ _
  simp only [ok_bnd, ok_of]
@[simp] theorem okE_tget {i : Nat} {b : E} : Ok (evE C (.tget i b) ρ) τ Q ↔ Ok (evE C b ρ) τ fun y τ1 => isTin ρ i = true ∧ ∃ d, getD (.list τ1) y = some d ∧ Q d τ1 := by
  show Ok ((evE C b ρ).bnd fun y τ => if isTin ρ i then (match getD (.list τ) y with
    | some d => some (d, τ)
    | none => none) else none) τ Q ↔ _
  rw [ok_bnd]
  constructor
  · refine fun h => h.mono fun x τ1 q => ?_
    obtain ⟨d, τ', e, q⟩ := q
    by_cases ht : isTin ρ i = true
    · simp only [if_pos ht] at e
      split at e
      · rename_i h1
        cases e
        exact ⟨ht, _, h1, q⟩
      · cases e
    · simp only [if_neg ht] at e
      cases e
  · refine fun h => h.mono fun x τ1 q => ?_
    obtain ⟨ht, d, e, q⟩ := q
    refine ⟨d, τ1, ?_, q⟩
    simp only [if_pos ht, e]
@[simp] theorem okE_slice {a lo hi : E} : Ok (evE C (.slice a lo hi) ρ) τ Q ↔ Ok (evE C a ρ) τ fun x τ1 => Ok (if lo.gone then .ret none else (evE C lo ρ).bnd intP) τ1 fun l τ2 => Ok (if hi.gone then .ret none else (evE C hi ρ).bnd intP) τ2 fun h τ3 => ∃ d, sliceD x l h = some d ∧ Q d τ3 := by
  show Ok ((evE C a ρ).bnd fun x => (if lo.gone then .ret none else (evE C lo ρ).bnd intP).bnd fun l => (if hi.gone then .ret none else (evE C hi ρ).bnd intP).bnd fun h => .of (sliceD x l h)) τ Q ↔ _
  simp only [ok_bnd, ok_of]
@[simp] theorem ok_intP {d : D} {V : Option Int → List D → Prop} : Ok (intP d) τ V ↔ ∃ i, d = .int i ∧ V (some i) τ := by
  cases d with
  | int i => exact ⟨fun h => ⟨i, rfl, ok_ret.1 h⟩, fun ⟨_, e, h⟩ => by cases e; exact ok_ret.2 h⟩
  | _ => exact ⟨fun h => (ok_fail.1 h).elim, fun ⟨_, e, h⟩ => nomatch e⟩
@[simp] theorem okE_rev {a : E} : Ok (evE C (.rev a) ρ) τ Q ↔ Ok (evE C a ρ) τ fun x τ1 => ∃ d, revD x = some d ∧ Q d τ1 := by
  show Ok ((evE C a ρ).bnd fun ds => .of (revD ds)) τ Q ↔ _
  simp only [ok_bnd, ok_of]
@[simp] theorem okE_sset {a : E} : Ok (evE C (.sset a) ρ) τ Q ↔ Ok (evE C a ρ) τ fun x τ1 => ∃ d, ssetD x = some d ∧ Q d τ1 := by
  show Ok ((evE C a ρ).bnd fun ds => .of (ssetD ds)) τ Q ↔ _
  simp only [ok_bnd, ok_of]
@[simp] theorem okE_lrg {es : List E} : Ok (evE C (.lrg es) ρ) τ Q ↔ Ok (evEs C es ρ) τ fun ds τ1 => ∃ d, lrgD ds = some d ∧ Q d τ1 := by
  show Ok ((evEs C es ρ).bnd fun ds => .of (lrgD ds)) τ Q ↔ _
  simp only [ok_bnd, ok_of]
@[simp] theorem okE_lst {es : List E} : Ok (evE C (.lst es) ρ) τ Q ↔ Ok (evEs C es ρ) τ fun ds τ1 => ds.length ≤ 16777216 ∧ Q (.list ds) τ1 := by
  show Ok ((evEs C es ρ).bnd fun ds => if lineOk ds.length then .ret (.list ds) else .fail) τ Q ↔ _
  simp only [ok_bnd, ok_of, ok_if, ok_ret, ok_fail, lineOk, decide_eq_true_eq]
  constructor
  · refine fun h => h.mono fun x τ1 q => ?_
    by_cases h : x.length ≤ 16777216
    · exact ⟨h, q.1 h⟩
    · exact (q.2 h).elim
  · exact fun h => h.mono fun x τ1 q => ⟨fun _ => q.2, fun z => z q.1⟩
@[simp] theorem okE_tup {es : List E} : Ok (evE C (.tup es) ρ) τ Q ↔ Ok (evEs C es ρ) τ fun ds τ1 => ds.length ≤ 16777216 ∧ Q (.tuple ds) τ1 := by
  show Ok ((evEs C es ρ).bnd fun ds => if lineOk ds.length then .ret (.tuple ds) else .fail) τ Q ↔ _
  simp only [ok_bnd, ok_of, ok_if, ok_ret, ok_fail, lineOk, decide_eq_true_eq]
  constructor
  · refine fun h => h.mono fun x τ1 q => ?_
    by_cases h : x.length ≤ 16777216
    · exact ⟨h, q.1 h⟩
    · exact (q.2 h).elim
  · exact fun h => h.mono fun x τ1 q => ⟨fun _ => q.2, fun z => z q.1⟩
/-- a def that draws nothing gives d -/
def Gives (C : Nat → List D → M D) (f : Nat) (ds : List D) (d : D) : Prop := ∃ τ', C f ds [] = some (d, τ')
theorem Gives.one {f : Nat} {ds : List D} {d d' : D} (h : Gives C f ds d) (h' : Gives C f ds d') : d = d' := by
  obtain ⟨_, e⟩ := h
  obtain ⟨_, e'⟩ := h'
  rw [e] at e'
  cases e'
  rfl
theorem ok_pure {f : Nat} {ds : List D} : Ok (fun τ => match C f ds [] with
    | some (d, _) => some (d, τ)
    | none => none) τ Q ↔ ∃ d, Gives C f ds d ∧ Q d τ := by
  constructor
  · rintro ⟨d, τ', e, q⟩
    simp only at e
    split at e
    · rename_i h
      cases e
      exact ⟨_, ⟨_, h⟩, q⟩
    · cases e
  · rintro ⟨d, ⟨t, e⟩, q⟩
    exact ⟨d, τ, by simp only [e], q⟩
@[simp] theorem okE_call {f : Nat} {es : List E} : Ok (evE C (.call f es) ρ) τ Q ↔ Ok (evEs C es ρ) τ fun ds τ1 => ∃ d, Gives C f ds d ∧ Q d τ1 := by
  show Ok ((evEs C es ρ).bnd fun ds τ => match C f ds [] with
    | some (d, _) => some (d, τ)
    | none => none) τ Q ↔ _
  simp only [ok_bnd, ok_pure]
@[simp] theorem okE_callN {f : Nat} {es : List E} : Ok (evE C (.callN f es) ρ) τ Q ↔ Ok (evEs C es ρ) τ fun ds τ1 => ∃ d, Gives C f ds d ∧ Q d τ1 := by
  show Ok ((evEs C es ρ).bnd fun ds τ => match C f ds [] with
    | some (d, _) => some (d, τ)
    | none => none) τ Q ↔ _
  simp only [ok_bnd, ok_pure]
@[simp] theorem okE_callK {f : Nat} {perm : List Nat} {es ks : List E} : Ok (evE C (.callK f perm es ks) ρ) τ Q ↔ Ok (evEs C es ρ) τ fun ds τ1 => Ok (evEs C ks ρ) τ1 fun zs τ2 => ∃ d, Gives C f (permL perm (ds ++ zs)) d ∧ Q d τ2 := by
  show Ok ((evEs C es ρ).bnd fun ds => (evEs C ks ρ).bnd fun zs τ => match C f (permL perm (ds ++ zs)) [] with
    | some (d, _) => some (d, τ)
    | none => none) τ Q ↔ _
  simp only [ok_bnd, ok_pure]
@[simp] theorem okE_callT {f i : Nat} {es : List E} : Ok (evE C (.callT f i es) ρ) τ Q ↔ Ok (evEs C es ρ) τ fun ds τ1 => isTin ρ i = true ∧ Ok (C f ds) τ1 Q := by
  show Ok ((evEs C es ρ).bnd fun ds τ => if isTin ρ i then C f ds τ else none) τ Q ↔ _
  rw [ok_bnd]
  constructor
  · refine fun h => h.mono fun x τ1 q => ?_
    obtain ⟨d, τ', e, q⟩ := q
    by_cases ht : isTin ρ i = true
    · simp only [if_pos ht] at e
      exact ⟨ht, _, _, e, q⟩
    · simp only [if_neg ht] at e
      cases e
  · refine fun h => h.mono fun x τ1 q => ?_
    obtain ⟨ht, d, τ', e, q⟩ := q
    exact ⟨d, τ', by simp only [if_pos ht, e], q⟩
@[simp] theorem okE_callR {f : Nat} {e : E} {es : List E} : Ok (evE C (.callR f e es) ρ) τ Q ↔ Ok (evE C e ρ) τ fun x τ1 => Ok (evEs C es ρ) τ1 fun ds τ2 => ∃ τ0, x = .list τ0 ∧ Ok (C f ds) τ0 fun d _ => Q d τ2 := by
  show Ok ((evE C e ρ).bnd fun x => (evEs C es ρ).bnd fun ds τ => match x with
    | .list τ0 => match C f ds τ0 with
      | some (d, _) => some (d, τ)
      | none => none
    | _ => none) τ Q ↔ _
  simp only [ok_bnd]
  constructor
  · refine fun h => h.mono fun x τ1 q => q.mono fun ds τ2 q => ?_
    obtain ⟨d, τ', e, q⟩ := q
    simp only at e
    split at e
    · rename_i τ0
      split at e
      · rename_i h1
        cases e
        exact ⟨τ0, rfl, _, _, h1, q⟩
      · cases e
    · cases e
  · refine fun h => h.mono fun x τ1 q => q.mono fun ds τ2 q => ?_
    obtain ⟨τ0, rfl, d, τ', e, q⟩ := q
    exact ⟨d, τ2, by simp only [e], q⟩
@[simp] theorem okE_comp {elt : E} {tg : Tg} {ik : IK} {src : List E} {cond : E} : Ok (evE C (.comp elt tg ik src cond) ρ) τ Q ↔ Ok (evEs C src ρ) τ fun xs τ1 => ∃ items, walkC ik xs = some items ∧
    Ok (compL (fun d => (M.of (setTg tg d (wipeE ρ tg.slots))).bnd fun ρ' => (if cond.gone then .ret true else (evE C cond ρ').bnd fun x => .of (truD x)).bnd fun k => if k then (evE C elt ρ').bnd fun y => .ret (some y) else .ret none) items) τ1 fun ys τ2 => Q (.list ys) τ2 := by
  show Ok ((evEs C src ρ).bnd fun xs => (M.of (walkC ik xs)).bnd fun items =>
    (compL (fun d => (M.of (setTg tg d (wipeE ρ tg.slots))).bnd fun ρ' => (if cond.gone then .ret true else (evE C cond ρ').bnd fun x => .of (truD x)).bnd fun k => if k then (evE C elt ρ').bnd fun y => .ret (some y) else .ret none) items).bnd fun ys => .ret (.list ys)) τ Q ↔ _
  rw [ok_bnd]
  simp only [ok_bnd (x := M.of (walkC ik _)), ok_of]
  constructor
  · refine fun h => h.mono fun x τ1 q => ?_
    obtain ⟨it, e, q⟩ := q
    exact ⟨it, e, (ok_bnd.1 q).mono fun ys τ2 q => ok_ret.1 q⟩
  · refine fun h => h.mono fun x τ1 q => ?_
    obtain ⟨it, e, q⟩ := q
    exact ⟨it, e, ok_bnd.2 (q.mono fun ys τ2 q => ok_ret.2 q)⟩
@[simp] theorem okE_comp2 {elt : E} {tg : Tg} {ik : IK} {src : List E} {cond : E} {tg1 : Tg} {ik1 : IK} {src1 : List E} {cond1 : E} : Ok (evE C (.comp2 elt tg ik src cond tg1 ik1 src1 cond1) ρ) τ Q ↔ Ok (evEs C src ρ) τ fun xs τ1 => ∃ items, walkC ik xs = some items ∧
    Ok (comp2L (fun d => (M.of (setTg tg d (wipeE ρ (tg.slots ++ tg1.slots)))).bnd fun ρ' => (if cond.gone then .ret true else (evE C cond ρ').bnd fun x => .of (truD x)).bnd fun k => if k then
        (evEs C src1 ρ').bnd fun xs => (M.of (walkC ik1 xs)).bnd fun items =>
          compL (fun d => (M.of (setTg tg1 d (wipeE ρ' tg1.slots))).bnd fun ρ'' => (if cond1.gone then .ret true else (evE C cond1 ρ'').bnd fun x => .of (truD x)).bnd fun k => if k then (evE C elt ρ'').bnd fun y => .ret (some y) else .ret none) items
      else .ret []) items) τ1 fun ys τ2 => ys.length ≤ 16777216 ∧ Q (.list ys) τ2 := by
  show Ok ((evEs C src ρ).bnd fun xs => (M.of (walkC ik xs)).bnd fun items =>
    (comp2L (fun d => (M.of (setTg tg d (wipeE ρ (tg.slots ++ tg1.slots)))).bnd fun ρ' => (if cond.gone then .ret true else (evE C cond ρ').bnd fun x => .of (truD x)).bnd fun k => if k then
        (evEs C src1 ρ').bnd fun xs => (M.of (walkC ik1 xs)).bnd fun items =>
          compL (fun d => (M.of (setTg tg1 d (wipeE ρ' tg1.slots))).bnd fun ρ'' => (if cond1.gone then .ret true else (evE C cond1 ρ'').bnd fun x => .of (truD x)).bnd fun k => if k then (evE C elt ρ'').bnd fun y => .ret (some y) else .ret none) items
      else .ret []) items).bnd fun ys => if lineOk ys.length then .ret (.list ys) else .fail) τ Q ↔ _
  rw [ok_bnd]
  simp only [ok_bnd (x := M.of (walkC ik _)), ok_of]
  constructor
  · refine fun h => h.mono fun x τ1 q => ?_
    obtain ⟨it, e, q⟩ := q
    refine ⟨it, e, (ok_bnd.1 q).mono fun ys τ2 q => ?_⟩
    simp only [ok_if, ok_ret, ok_fail, lineOk, decide_eq_true_eq] at q
    by_cases h : ys.length ≤ 16777216
    · exact ⟨h, q.1 h⟩
    · exact (q.2 h).elim
  · refine fun h => h.mono fun x τ1 q => ?_
    obtain ⟨it, e, q⟩ := q
    refine ⟨it, e, ok_bnd.2 (q.mono fun ys τ2 q => ?_)⟩
    simp only [ok_if, ok_ret, ok_fail, lineOk, decide_eq_true_eq]
    exact ⟨fun _ => q.2, fun z => z q.1⟩
@[simp] theorem okE_dcomp {ke ve : E} {tg : Tg} {ik : IK} {src : List E} {cond : E} : Ok (evE C (.dcomp ke ve tg ik src cond) ρ) τ Q ↔ Ok (evEs C src ρ) τ fun xs τ1 => ∃ items, walkC ik xs = some items ∧
    Ok (compL (fun d => (M.of (setTg tg d (wipeE ρ tg.slots))).bnd fun ρ' => (if cond.gone then .ret true else (evE C cond ρ').bnd fun x => .of (truD x)).bnd fun k => if k then (evE C ke ρ').bnd fun y => (evE C ve ρ').bnd fun z => .ret (some (.tuple [y, z])) else .ret none) items) τ1 fun ys τ2 => ∃ kvs, pairsD ys = some kvs ∧ Q (.dict (mergeKD [] kvs)) τ2 := by
  show Ok ((evEs C src ρ).bnd fun xs => (M.of (walkC ik xs)).bnd fun items =>
    (compL (fun d => (M.of (setTg tg d (wipeE ρ tg.slots))).bnd fun ρ' => (if cond.gone then .ret true else (evE C cond ρ').bnd fun x => .of (truD x)).bnd fun k => if k then (evE C ke ρ').bnd fun y => (evE C ve ρ').bnd fun z => .ret (some (.tuple [y, z])) else .ret none) items).bnd fun ys =>
      (M.of (pairsD ys)).bnd fun kvs => .ret (.dict (mergeKD [] kvs))) τ Q ↔ _
  rw [ok_bnd]
  simp only [ok_bnd (x := M.of (walkC ik _)), ok_of]
  constructor
  · refine fun h => h.mono fun x τ1 q => ?_
    obtain ⟨it, e, q⟩ := q
    exact ⟨it, e, (ok_bnd.1 q).mono fun ys τ2 q => by simpa only [ok_bnd, ok_of, ok_ret] using q⟩
  · refine fun h => h.mono fun x τ1 q => ?_
    obtain ⟨it, e, q⟩ := q
    exact ⟨it, e, ok_bnd.2 (q.mono fun ys τ2 q => by simpa only [ok_bnd, ok_of, ok_ret] using q)⟩
@[simp] theorem okE_dic0 : Ok (evE C .dic0 ρ) τ Q ↔ Q (.dict []) τ := ok_ret
@[simp] theorem okE_dic1 {a b : E} : Ok (evE C (.dic1 a b) ρ) τ Q ↔ Ok (evE C a ρ) τ fun y τ1 => Ok (evE C b ρ) τ1 fun z τ2 => isKey y = true ∧ Q (.dict [(y, z)]) τ2 := by
  show Ok ((evE C a ρ).bnd fun y => (evE C b ρ).bnd fun z => if isKey y then .ret (.dict [(y, z)]) else .fail) τ Q ↔ _
  simp only [ok_bnd, ok_if, ok_ret, ok_fail]
  constructor
  · refine fun h => h.mono fun y τ1 q => q.mono fun z τ2 q => ?_
    by_cases h : isKey y = true
    · exact ⟨h, q.1 h⟩
    · exact (q.2 h).elim
  · exact fun h => h.mono fun y τ1 q => q.mono fun z τ2 q => ⟨fun _ => q.2, fun z => z q.1⟩
@[simp] theorem okE_idx {a b : E} : Ok (evE C (.idx a b) ρ) τ Q ↔ Ok (evE C a ρ) τ fun x τ1 => Ok (evE C b ρ) τ1 fun y τ2 => ∃ r, idxD x y = some r ∧ Q r τ2 := by
  show Ok ((evE C a ρ).bnd fun x => (evE C b ρ).bnd fun y => .of (idxD x y)) τ Q ↔ _
  simp only [ok_bnd, ok_of]
@[simp] theorem okE_sitm {a : E} : Ok (evE C (.sitm a) ρ) τ Q ↔ Ok (evE C a ρ) τ fun x τ1 => ∃ r, sitmD x = some r ∧ Q r τ1 := by
  show Ok ((evE C a ρ).bnd fun x => .of (sitmD x)) τ Q ↔ _
  simp only [ok_bnd, ok_of]
@[simp] theorem okE_dget {a k x : E} : Ok (evE C (.dget a k x) ρ) τ Q ↔ Ok (evE C a ρ) τ fun d τ1 => Ok (evE C k ρ) τ1 fun y τ2 => Ok (evE C x ρ) τ2 fun z τ3 => ∃ r, dgetD d y z = some r ∧ Q r τ3 := by
  show Ok ((evE C a ρ).bnd fun d => (evE C k ρ).bnd fun y => (evE C x ρ).bnd fun z => .of (dgetD d y z)) τ Q ↔ _
  simp only [ok_bnd, ok_of]
@[simp] theorem okEs_nil : Ok (evEs C [] ρ) τ R ↔ R [] τ := ok_ret
@[simp] theorem okEs_star {e : E} {r : List E} : Ok (evEs C (.star e :: r) ρ) τ R ↔ Ok (evE C e ρ) τ fun x τ1 => ∃ xs, seqD x = some xs ∧ Ok (evEs C r ρ) τ1 fun ys τ2 => R (xs ++ ys) τ2 := by
  show Ok ((evE C e ρ).bnd fun x => (M.of (seqD x)).bnd fun xs => (evEs C r ρ).bnd fun ys => .ret (xs ++ ys)) τ R ↔ _
  simp only [ok_bnd, ok_of, ok_ret]
def E.isStar : E → Bool
  | .star _ => true
  | _ => false
theorem okEs_cons {e : E} {r : List E} (h : e.isStar = false) : Ok (evEs C (e :: r) ρ) τ R ↔ Ok (evE C e ρ) τ fun x τ1 => Ok (evEs C r ρ) τ1 fun ys τ2 => R (x :: ys) τ2 := by
  have : evEs C (e :: r) ρ = (evE C e ρ).bnd fun x => (evEs C r ρ).bnd fun ys => .ret (x :: ys) := by
    cases e <;> first | rfl | cases h
  rw [this]
  simp only [ok_bnd, ok_ret]
@[simp] theorem gone_var {i : Nat} : (E.var i).gone = false := rfl
@[simp] theorem gone_peek {i : Nat} : (E.peek i).gone = false := rfl
@[simp] theorem gone_non  : (E.non).gone = false := rfl
@[simp] theorem gone_bl {b : Bool} : (E.bl b).gone = false := rfl
@[simp] theorem gone_int {k : Int} : (E.int k).gone = false := rfl
@[simp] theorem gone_str {x : Str} : (E.str x).gone = false := rfl
@[simp] theorem gone_glob {x : Str} {z : D} : (E.glob x z).gone = false := rfl
@[simp] theorem gone_bin {op : Operator} {a : E} {b : E} : (E.bin op a b).gone = false := rfl
@[simp] theorem gone_cmp {cp : CmpOp} {a : E} {b : E} : (E.cmp cp a b).gone = false := rfl
@[simp] theorem gone_chain {cp : CmpOp} {cq : CmpOp} {a : E} {b : E} {c : E} : (E.chain cp cq a b c).gone = false := rfl
@[simp] theorem gone_neg {a : E} : (E.neg a).gone = false := rfl
@[simp] theorem gone_not {a : E} : (E.not a).gone = false := rfl
@[simp] theorem gone_and {a : E} {b : E} : (E.and a b).gone = false := rfl
@[simp] theorem gone_or {a : E} {b : E} : (E.or a b).gone = false := rfl
@[simp] theorem gone_ite {c : E} {a : E} {b : E} : (E.ite c a b).gone = false := rfl
@[simp] theorem gone_bi {f : Bi} {es : List E} : (E.bi f es).gone = false := rfl
@[simp] theorem gone_isi {a : E} {ts : List String} {tu : Bool} : (E.isi a ts tu).gone = false := rfl
@[simp] theorem gone_tget {i : Nat} {b : E} : (E.tget i b).gone = false := rfl
@[simp] theorem gone_get {a : E} {b : E} : (E.get a b).gone = false := rfl
@[simp] theorem gone_slice {a : E} {b : E} {c : E} : (E.slice a b c).gone = false := rfl
@[simp] theorem gone_sset {a : E} : (E.sset a).gone = false := rfl
@[simp] theorem gone_lrg {es : List E} : (E.lrg es).gone = false := rfl
@[simp] theorem gone_rev {a : E} : (E.rev a).gone = false := rfl
@[simp] theorem gone_lst {es : List E} : (E.lst es).gone = false := rfl
@[simp] theorem gone_tup {es : List E} : (E.tup es).gone = false := rfl
@[simp] theorem gone_call {i : Nat} {es : List E} : (E.call i es).gone = false := rfl
@[simp] theorem gone_callN {i : Nat} {es : List E} : (E.callN i es).gone = false := rfl
@[simp] theorem gone_callK {i : Nat} {pm : List Nat} {es : List E} {ks : List E} : (E.callK i pm es ks).gone = false := rfl
@[simp] theorem gone_callT {i : Nat} {j : Nat} {es : List E} : (E.callT i j es).gone = false := rfl
@[simp] theorem gone_callR {i : Nat} {a : E} {es : List E} : (E.callR i a es).gone = false := rfl
@[simp] theorem gone_comp {a : E} {tg : Tg} {ik : IK} {es : List E} {b : E} : (E.comp a tg ik es b).gone = false := rfl
@[simp] theorem gone_comp2 {a : E} {tg : Tg} {ik : IK} {es : List E} {b : E} {tg1 : Tg} {ik1 : IK} {es1 : List E} {b1 : E} : (E.comp2 a tg ik es b tg1 ik1 es1 b1).gone = false := rfl
@[simp] theorem gone_dcomp {ke ve : E} {tg : Tg} {ik : IK} {es : List E} {b : E} : (E.dcomp ke ve tg ik es b).gone = false := rfl
@[simp] theorem gone_dic0  : E.dic0.gone = false := rfl
@[simp] theorem gone_dic1 {a b : E} : (E.dic1 a b).gone = false := rfl
@[simp] theorem gone_idx {a b : E} : (E.idx a b).gone = false := rfl
@[simp] theorem gone_sitm {a : E} : (E.sitm a).gone = false := rfl
@[simp] theorem gone_dget {a b c : E} : (E.dget a b c).gone = false := rfl
@[simp] theorem gone_absent : E.absent.gone = true := rfl
@[simp] theorem okEs_var {i : Nat} {r : List E} : Ok (evEs C (E.var i :: r) ρ) τ R ↔ Ok (evE C (E.var i) ρ) τ fun y τ1 => Ok (evEs C r ρ) τ1 fun ys τ2 => R (y :: ys) τ2 := okEs_cons rfl
@[simp] theorem okEs_peek {i : Nat} {r : List E} : Ok (evEs C (E.peek i :: r) ρ) τ R ↔ Ok (evE C (E.peek i) ρ) τ fun y τ1 => Ok (evEs C r ρ) τ1 fun ys τ2 => R (y :: ys) τ2 := okEs_cons rfl
@[simp] theorem okEs_non  {r : List E} : Ok (evEs C (E.non :: r) ρ) τ R ↔ Ok (evE C (E.non) ρ) τ fun y τ1 => Ok (evEs C r ρ) τ1 fun ys τ2 => R (y :: ys) τ2 := okEs_cons rfl
@[simp] theorem okEs_bl {b : Bool} {r : List E} : Ok (evEs C (E.bl b :: r) ρ) τ R ↔ Ok (evE C (E.bl b) ρ) τ fun y τ1 => Ok (evEs C r ρ) τ1 fun ys τ2 => R (y :: ys) τ2 := okEs_cons rfl
@[simp] theorem okEs_int {k : Int} {r : List E} : Ok (evEs C (E.int k :: r) ρ) τ R ↔ Ok (evE C (E.int k) ρ) τ fun y τ1 => Ok (evEs C r ρ) τ1 fun ys τ2 => R (y :: ys) τ2 := okEs_cons rfl
@[simp] theorem okEs_str {x : Str} {r : List E} : Ok (evEs C (E.str x :: r) ρ) τ R ↔ Ok (evE C (E.str x) ρ) τ fun y τ1 => Ok (evEs C r ρ) τ1 fun ys τ2 => R (y :: ys) τ2 := okEs_cons rfl
@[simp] theorem okEs_glob {x : Str} {z : D} {r : List E} : Ok (evEs C (E.glob x z :: r) ρ) τ R ↔ Ok (evE C (E.glob x z) ρ) τ fun y τ1 => Ok (evEs C r ρ) τ1 fun ys τ2 => R (y :: ys) τ2 := okEs_cons rfl
@[simp] theorem okEs_bin {op : Operator} {a : E} {b : E} {r : List E} : Ok (evEs C (E.bin op a b :: r) ρ) τ R ↔ Ok (evE C (E.bin op a b) ρ) τ fun y τ1 => Ok (evEs C r ρ) τ1 fun ys τ2 => R (y :: ys) τ2 := okEs_cons rfl
@[simp] theorem okEs_cmp {cp : CmpOp} {a : E} {b : E} {r : List E} : Ok (evEs C (E.cmp cp a b :: r) ρ) τ R ↔ Ok (evE C (E.cmp cp a b) ρ) τ fun y τ1 => Ok (evEs C r ρ) τ1 fun ys τ2 => R (y :: ys) τ2 := okEs_cons rfl
@[simp] theorem okEs_chain {cp : CmpOp} {cq : CmpOp} {a : E} {b : E} {c : E} {r : List E} : Ok (evEs C (E.chain cp cq a b c :: r) ρ) τ R ↔ Ok (evE C (E.chain cp cq a b c) ρ) τ fun y τ1 => Ok (evEs C r ρ) τ1 fun ys τ2 => R (y :: ys) τ2 := okEs_cons rfl
@[simp] theorem okEs_neg {a : E} {r : List E} : Ok (evEs C (E.neg a :: r) ρ) τ R ↔ Ok (evE C (E.neg a) ρ) τ fun y τ1 => Ok (evEs C r ρ) τ1 fun ys τ2 => R (y :: ys) τ2 := okEs_cons rfl
@[simp] theorem okEs_not {a : E} {r : List E} : Ok (evEs C (E.not a :: r) ρ) τ R ↔ Ok (evE C (E.not a) ρ) τ fun y τ1 => Ok (evEs C r ρ) τ1 fun ys τ2 => R (y :: ys) τ2 := okEs_cons rfl
@[simp] theorem okEs_and {a : E} {b : E} {r : List E} : Ok (evEs C (E.and a b :: r) ρ) τ R ↔ Ok (evE C (E.and a b) ρ) τ fun y τ1 => Ok (evEs C r ρ) τ1 fun ys τ2 => R (y :: ys) τ2 := okEs_cons rfl
@[simp] theorem okEs_or {a : E} {b : E} {r : List E} : Ok (evEs C (E.or a b :: r) ρ) τ R ↔ Ok (evE C (E.or a b) ρ) τ fun y τ1 => Ok (evEs C r ρ) τ1 fun ys τ2 => R (y :: ys) τ2 := okEs_cons rfl
@[simp] theorem okEs_ite {c : E} {a : E} {b : E} {r : List E} : Ok (evEs C (E.ite c a b :: r) ρ) τ R ↔ Ok (evE C (E.ite c a b) ρ) τ fun y τ1 => Ok (evEs C r ρ) τ1 fun ys τ2 => R (y :: ys) τ2 := okEs_cons rfl
@[simp] theorem okEs_bi {f : Bi} {es : List E} {r : List E} : Ok (evEs C (E.bi f es :: r) ρ) τ R ↔ Ok (evE C (E.bi f es) ρ) τ fun y τ1 => Ok (evEs C r ρ) τ1 fun ys τ2 => R (y :: ys) τ2 := okEs_cons rfl
@[simp] theorem okEs_isi {a : E} {ts : List String} {tu : Bool} {r : List E} : Ok (evEs C (E.isi a ts tu :: r) ρ) τ R ↔ Ok (evE C (E.isi a ts tu) ρ) τ fun y τ1 => Ok (evEs C r ρ) τ1 fun ys τ2 => R (y :: ys) τ2 := okEs_cons rfl
@[simp] theorem okEs_tget {i : Nat} {b : E} {r : List E} : Ok (evEs C (E.tget i b :: r) ρ) τ R ↔ Ok (evE C (E.tget i b) ρ) τ fun y τ1 => Ok (evEs C r ρ) τ1 fun ys τ2 => R (y :: ys) τ2 := okEs_cons rfl
@[simp] theorem okEs_get {a : E} {b : E} {r : List E} : Ok (evEs C (E.get a b :: r) ρ) τ R ↔ Ok (evE C (E.get a b) ρ) τ fun y τ1 => Ok (evEs C r ρ) τ1 fun ys τ2 => R (y :: ys) τ2 := okEs_cons rfl
@[simp] theorem okEs_slice {a : E} {b : E} {c : E} {r : List E} : Ok (evEs C (E.slice a b c :: r) ρ) τ R ↔ Ok (evE C (E.slice a b c) ρ) τ fun y τ1 => Ok (evEs C r ρ) τ1 fun ys τ2 => R (y :: ys) τ2 := okEs_cons rfl
@[simp] theorem okEs_lrg {es : List E} {r : List E} : Ok (evEs C (E.lrg es :: r) ρ) τ R ↔ Ok (evE C (E.lrg es) ρ) τ fun y τ1 => Ok (evEs C r ρ) τ1 fun ys τ2 => R (y :: ys) τ2 := okEs_cons rfl
@[simp] theorem okEs_sset {a : E} {r : List E} : Ok (evEs C (E.sset a :: r) ρ) τ R ↔ Ok (evE C (E.sset a) ρ) τ fun y τ1 => Ok (evEs C r ρ) τ1 fun ys τ2 => R (y :: ys) τ2 := okEs_cons rfl
@[simp] theorem okEs_rev {a : E} {r : List E} : Ok (evEs C (E.rev a :: r) ρ) τ R ↔ Ok (evE C (E.rev a) ρ) τ fun y τ1 => Ok (evEs C r ρ) τ1 fun ys τ2 => R (y :: ys) τ2 := okEs_cons rfl
@[simp] theorem okEs_lst {es : List E} {r : List E} : Ok (evEs C (E.lst es :: r) ρ) τ R ↔ Ok (evE C (E.lst es) ρ) τ fun y τ1 => Ok (evEs C r ρ) τ1 fun ys τ2 => R (y :: ys) τ2 := okEs_cons rfl
@[simp] theorem okEs_tup {es : List E} {r : List E} : Ok (evEs C (E.tup es :: r) ρ) τ R ↔ Ok (evE C (E.tup es) ρ) τ fun y τ1 => Ok (evEs C r ρ) τ1 fun ys τ2 => R (y :: ys) τ2 := okEs_cons rfl
@[simp] theorem okEs_call {i : Nat} {es : List E} {r : List E} : Ok (evEs C (E.call i es :: r) ρ) τ R ↔ Ok (evE C (E.call i es) ρ) τ fun y τ1 => Ok (evEs C r ρ) τ1 fun ys τ2 => R (y :: ys) τ2 := okEs_cons rfl
@[simp] theorem okEs_callN {i : Nat} {es : List E} {r : List E} : Ok (evEs C (E.callN i es :: r) ρ) τ R ↔ Ok (evE C (E.callN i es) ρ) τ fun y τ1 => Ok (evEs C r ρ) τ1 fun ys τ2 => R (y :: ys) τ2 := okEs_cons rfl
@[simp] theorem okEs_callK {i : Nat} {pm : List Nat} {es : List E} {ks : List E} {r : List E} : Ok (evEs C (E.callK i pm es ks :: r) ρ) τ R ↔ Ok (evE C (E.callK i pm es ks) ρ) τ fun y τ1 => Ok (evEs C r ρ) τ1 fun ys τ2 => R (y :: ys) τ2 := okEs_cons rfl
@[simp] theorem okEs_callT {i : Nat} {j : Nat} {es : List E} {r : List E} : Ok (evEs C (E.callT i j es :: r) ρ) τ R ↔ Ok (evE C (E.callT i j es) ρ) τ fun y τ1 => Ok (evEs C r ρ) τ1 fun ys τ2 => R (y :: ys) τ2 := okEs_cons rfl
@[simp] theorem okEs_callR {i : Nat} {a : E} {es : List E} {r : List E} : Ok (evEs C (E.callR i a es :: r) ρ) τ R ↔ Ok (evE C (E.callR i a es) ρ) τ fun y τ1 => Ok (evEs C r ρ) τ1 fun ys τ2 => R (y :: ys) τ2 := okEs_cons rfl
@[simp] theorem okEs_comp {a : E} {tg : Tg} {ik : IK} {es : List E} {b : E} {r : List E} : Ok (evEs C (E.comp a tg ik es b :: r) ρ) τ R ↔ Ok (evE C (E.comp a tg ik es b) ρ) τ fun y τ1 => Ok (evEs C r ρ) τ1 fun ys τ2 => R (y :: ys) τ2 := okEs_cons rfl
@[simp] theorem okEs_comp2 {a : E} {tg : Tg} {ik : IK} {es : List E} {b : E} {tg1 : Tg} {ik1 : IK} {es1 : List E} {b1 : E} {r : List E} : Ok (evEs C (E.comp2 a tg ik es b tg1 ik1 es1 b1 :: r) ρ) τ R ↔ Ok (evE C (E.comp2 a tg ik es b tg1 ik1 es1 b1) ρ) τ fun y τ1 => Ok (evEs C r ρ) τ1 fun ys τ2 => R (y :: ys) τ2 := okEs_cons rfl
@[simp] theorem okEs_dcomp {ke ve : E} {tg : Tg} {ik : IK} {es : List E} {b : E} {r : List E} : Ok (evEs C (E.dcomp ke ve tg ik es b :: r) ρ) τ R ↔ Ok (evE C (E.dcomp ke ve tg ik es b) ρ) τ fun y τ1 => Ok (evEs C r ρ) τ1 fun ys τ2 => R (y :: ys) τ2 := okEs_cons rfl
@[simp] theorem okEs_dic0  {r : List E} : Ok (evEs C (E.dic0 :: r) ρ) τ R ↔ Ok (evE C E.dic0 ρ) τ fun y τ1 => Ok (evEs C r ρ) τ1 fun ys τ2 => R (y :: ys) τ2 := okEs_cons rfl
@[simp] theorem okEs_dic1 {a b : E} {r : List E} : Ok (evEs C (E.dic1 a b :: r) ρ) τ R ↔ Ok (evE C (E.dic1 a b) ρ) τ fun y τ1 => Ok (evEs C r ρ) τ1 fun ys τ2 => R (y :: ys) τ2 := okEs_cons rfl
@[simp] theorem okEs_idx {a b : E} {r : List E} : Ok (evEs C (E.idx a b :: r) ρ) τ R ↔ Ok (evE C (E.idx a b) ρ) τ fun y τ1 => Ok (evEs C r ρ) τ1 fun ys τ2 => R (y :: ys) τ2 := okEs_cons rfl
@[simp] theorem okEs_sitm {a : E} {r : List E} : Ok (evEs C (E.sitm a :: r) ρ) τ R ↔ Ok (evE C (E.sitm a) ρ) τ fun y τ1 => Ok (evEs C r ρ) τ1 fun ys τ2 => R (y :: ys) τ2 := okEs_cons rfl
@[simp] theorem okEs_dget {a b c : E} {r : List E} : Ok (evEs C (E.dget a b c :: r) ρ) τ R ↔ Ok (evE C (E.dget a b c) ρ) τ fun y τ1 => Ok (evEs C r ρ) τ1 fun ys τ2 => R (y :: ys) τ2 := okEs_cons rfl
/-! statements -/
@[simp] theorem okS_nil : Ok (evSs C [] ρ) τ U ↔ U (.nx ρ) τ := ok_ret
/-- what comes after a statement -/
def thenS (C : Nat → List D → M D) (r : List S) (U : Out → List D → Prop) : Out → List D → Prop := fun o τ => match o with
  | .nx ρ' => Ok (evSs C r ρ') τ U
  | .ct ρ' => U (.ct ρ') τ
  | .rt x => U (.rt x) τ
@[simp] theorem okS_cons {s : S} {r : List S} : Ok (evSs C (s :: r) ρ) τ U ↔ Ok (evS C s ρ) τ (thenS C r U) := by
  show Ok ((evS C s ρ).bnd fun o => match o with
    | .nx ρ' => evSs C r ρ'
    | .ct ρ' => .ret (.ct ρ')
    | .rt x => .ret (.rt x)) τ U ↔ _
  rw [ok_bnd]
  constructor
  · refine fun h => h.mono fun o τ1 q => ?_
    cases o with
    | nx ρ' => exact q
    | ct ρ' => exact (ok_ret (Q := U)).1 q
    | rt x => exact (ok_ret (Q := U)).1 q
  · refine fun h => h.mono fun o τ1 q => ?_
    cases o with
    | nx ρ' => exact q
    | ct ρ' => exact ok_ret.2 q
    | rt x => exact ok_ret.2 q
@[simp] theorem thenS_nx {r : List S} {ρ' : En} : thenS C r U (.nx ρ') τ ↔ Ok (evSs C r ρ') τ U := Iff.rfl
@[simp] theorem thenS_ct {r : List S} {ρ' : En} : thenS C r U (.ct ρ') τ ↔ U (.ct ρ') τ := Iff.rfl
@[simp] theorem thenS_rt {r : List S} {d : D} : thenS C r U (.rt d) τ ↔ U (.rt d) τ := Iff.rfl
@[simp] theorem okS_asg {i : Nat} {e : E} : Ok (evS C (.asg i e) ρ) τ U ↔ Ok (evE C e ρ) τ fun d τ1 => U (.nx (ρ.set i (some (.dat d)))) τ1 := by
  show Ok ((evE C e ρ).bnd fun d => .ret (.nx (ρ.set i (some (.dat d))))) τ U ↔ _
  simp only [ok_bnd, ok_ret]
@[simp] theorem ok_ownAt {i : Nat} {V : Od → List D → Prop} : Ok (ownAt ρ i) τ V ↔ ∃ o, ρ[i]? = some (some (.own o)) ∧ V o τ := by
  constructor
  · rintro ⟨d, τ', e, q⟩
    unfold ownAt at e
    split at e
    · rename_i h
      cases e
      exact ⟨_, h, q⟩
    · cases e
  · rintro ⟨d, e, q⟩
    exact ⟨_, τ, by unfold ownAt; simp only [e], q⟩
@[simp] theorem ok_lstAt {i : Nat} {V : List D → List D → Prop} : Ok (lstAt ρ i) τ V ↔ ∃ ds, ρ[i]? = some (some (.own (.lst ds))) ∧ V ds τ := by
  constructor
  · rintro ⟨d, τ', e, q⟩
    obtain ⟨h, rfl⟩ := lstAt_some e
    exact ⟨_, h, q⟩
  · rintro ⟨d, e, q⟩
    exact ⟨_, τ, by unfold lstAt; simp only [e], q⟩
@[simp] theorem okS_asgO {i : Nat} {e : E} : Ok (evS C (.asgO i e) ρ) τ U ↔ Ok (evE C e ρ) τ fun d τ1 => ∃ o, odP d = some o ∧ U (.nx (ρ.set i (some (.own o)))) τ1 := by
  show Ok ((evE C e ρ).bnd fun d => (M.of (odP d)).bnd fun o => .ret (.nx (ρ.set i (some (.own o))))) τ U ↔ _
  simp only [ok_bnd, ok_ret, ok_of]
@[simp] theorem odP_list {ds : List D} : odP (.list ds) = some (.lst ds) := rfl
@[simp] theorem odP_dict {ds : List (D × D)} : odP (.dict ds) = some (.dic ds) := rfl
@[simp] theorem okS_unp {is : List Nat} {e : E} : Ok (evS C (.unp is e) ρ) τ U ↔ Ok (evE C e ρ) τ fun d τ1 => ∃ ds, d = .tuple ds ∧ ∃ ρ', setDs is ds ρ = some ρ' ∧ U (.nx ρ') τ1 := by
  show Ok ((evE C e ρ).bnd fun d => match d with
    | .tuple ds => (M.of (setDs is ds ρ)).bnd fun ρ' => .ret (.nx ρ')
    | _ => .fail) τ U ↔ _
  rw [ok_bnd]
  constructor
  · refine fun h => h.mono fun d τ1 q => ?_
    cases d with
    | tuple ds => exact ⟨ds, rfl, by simpa only [ok_bnd, ok_of, ok_ret] using q⟩
    | _ => exact (ok_fail.1 q).elim
  · refine fun h => h.mono fun d τ1 q => ?_
    obtain ⟨ds, rfl, q⟩ := q
    simpa only [ok_bnd, ok_of, ok_ret] using q
@[simp] theorem okS_par {ts : List (Nat × Bool)} {es : List E} : Ok (evS C (.par ts es) ρ) τ U ↔ Ok (evEs C es ρ) τ fun ds τ1 => ∃ ρ', setPar ts ds ρ = some ρ' ∧ U (.nx ρ') τ1 := by
  show Ok ((evEs C es ρ).bnd fun ds => (M.of (setPar ts ds ρ)).bnd fun ρ' => .ret (.nx ρ')) τ U ↔ _
  simp only [ok_bnd, ok_ret, ok_of]
@[simp] theorem setPar_nil : setPar [] [] ρ = some ρ := rfl
@[simp] theorem setPar_f {i : Nat} {is : List (Nat × Bool)} {d : D} {ds : List D} : setPar ((i, false) :: is) (d :: ds) ρ = setPar is ds (ρ.set i (some (.dat d))) := rfl
@[simp] theorem setPar_l {i : Nat} {is : List (Nat × Bool)} {d : List D} {ds : List D} : setPar ((i, true) :: is) (.list d :: ds) ρ = setPar is ds (ρ.set i (some (.own (.lst d)))) := rfl
@[simp] theorem setPar_d {i : Nat} {is : List (Nat × Bool)} {d : List (D × D)} {ds : List D} : setPar ((i, true) :: is) (.dict d :: ds) ρ = setPar is ds (ρ.set i (some (.own (.dic d)))) := rfl
@[simp] theorem okS_sto {i : Nat} {ix e : E} : Ok (evS C (.sto i ix e) ρ) τ U ↔ Ok (evE C e ρ) τ fun d τ1 => Ok (evE C ix ρ) τ1 fun k τ2 => ∃ o, ρ[i]? = some (some (.own o)) ∧ ∃ o', stoO o k d = some o' ∧ U (.nx (ρ.set i (some (.own o')))) τ2 := by
  show Ok ((evE C e ρ).bnd fun d => (evE C ix ρ).bnd fun k => (ownAt ρ i).bnd fun o => (M.of (stoO o k d)).bnd fun o' => .ret (.nx (ρ.set i (some (.own o'))))) τ U ↔ _
  simp only [ok_bnd, ok_ret, ok_ownAt, ok_of]
@[simp] theorem stoO_l {ds : List D} {k d : D} : stoO (.lst ds) k d = (stoD ds k d).map .lst := rfl
theorem stoO_d {kvs : List (D × D)} {k d : D} (h : isKey k = true) (h2 : kvs.length < 16777216) : stoO (.dic kvs) k d = some (.dic (putKD kvs k d)) := if_pos (by
  unfold lineOk
  simp only [Bool.and_eq_true, decide_eq_true_eq]
  exact ⟨h, h2⟩)
@[simp] theorem okS_stoT {i : Nat} {ix e : E} : Ok (evS C (.stoT i ix e) ρ) τ U ↔ Ok (evE C e ρ) τ fun d τ1 => Ok (evE C ix ρ) τ1 fun k τ2 => isTin ρ i = true ∧ ∃ τ', stoD τ2 k d = some τ' ∧ U (.nx ρ) τ' := by
  show Ok ((evE C e ρ).bnd fun d => (evE C ix ρ).bnd fun k τ => if isTin ρ i then (match stoD τ k d with
    | some τ' => some (.nx ρ, τ')
    | none => none) else none) τ U ↔ _
  simp only [ok_bnd]
  constructor
  · refine fun h => h.mono fun x τ1 q => q.mono fun k τ2 q => ?_
    obtain ⟨d, τ', e, q⟩ := q
    by_cases ht : isTin ρ i = true
    · simp only [if_pos ht] at e
      split at e
      · rename_i h1
        cases e
        exact ⟨ht, _, h1, q⟩
      · cases e
    · simp only [if_neg ht] at e
      cases e
  · refine fun h => h.mono fun x τ1 q => q.mono fun k τ2 q => ?_
    obtain ⟨ht, τ', e, q⟩ := q
    exact ⟨.nx ρ, τ', by simp only [if_pos ht, e], q⟩
@[simp] theorem okS_app {i : Nat} {e : E} : Ok (evS C (.app i e) ρ) τ U ↔ Ok (evE C e ρ) τ fun d τ1 => ∃ ds, ρ[i]? = some (some (.own (.lst ds))) ∧ ds.length + 1 ≤ 16777216 ∧ U (.nx (ρ.set i (some (.own (.lst (ds ++ [d])))))) τ1 := by
  show Ok ((evE C e ρ).bnd fun d => (lstAt ρ i).bnd fun ds => if lineOk (ds.length + 1) then .ret (.nx (ρ.set i (some (.own (.lst (ds ++ [d])))))) else .fail) τ U ↔ _
  simp only [ok_bnd, ok_ret, ok_lstAt, ok_if, ok_fail, lineOk, decide_eq_true_eq]
  constructor
  · refine fun h => h.mono fun d τ1 q => ?_
    obtain ⟨ds, e, q1, q2⟩ := q
    by_cases h : ds.length + 1 ≤ 16777216
    · exact ⟨ds, e, h, q1 h⟩
    · exact (q2 h).elim
  · refine fun h => h.mono fun d τ1 q => ?_
    obtain ⟨ds, e, q1, q2⟩ := q
    exact ⟨ds, e, fun _ => q2, fun z => z q1⟩
@[simp] theorem okS_extd {i : Nat} {e : E} : Ok (evS C (.extd i e) ρ) τ U ↔ Ok (evE C e ρ) τ fun d τ1 => ∃ es, d = .list es ∧ ∃ ds, ρ[i]? = some (some (.own (.lst ds))) ∧ ds.length + es.length ≤ 16777216 ∧ U (.nx (ρ.set i (some (.own (.lst (ds ++ es)))))) τ1 := by
  show Ok ((evE C e ρ).bnd fun d => (M.of (lstD d)).bnd fun es => (lstAt ρ i).bnd fun ds => if lineOk (ds.length + es.length) then .ret (.nx (ρ.set i (some (.own (.lst (ds ++ es)))))) else .fail) τ U ↔ _
  simp only [ok_bnd, ok_ret, ok_lstAt, ok_of, ok_if, ok_fail, lineOk, decide_eq_true_eq]
  constructor
  · refine fun h => h.mono fun d τ1 q => ?_
    obtain ⟨es, e0, ds, e, q1, q2⟩ := q
    have e0 : d = .list es := by cases d <;> cases e0; rfl
    by_cases h : ds.length + es.length ≤ 16777216
    · exact ⟨es, e0, ds, e, h, q1 h⟩
    · exact (q2 h).elim
  · refine fun h => h.mono fun d τ1 q => ?_
    obtain ⟨es, rfl, ds, e, q1, q2⟩ := q
    exact ⟨es, rfl, ds, e, fun _ => q2, fun z => z q1⟩
@[simp] theorem okS_pop {i : Nat} {tg : Tg} : Ok (evS C (.pop tg i) ρ) τ U ↔ ∃ ds, ρ[i]? = some (some (.own (.lst ds))) ∧ ∃ d, ds.getLast? = some d ∧ ∃ ρ', setTg tg d (ρ.set i (some (.own (.lst ds.dropLast)))) = some ρ' ∧ U (.nx ρ') τ := by
  show Ok ((lstAt ρ i).bnd fun ds => match ds.getLast? with
    | some d => (M.of (setTg tg d (ρ.set i (some (.own (.lst ds.dropLast)))))).bnd fun ρ' => M.ret (Out.nx ρ')
    | none => .fail) τ U ↔ _
  simp only [ok_bnd, ok_lstAt]
  constructor
  · rintro ⟨ds, e, q⟩
    cases hd : ds.getLast? with
    | none => simp [hd] at q
    | some d =>
      simp only [hd, ok_bnd, ok_of, ok_ret] at q
      exact ⟨ds, e, d, hd, q⟩
  · rintro ⟨ds, e, d, hd, q⟩
    refine ⟨ds, e, ?_⟩
    simp only [hd, ok_bnd, ok_of, ok_ret]
    exact q
@[simp] theorem okS_rais {c : Nat} {es : List E} : Ok (evS C (.rais c es) ρ) τ U ↔ False := ok_fail
@[simp] theorem okS_expr {e : E} : Ok (evS C (.expr e) ρ) τ U ↔ Ok (evE C e ρ) τ fun _ τ1 => U (.nx ρ) τ1 := by
  show Ok ((evE C e ρ).bnd fun _ => .ret (.nx ρ)) τ U ↔ _
  simp only [ok_bnd, ok_ret]
@[simp] theorem okS_ret {e : E} : Ok (evS C (.ret e) ρ) τ U ↔ Ok (evE C e ρ) τ fun d τ1 => U (.rt d) τ1 := by
  show Ok ((evE C e ρ).bnd fun d => .ret (.rt d)) τ U ↔ _
  simp only [ok_bnd, ok_ret]
@[simp] theorem okS_ite {c : E} {a b : List S} : Ok (evS C (.ite c a b) ρ) τ U ↔ Ok (evE C c ρ) τ fun x τ1 => ∃ k, truD x = some k ∧ (k = true → Ok (evSs C a ρ) τ1 U) ∧ (k = false → Ok (evSs C b ρ) τ1 U) := by
  show Ok ((evE C c ρ).bnd fun x => (M.of (truD x)).bnd fun k => if k then evSs C a ρ else evSs C b ρ) τ U ↔ _
  simp only [ok_bnd, ok_of, ok_ret, ok_if, Bool.not_eq_true]
@[simp] theorem okS_ask2 {i f : Nat} {a : List S} : Ok (evS C (.ask2 i f a) ρ) τ U ↔ ∃ ds, ρ[i]? = some (some (.own (.lst ds))) ∧ ∃ r, askU C f ds = some r ∧ Ok (if r.1 then evSs C a (ρ.set i (some (.own (.lst r.2)))) else .ret (.nx (ρ.set i (some (.own (.lst r.2)))))) τ U := by
  show Ok ((lstAt ρ i).bnd fun ds => (M.of (askU C f ds)).bnd fun r => if r.1 then evSs C a (ρ.set i (some (.own (.lst r.2)))) else .ret (.nx (ρ.set i (some (.own (.lst r.2)))))) τ U ↔ _
  rw [ok_bnd]
  constructor
  · rintro ⟨ds, τ1, e, h⟩
    unfold lstAt at e
    split at e
    · rename_i es ho
      cases e
      simp only [ok_bnd, ok_of] at h
      exact ⟨_, ho, h⟩
    · cases e
  · rintro ⟨ds, e, h⟩
    refine ⟨ds, τ, by unfold lstAt; rw [e], ?_⟩
    simp only [ok_bnd, ok_of]
    exact h
@[simp] theorem okS_loop {tg : Tg} {ik : IK} {src : List E} {body : List S} : Ok (evS C (.loop tg ik src body) ρ) τ U ↔ Ok (evEs C src ρ) τ fun xs τ1 => ∃ items, walkD ik xs = some items ∧ Ok (loopL (fun d ρ => (M.of (setTg tg d ρ)).bnd fun ρ' => evSs C body ρ') items ρ) τ1 U := by
  show Ok ((evEs C src ρ).bnd fun xs => (M.of (walkD ik xs)).bnd fun items =>
    loopL (fun d ρ => (M.of (setTg tg d ρ)).bnd fun ρ' => evSs C body ρ') items ρ) τ U ↔ _
  rw [ok_bnd]
  simp only [ok_bnd (x := M.of (walkD ik _)), ok_of]
@[simp] theorem okS_cont : Ok (evS C .cont ρ) τ U ↔ U (.ct ρ) τ := ok_ret
@[simp] theorem okS_pass : Ok (evS C .pass ρ) τ U ↔ U (.nx ρ) τ := ok_ret
@[simp] theorem okS_frz {i : Nat} : Ok (evS C (.frz i) ρ) τ U ↔ ∃ o : Od, ρ[i]? = some (some (.own o)) ∧ U (.nx (ρ.set i (some (.dat o.data)))) τ := by
  show Ok ((ownAt ρ i).bnd fun o => .ret (.nx (ρ.set i (some (.dat o.data))))) τ U ↔ _
  simp only [ok_bnd, ok_ret, ok_ownAt]
end
/-! data -/
section
variable {a b : Int} {xs ys : List D}
@[simp] theorem binD_add : binD .Add (.int a) (.int b) = some (.int (a + b)) := rfl
@[simp] theorem binD_sub : binD .Sub (.int a) (.int b) = some (.int (a - b)) := rfl
@[simp] theorem binD_mul (h : mulOk a b = true) : binD .Mult (.int a) (.int b) = some (.int (a * b)) := if_pos h
@[simp] theorem binD_mod (h : 0 < b) : binD .Mod (.int a) (.int b) = some (.int (a % b)) := if_pos h
@[simp] theorem binD_div (h : 0 < b) (h2 : b < 1073741824) : binD .FloorDiv (.int a) (.int b) = some (.int (a / b)) := if_pos (by simp only [Bool.and_eq_true, decide_eq_true_eq]; exact ⟨h, h2⟩)
@[simp] theorem binD_pow (h : 0 ≤ b) (h2 : b ≤ 1000000) (h3 : a.natAbs < 2 ^ 64) : binD .Pow (.int a) (.int b) = some (.int (a ^ b.toNat)) := if_pos (by simp only [Bool.and_eq_true, decide_eq_true_eq]; exact ⟨⟨h, h2⟩, h3⟩)
@[simp] theorem binD_shl (h : 0 ≤ b) (h2 : b ≤ 1000000) (h3 : a.natAbs < 2 ^ 64) : binD .LShift (.int a) (.int b) = some (.int (a * 2 ^ b.toNat)) := if_pos (by simp only [Bool.and_eq_true, decide_eq_true_eq]; exact ⟨⟨h, h2⟩, h3⟩)
@[simp] theorem binD_addL (h : xs.length + ys.length ≤ 16777216) : binD .Add (.list xs) (.list ys) = some (.list (xs ++ ys)) := if_pos (by unfold lineOk; exact decide_eq_true h)
@[simp] theorem binD_addT (h : xs.length + ys.length ≤ 16777216) : binD .Add (.tuple xs) (.tuple ys) = some (.tuple (xs ++ ys)) := if_pos (by unfold lineOk; exact decide_eq_true h)
@[simp] theorem binD_mulL {k : Int} (h : 0 ≤ k) (h2 : k < 2 ^ 20) (h3 : xs.length * k.toNat ≤ 16777216) : binD .Mult (.list xs) (.int k) = some (.list (List.replicate k.toNat xs).flatten) := if_pos (by
  unfold lineOk
  simp only [Bool.and_eq_true, decide_eq_true_eq]
  omega)
theorem ltD_int : ltD (.int a) (.int b) = some (decide (a < b)) := by
  simp [ltD, PySem.W.alike, ordD, SeqAt.shaped, PyData.canLay0, PyData.depth, lt_ii]
@[simp] theorem cmpD_lt : cmpD .Lt (.int a) (.int b) = some (.bool (decide (a < b))) := by
  show (ltD (.int a) (.int b)).map PyData.bool = _
  rw [ltD_int]; rfl
@[simp] theorem cmpD_le : cmpD .LtE (.int a) (.int b) = some (.bool (decide (a ≤ b))) := by
  show (ltD (.int b) (.int a)).map (fun k => PyData.bool !k) = _
  rw [ltD_int]
  simp only [Option.map_some, Option.some.injEq, PyData.bool.injEq]
  by_cases h : b < a <;> simp [h] <;> omega
@[simp] theorem cmpD_gt : cmpD .Gt (.int a) (.int b) = some (.bool (decide (b < a))) := by
  show (ltD (.int b) (.int a)).map PyData.bool = _
  rw [ltD_int]; rfl
@[simp] theorem cmpD_ge : cmpD .GtE (.int a) (.int b) = some (.bool (decide (b ≤ a))) := by
  show (ltD (.int a) (.int b)).map (fun k => PyData.bool !k) = _
  rw [ltD_int]
  simp only [Option.map_some, Option.some.injEq, PyData.bool.injEq]
  by_cases h : a < b <;> simp [h] <;> omega
@[simp] theorem cmpD_eqI : cmpD .Eq (.int a) (.int b) = some (.bool (decide (a = b))) := by
  simp [cmpD, SeqAt.shaped, PyData.canLay0, PyData.depth, PyData.eqv]
  exact (Bool.beq_eq_decide_eq a b)
@[simp] theorem cmpD_neI : cmpD .NotEq (.int a) (.int b) = some (.bool (!decide (a = b))) := by
  simp [cmpD, SeqAt.shaped, PyData.canLay0, PyData.depth, PyData.eqv]
  exact (Bool.beq_eq_decide_eq a b)
@[simp] theorem cmpD_eqB {p q : Bool} : cmpD .Eq (.bool p) (.bool q) = some (.bool (p == q)) := by
  simp [cmpD, SeqAt.shaped, PyData.canLay0, PyData.depth, PyData.eqv]
@[simp] theorem cmpD_neB {p q : Bool} : cmpD .NotEq (.bool p) (.bool q) = some (.bool (!(p == q))) := by
  simp [cmpD, SeqAt.shaped, PyData.canLay0, PyData.depth, PyData.eqv]
theorem cmpD_eq {d d' : D} (h : SeqAt.shaped d = true) (h' : SeqAt.shaped d' = true) : cmpD .Eq d d' = some (.bool (PyData.eqv d d')) := by
  show (if SeqAt.shaped d && SeqAt.shaped d' then _ else _) = _
  rw [h, h']
  rfl
theorem cmpD_ne {d d' : D} (h : SeqAt.shaped d = true) (h' : SeqAt.shaped d' = true) : cmpD .NotEq d d' = some (.bool (!PyData.eqv d d')) := by
  show (if SeqAt.shaped d && SeqAt.shaped d' then _ else _) = _
  rw [h, h']
  rfl
@[simp] theorem cmpD_is {d : D} : cmpD .Is d .none = some (.bool (isNone d)) := by
  cases d <;> rfl
@[simp] theorem cmpD_isnt {d : D} : cmpD .IsNot d .none = some (.bool (!isNone d)) := by
  cases d <;> rfl
@[simp] theorem isNone_none : isNone .none = true := rfl
@[simp] theorem isNone_bool {x : Bool} : isNone (.bool x) = false := rfl
@[simp] theorem isNone_int {x : Int} : isNone (.int x) = false := rfl
@[simp] theorem isNone_str {x : Str} : isNone (.str x) = false := rfl
@[simp] theorem isNone_list {x : List D} : isNone (.list x) = false := rfl
@[simp] theorem isNone_tuple {x : List D} : isNone (.tuple x) = false := rfl
@[simp] theorem truD_bool {k : Bool} : truD (.bool k) = some k := rfl
@[simp] theorem truD_none : truD .none = some false := rfl
@[simp] theorem truD_int : truD (.int a) = some (a != 0) := rfl
@[simp] theorem truD_list : truD (.list xs) = some (!xs.isEmpty) := rfl
@[simp] theorem truD_tuple : truD (.tuple xs) = some (!xs.isEmpty) := rfl
@[simp] theorem biD_lenL : biD .len [.list xs] = some (.int xs.length) := rfl
@[simp] theorem isNone_dict {x : List (D × D)} : isNone (.dict x) = false := rfl
@[simp] theorem biD_lenD {kvs : List (D × D)} : biD .len [.dict kvs] = some (.int kvs.length) := rfl
@[simp] theorem biD_listD {kvs : List (D × D)} : biD .list [.dict kvs] = some (.list (kvs.map (·.1))) := rfl
@[simp] theorem biD_lenT : biD .len [.tuple xs] = some (.int xs.length) := rfl
@[simp] theorem biD_listL : biD .list [.list xs] = some (.list xs) := rfl
@[simp] theorem biD_listT : biD .list [.tuple xs] = some (.list xs) := rfl
@[simp] theorem biD_tupleL : biD .tuple [.list xs] = some (.tuple xs) := rfl
@[simp] theorem biD_tupleT : biD .tuple [.tuple xs] = some (.tuple xs) := rfl
@[simp] theorem biD_int : biD .int [.int a] = some (.int a) := rfl
@[simp] theorem biD_intB {k : Bool} : biD .int [.bool k] = some (.int (if k then 1 else 0)) := rfl
@[simp] theorem biD_abs : biD .abs [.int a] = some (.int (if a < 0 then -a else a)) := rfl
@[simp] theorem getD_list : getD (.list xs) (.int a) = atI xs a := rfl
@[simp] theorem getD_tuple : getD (.tuple xs) (.int a) = atI xs a := rfl
@[simp] theorem atI_nat {α : Type} {l : List α} {k : Nat} : atI l (k : Int) = l[k]? := by
  unfold atI ixN
  rw [if_pos (by omega)]
  by_cases h : (k : Int) < l.length
  · rw [if_pos h]
    rfl
  · rw [if_neg h]
    exact (List.getElem?_eq_none (by omega)).symm
theorem isiD_of {d : D} {ts : List String} {b : Bool} {s : String} (e : tyD d = s) (h : kitAnyB s ts = some b) : isiD d ts = some (.bool b) := by
  subst e
  show (match kitAnyB (tyD d) ts with
    | some b => some (PyData.bool b)
    | none => none) = _
  rw [h]
theorem kit_none_tuple : kitAnyB "NoneType" ["tuple"] = some false := by decide +kernel
@[simp] theorem isi_none_tuple : isiD (.none) ["tuple"] = some (.bool false) := isiD_of rfl kit_none_tuple
theorem kit_none_bool : kitAnyB "NoneType" ["bool"] = some false := by decide +kernel
@[simp] theorem isi_none_bool : isiD (.none) ["bool"] = some (.bool false) := isiD_of rfl kit_none_bool
theorem kit_none_list_tuple : kitAnyB "NoneType" ["list", "tuple"] = some false := by decide +kernel
@[simp] theorem isi_none_list_tuple : isiD (.none) ["list", "tuple"] = some (.bool false) := isiD_of rfl kit_none_list_tuple
theorem kit_none_list : kitAnyB "NoneType" ["list"] = some false := by decide +kernel
@[simp] theorem isi_none_list : isiD (.none) ["list"] = some (.bool false) := isiD_of rfl kit_none_list
theorem kit_none_dict : kitAnyB "NoneType" ["dict"] = some false := by decide +kernel
@[simp] theorem isi_none_dict : isiD (.none) ["dict"] = some (.bool false) := isiD_of rfl kit_none_dict
theorem kit_none_int : kitAnyB "NoneType" ["int"] = some false := by decide +kernel
@[simp] theorem isi_none_int : isiD (.none) ["int"] = some (.bool false) := isiD_of rfl kit_none_int
theorem kit_none_str : kitAnyB "NoneType" ["str"] = some false := by decide +kernel
@[simp] theorem isi_none_str : isiD (.none) ["str"] = some (.bool false) := isiD_of rfl kit_none_str
theorem kit_none_bool_str : kitAnyB "NoneType" ["bool", "str"] = some false := by decide +kernel
@[simp] theorem isi_none_bool_str : isiD (.none) ["bool", "str"] = some (.bool false) := isiD_of rfl kit_none_bool_str
theorem kit_bool_tuple : kitAnyB "bool" ["tuple"] = some false := by decide +kernel
@[simp] theorem isi_bool_tuple {x : Bool} : isiD (.bool x) ["tuple"] = some (.bool false) := isiD_of rfl kit_bool_tuple
theorem kit_bool_bool : kitAnyB "bool" ["bool"] = some true := by decide +kernel
@[simp] theorem isi_bool_bool {x : Bool} : isiD (.bool x) ["bool"] = some (.bool true) := isiD_of rfl kit_bool_bool
theorem kit_bool_list_tuple : kitAnyB "bool" ["list", "tuple"] = some false := by decide +kernel
@[simp] theorem isi_bool_list_tuple {x : Bool} : isiD (.bool x) ["list", "tuple"] = some (.bool false) := isiD_of rfl kit_bool_list_tuple
theorem kit_bool_list : kitAnyB "bool" ["list"] = some false := by decide +kernel
@[simp] theorem isi_bool_list {x : Bool} : isiD (.bool x) ["list"] = some (.bool false) := isiD_of rfl kit_bool_list
theorem kit_bool_dict : kitAnyB "bool" ["dict"] = some false := by decide +kernel
@[simp] theorem isi_bool_dict {x : Bool} : isiD (.bool x) ["dict"] = some (.bool false) := isiD_of rfl kit_bool_dict
theorem kit_bool_int : kitAnyB "bool" ["int"] = some true := by decide +kernel
@[simp] theorem isi_bool_int {x : Bool} : isiD (.bool x) ["int"] = some (.bool true) := isiD_of rfl kit_bool_int
theorem kit_bool_str : kitAnyB "bool" ["str"] = some false := by decide +kernel
@[simp] theorem isi_bool_str {x : Bool} : isiD (.bool x) ["str"] = some (.bool false) := isiD_of rfl kit_bool_str
theorem kit_bool_bool_str : kitAnyB "bool" ["bool", "str"] = some true := by decide +kernel
@[simp] theorem isi_bool_bool_str {x : Bool} : isiD (.bool x) ["bool", "str"] = some (.bool true) := isiD_of rfl kit_bool_bool_str
theorem kit_int_tuple : kitAnyB "int" ["tuple"] = some false := by decide +kernel
@[simp] theorem isi_int_tuple {x : Int} : isiD (.int x) ["tuple"] = some (.bool false) := isiD_of rfl kit_int_tuple
theorem kit_int_bool : kitAnyB "int" ["bool"] = some false := by decide +kernel
@[simp] theorem isi_int_bool {x : Int} : isiD (.int x) ["bool"] = some (.bool false) := isiD_of rfl kit_int_bool
theorem kit_int_list_tuple : kitAnyB "int" ["list", "tuple"] = some false := by decide +kernel
@[simp] theorem isi_int_list_tuple {x : Int} : isiD (.int x) ["list", "tuple"] = some (.bool false) := isiD_of rfl kit_int_list_tuple
theorem kit_int_list : kitAnyB "int" ["list"] = some false := by decide +kernel
@[simp] theorem isi_int_list {x : Int} : isiD (.int x) ["list"] = some (.bool false) := isiD_of rfl kit_int_list
theorem kit_int_dict : kitAnyB "int" ["dict"] = some false := by decide +kernel
@[simp] theorem isi_int_dict {x : Int} : isiD (.int x) ["dict"] = some (.bool false) := isiD_of rfl kit_int_dict
theorem kit_int_int : kitAnyB "int" ["int"] = some true := by decide +kernel
@[simp] theorem isi_int_int {x : Int} : isiD (.int x) ["int"] = some (.bool true) := isiD_of rfl kit_int_int
theorem kit_int_str : kitAnyB "int" ["str"] = some false := by decide +kernel
@[simp] theorem isi_int_str {x : Int} : isiD (.int x) ["str"] = some (.bool false) := isiD_of rfl kit_int_str
theorem kit_int_bool_str : kitAnyB "int" ["bool", "str"] = some false := by decide +kernel
@[simp] theorem isi_int_bool_str {x : Int} : isiD (.int x) ["bool", "str"] = some (.bool false) := isiD_of rfl kit_int_bool_str
theorem kit_str_tuple : kitAnyB "str" ["tuple"] = some false := by decide +kernel
@[simp] theorem isi_str_tuple {x : Str} : isiD (.str x) ["tuple"] = some (.bool false) := isiD_of rfl kit_str_tuple
theorem kit_str_bool : kitAnyB "str" ["bool"] = some false := by decide +kernel
@[simp] theorem isi_str_bool {x : Str} : isiD (.str x) ["bool"] = some (.bool false) := isiD_of rfl kit_str_bool
theorem kit_str_list_tuple : kitAnyB "str" ["list", "tuple"] = some false := by decide +kernel
@[simp] theorem isi_str_list_tuple {x : Str} : isiD (.str x) ["list", "tuple"] = some (.bool false) := isiD_of rfl kit_str_list_tuple
theorem kit_str_list : kitAnyB "str" ["list"] = some false := by decide +kernel
@[simp] theorem isi_str_list {x : Str} : isiD (.str x) ["list"] = some (.bool false) := isiD_of rfl kit_str_list
theorem kit_str_dict : kitAnyB "str" ["dict"] = some false := by decide +kernel
@[simp] theorem isi_str_dict {x : Str} : isiD (.str x) ["dict"] = some (.bool false) := isiD_of rfl kit_str_dict
theorem kit_str_int : kitAnyB "str" ["int"] = some false := by decide +kernel
@[simp] theorem isi_str_int {x : Str} : isiD (.str x) ["int"] = some (.bool false) := isiD_of rfl kit_str_int
theorem kit_str_str : kitAnyB "str" ["str"] = some true := by decide +kernel
@[simp] theorem isi_str_str {x : Str} : isiD (.str x) ["str"] = some (.bool true) := isiD_of rfl kit_str_str
theorem kit_str_bool_str : kitAnyB "str" ["bool", "str"] = some true := by decide +kernel
@[simp] theorem isi_str_bool_str {x : Str} : isiD (.str x) ["bool", "str"] = some (.bool true) := isiD_of rfl kit_str_bool_str
theorem kit_list_tuple : kitAnyB "list" ["tuple"] = some false := by decide +kernel
@[simp] theorem isi_list_tuple {x : List D} : isiD (.list x) ["tuple"] = some (.bool false) := isiD_of rfl kit_list_tuple
theorem kit_list_bool : kitAnyB "list" ["bool"] = some false := by decide +kernel
@[simp] theorem isi_list_bool {x : List D} : isiD (.list x) ["bool"] = some (.bool false) := isiD_of rfl kit_list_bool
theorem kit_list_list_tuple : kitAnyB "list" ["list", "tuple"] = some true := by decide +kernel
@[simp] theorem isi_list_list_tuple {x : List D} : isiD (.list x) ["list", "tuple"] = some (.bool true) := isiD_of rfl kit_list_list_tuple
theorem kit_list_list : kitAnyB "list" ["list"] = some true := by decide +kernel
@[simp] theorem isi_list_list {x : List D} : isiD (.list x) ["list"] = some (.bool true) := isiD_of rfl kit_list_list
theorem kit_list_dict : kitAnyB "list" ["dict"] = some false := by decide +kernel
@[simp] theorem isi_list_dict {x : List D} : isiD (.list x) ["dict"] = some (.bool false) := isiD_of rfl kit_list_dict
theorem kit_list_int : kitAnyB "list" ["int"] = some false := by decide +kernel
@[simp] theorem isi_list_int {x : List D} : isiD (.list x) ["int"] = some (.bool false) := isiD_of rfl kit_list_int
theorem kit_list_str : kitAnyB "list" ["str"] = some false := by decide +kernel
@[simp] theorem isi_list_str {x : List D} : isiD (.list x) ["str"] = some (.bool false) := isiD_of rfl kit_list_str
theorem kit_list_bool_str : kitAnyB "list" ["bool", "str"] = some false := by decide +kernel
@[simp] theorem isi_list_bool_str {x : List D} : isiD (.list x) ["bool", "str"] = some (.bool false) := isiD_of rfl kit_list_bool_str
theorem kit_tuple_tuple : kitAnyB "tuple" ["tuple"] = some true := by decide +kernel
@[simp] theorem isi_tuple_tuple {x : List D} : isiD (.tuple x) ["tuple"] = some (.bool true) := isiD_of rfl kit_tuple_tuple
theorem kit_tuple_bool : kitAnyB "tuple" ["bool"] = some false := by decide +kernel
@[simp] theorem isi_tuple_bool {x : List D} : isiD (.tuple x) ["bool"] = some (.bool false) := isiD_of rfl kit_tuple_bool
theorem kit_tuple_list_tuple : kitAnyB "tuple" ["list", "tuple"] = some true := by decide +kernel
@[simp] theorem isi_tuple_list_tuple {x : List D} : isiD (.tuple x) ["list", "tuple"] = some (.bool true) := isiD_of rfl kit_tuple_list_tuple
theorem kit_tuple_list : kitAnyB "tuple" ["list"] = some false := by decide +kernel
@[simp] theorem isi_tuple_list {x : List D} : isiD (.tuple x) ["list"] = some (.bool false) := isiD_of rfl kit_tuple_list
theorem kit_tuple_dict : kitAnyB "tuple" ["dict"] = some false := by decide +kernel
@[simp] theorem isi_tuple_dict {x : List D} : isiD (.tuple x) ["dict"] = some (.bool false) := isiD_of rfl kit_tuple_dict
theorem kit_tuple_int : kitAnyB "tuple" ["int"] = some false := by decide +kernel
@[simp] theorem isi_tuple_int {x : List D} : isiD (.tuple x) ["int"] = some (.bool false) := isiD_of rfl kit_tuple_int
theorem kit_tuple_str : kitAnyB "tuple" ["str"] = some false := by decide +kernel
@[simp] theorem isi_tuple_str {x : List D} : isiD (.tuple x) ["str"] = some (.bool false) := isiD_of rfl kit_tuple_str
theorem kit_tuple_bool_str : kitAnyB "tuple" ["bool", "str"] = some false := by decide +kernel
@[simp] theorem isi_tuple_bool_str {x : List D} : isiD (.tuple x) ["bool", "str"] = some (.bool false) := isiD_of rfl kit_tuple_bool_str
theorem kit_dict_tuple : kitAnyB "dict" ["tuple"] = some false := by decide +kernel
@[simp] theorem isi_dict_tuple {x : List (D × D)} : isiD (.dict x) ["tuple"] = some (.bool false) := isiD_of rfl kit_dict_tuple
theorem kit_dict_bool : kitAnyB "dict" ["bool"] = some false := by decide +kernel
@[simp] theorem isi_dict_bool {x : List (D × D)} : isiD (.dict x) ["bool"] = some (.bool false) := isiD_of rfl kit_dict_bool
theorem kit_dict_list_tuple : kitAnyB "dict" ["list", "tuple"] = some false := by decide +kernel
@[simp] theorem isi_dict_list_tuple {x : List (D × D)} : isiD (.dict x) ["list", "tuple"] = some (.bool false) := isiD_of rfl kit_dict_list_tuple
theorem kit_dict_list : kitAnyB "dict" ["list"] = some false := by decide +kernel
@[simp] theorem isi_dict_list {x : List (D × D)} : isiD (.dict x) ["list"] = some (.bool false) := isiD_of rfl kit_dict_list
theorem kit_dict_dict : kitAnyB "dict" ["dict"] = some true := by decide +kernel
@[simp] theorem isi_dict_dict {x : List (D × D)} : isiD (.dict x) ["dict"] = some (.bool true) := isiD_of rfl kit_dict_dict
theorem kit_dict_int : kitAnyB "dict" ["int"] = some false := by decide +kernel
@[simp] theorem isi_dict_int {x : List (D × D)} : isiD (.dict x) ["int"] = some (.bool false) := isiD_of rfl kit_dict_int
theorem kit_dict_str : kitAnyB "dict" ["str"] = some false := by decide +kernel
@[simp] theorem isi_dict_str {x : List (D × D)} : isiD (.dict x) ["str"] = some (.bool false) := isiD_of rfl kit_dict_str
theorem kit_dict_bool_str : kitAnyB "dict" ["bool", "str"] = some false := by decide +kernel
@[simp] theorem isi_dict_bool_str {x : List (D × D)} : isiD (.dict x) ["bool", "str"] = some (.bool false) := isiD_of rfl kit_dict_bool_str
theorem stoD_nat {k : Nat} {d : D} (h : k < xs.length) : stoD xs (.int (k : Int)) d = some (xs.set k d) := by
  unfold stoD ixN
  simp only
  rw [if_pos (by omega), if_pos (by omega)]
  rfl
@[simp] theorem atI_zero {α : Type} {l : List α} : atI l 0 = l[0]? := atI_nat (k := 0)
@[simp] theorem atI_lit {α : Type} {l : List α} {k : Nat} : atI l (OfNat.ofNat k : Int) = l[k]? := atI_nat (k := k)
@[simp] theorem atI_one {α : Type} {l : List α} : atI l 1 = l[1]? := atI_nat (k := 1)
@[simp] theorem atI_n2 {α : Type} {l : List α} : atI l 2 = l[2]? := atI_nat (k := 2)
@[simp] theorem atI_n3 {α : Type} {l : List α} : atI l 3 = l[3]? := atI_nat (k := 3)
@[simp] theorem atI_n4 {α : Type} {l : List α} : atI l 4 = l[4]? := atI_nat (k := 4)
@[simp] theorem atI_n5 {α : Type} {l : List α} : atI l 5 = l[5]? := atI_nat (k := 5)
@[simp] theorem atI_n6 {α : Type} {l : List α} : atI l 6 = l[6]? := atI_nat (k := 6)
@[simp] theorem atI_n7 {α : Type} {l : List α} : atI l 7 = l[7]? := atI_nat (k := 7)
@[simp] theorem atI_n8 {α : Type} {l : List α} : atI l 8 = l[8]? := atI_nat (k := 8)
@[simp] theorem atI_n9 {α : Type} {l : List α} : atI l 9 = l[9]? := atI_nat (k := 9)
@[simp] theorem atI_n10 {α : Type} {l : List α} : atI l 10 = l[10]? := atI_nat (k := 10)
@[simp] theorem atI_n11 {α : Type} {l : List α} : atI l 11 = l[11]? := atI_nat (k := 11)
@[simp] theorem atI_n12 {α : Type} {l : List α} : atI l 12 = l[12]? := atI_nat (k := 12)
@[simp] theorem atI_last {α : Type} {l : List α} : atI l (-1) = l.getLast? := by
  rw [List.getLast?_eq_getElem?]
  unfold atI ixN
  rw [if_neg (by decide)]
  cases l with
  | nil => rfl
  | cons x r =>
    rw [if_pos (by simp only [List.length_cons]; omega)]
    have : ((-1 : Int) + ((x :: r).length : Int)).toNat = (x :: r).length - 1 := by simp only [List.length_cons]; omega
    rw [this]
    rfl
@[simp] theorem sliceD_list {lo hi : Option Int} : sliceD (.list xs) lo hi = some (.list (cutL xs lo hi)) := rfl
@[simp] theorem sliceD_tuple {lo hi : Option Int} : sliceD (.tuple xs) lo hi = some (.tuple (cutL xs lo hi)) := rfl
@[simp] theorem seqD_list : seqD (.list xs) = some xs := rfl
@[simp] theorem seqD_tuple : seqD (.tuple xs) = some xs := rfl
@[simp] theorem revD_list : revD (.list xs) = some (.list xs.reverse) := rfl
@[simp] theorem walkD_list : walkD .ex [.list xs] = some xs := rfl
@[simp] theorem walkD_tuple : walkD .ex [.tuple xs] = some xs := rfl
@[simp] theorem walkD_enumL : walkD .enum [.list xs] = some (enumFrom 0 xs) := rfl
@[simp] theorem walkD_enumT : walkD .enum [.tuple xs] = some (enumFrom 0 xs) := rfl
@[simp] theorem walkD_zipL : walkD .zip [.list xs, .list ys] = some (zipD xs ys) := rfl
@[simp] theorem walkD_zipT : walkD .zip [.tuple xs, .tuple ys] = some (zipD xs ys) := rfl
@[simp] theorem walkD_zipLT : walkD .zip [.list xs, .tuple ys] = some (zipD xs ys) := rfl
@[simp] theorem walkD_zipTL : walkD .zip [.tuple xs, .list ys] = some (zipD xs ys) := rfl
theorem walkD_range {j : Int} (h : j ≤ 16777216) (h2 : 0 ≤ j) : walkD .range [.int j] = some (rangeD 0 j.toNat) := if_pos (by
  unfold near62 lineOk
  simp only [Bool.and_eq_true, decide_eq_true_eq]
  omega)
theorem walkC_of {ik : IK} {xs items : List D} (h : walkD ik xs = some items) (hl : items.length ≤ 16777216) : walkC ik xs = some items := by
  unfold walkC
  rw [h]
  exact if_pos (by unfold lineOk; exact decide_eq_true hl)
@[simp] theorem setTg_nm {i : Nat} {d : D} {ρ : En} : setTg (.nm i) d ρ = some (ρ.set i (some (.dat d))) := rfl
@[simp] theorem setTg_tup {is : List Nat} {ds : List D} {ρ : En} : setTg (.tup is) (.tuple ds) ρ = setDs is ds ρ := rfl
@[simp] theorem setDs_nil {ρ : En} : setDs [] [] ρ = some ρ := rfl
@[simp] theorem setDs_cons {i : Nat} {is : List Nat} {d : D} {ds : List D} {ρ : En} : setDs (i :: is) (d :: ds) ρ = setDs is ds (ρ.set i (some (.dat d))) := rfl
@[simp] theorem isTin_zero {ρ : En} : isTin (some .tin :: ρ) 0 = true := rfl
@[simp] theorem slots_nm {i : Nat} : (Tg.nm i).slots = [i] := rfl
@[simp] theorem slots_tup {is : List Nat} : (Tg.tup is).slots = is := rfl
@[simp] theorem wipeE_nil {ρ : En} : wipeE ρ [] = ρ := rfl
@[simp] theorem wipeE_cons {ρ : En} {v : Nat} {vs : List Nat} : wipeE ρ (v :: vs) = (wipeE ρ vs).set v none := rfl
@[simp] theorem outD_rt {d : D} : outD (.rt d) = some d := rfl
@[simp] theorem outD_nx {ρ : En} : outD (.nx ρ) = some .none := rfl
@[simp] theorem outD_ct {ρ : En} : outD (.ct ρ) = none := rfl
@[simp] theorem envI_f {k : Nat} {ds : List D} : envI false k ds = ds.map (fun d => some (Ent.dat d)) ++ List.replicate k none := rfl
@[simp] theorem envI_t {k : Nat} {ds : List D} : envI true k ds = some Ent.tin :: (ds.map (fun d => some (Ent.dat d)) ++ List.replicate k none) := rfl
theorem cut_to {α : Type} (l : List α) (k : Nat) : cutL l none (some (k : Int)) = l.take k := by
  unfold cutL
  rw [HT.sIx_none, HT.sIx_nat, List.drop_zero, Nat.sub_zero]
  rcases Nat.le_total k l.length with hh | hh
  · rw [Nat.min_eq_left hh]
  · rw [Nat.min_eq_right hh, List.take_of_length_le hh, List.take_length]
theorem cut_from {α : Type} (l : List α) (k : Nat) : cutL l (some (k : Int)) none = l.drop k := by
  unfold cutL
  rw [HT.sIx_none, HT.sIx_nat]
  rw [List.take_of_length_le (by rw [List.length_drop]; omega)]
  rcases Nat.le_total k l.length with hh | hh
  · rw [Nat.min_eq_left hh]
  · rw [Nat.min_eq_right hh, List.drop_length, List.drop_eq_nil_of_le hh]
theorem cut_mid {α : Type} (l : List α) (j k : Nat) : cutL l (some (j : Int)) (some (k : Int)) = (l.drop j).take (k - j) := by
  unfold cutL
  rw [HT.sIx_nat, HT.sIx_nat]
  rcases Nat.le_total j l.length with hh | hh
  · rw [Nat.min_eq_left hh]
    rcases Nat.le_total k l.length with h2 | h2
    · rw [Nat.min_eq_left h2]
    · rw [Nat.min_eq_right h2, List.take_of_length_le (by rw [List.length_drop]; omega), List.take_of_length_le (by rw [List.length_drop]; omega)]
  · rw [Nat.min_eq_right hh, List.drop_length, List.drop_eq_nil_of_le hh, List.take_nil, List.take_nil]
end
end KN

set_option maxRecDepth 100000
set_option maxHeartbeats 4000000
namespace KN
open PySem L2 PyProof.Rows
/-! ### the draws -/
def takeB : List S := [
  .ite (.cmp .Gt (.tget 0 (.int 0)) (.int 0)) [.asg 2 (.bin .Mod (.bi .int [.tget 0 (.int 0)]) (.var 1)), .stoT 0 (.int 0) (.bin .FloorDiv (.tget 0 (.int 0)) (.var 1)), .ret (.var 2)] [],
  .stoT 0 (.int 2) (.bin .Add (.tget 0 (.int 2)) (.int 1)),
  .asg 3 (.bin .Mod (.bi .int [.bin .Mult (.bin .Add (.tget 0 (.int 1)) (.bin .Mult (.int 48271) (.tget 0 (.int 2)))) (.bin .Add (.int 39373) (.tget 0 (.int 2)))]) (.int 2147483647)),
  .asg 4 (.bin .Add (.bin .Mod (.bi .int [.var 3]) (.int 40009)) (.int 7)),
  .asg 5 (.bin .Mod (.bi .int [.bin .Mult (.bin .Add (.bin .Add (.var 3) (.tget 0 (.int 2))) (.bin .FloorDiv (.tget 0 (.int 1)) (.int 1000003))) (.var 4)]) (.int 2147483629)),
  .ret (.bin .Mod (.bi .int [.bin .FloorDiv (.bin .Mod (.bi .int [.bin .Add (.bin .Mult (.var 5) (.int 48271)) (.var 3)]) (.int 2147483587)) (.int 64)]) (.var 1))]
/-- the box after at most m draws -/
def Bx (τ : List D) (m : Nat) : Prop := ∃ a b c : Int, τ = [.int a, .int b, .int c] ∧ 0 ≤ a ∧ 0 ≤ c ∧ c ≤ m
theorem Bx.mono {τ : List D} {m k : Nat} (h : Bx τ m) (hk : m ≤ k) : Bx τ k := by
  obtain ⟨a, b, c, e, h1, h2, h3⟩ := h
  exact ⟨a, b, c, e, h1, h2, by omega⟩
theorem take_ok {T : Tb} {n f : Nat} {top : Int} {τ : List D} {m : Nat} (h : Is T f takeB true 2 6) (hb : Bx τ m) (hm : m < 2 ^ 60) (h0 : 0 < top) (h1 : top < 1073741824) :
    Ok (callF T (n + 1) f [.int top]) τ fun d τ' => ∃ k : Int, d = .int k ∧ 0 ≤ k ∧ k < top ∧ Bx τ' (m + 1) := by
  obtain ⟨a, b, c, rfl, ha, hc, hcm⟩ := hb
  rw [ok_is h rfl]
  by_cases hp : 0 < a
  · simp [takeB, hp, h0, h1, stoD, ixN]
    exact ⟨Int.emod_nonneg _ (by omega), Int.emod_lt_of_pos _ h0, _, _, _, rfl, Int.ediv_nonneg ha (by omega), hc, by omega⟩
  · have e0 : a = 0 := by omega
    subst e0
    have q1 : mulOk 48271 (c + 1) = true := by simp [mulOk]
    have q2 : mulOk (b + 48271 * (c + 1)) (39373 + (c + 1)) = true := by
      unfold mulOk
      simp only [Bool.or_eq_true, Bool.and_eq_true, decide_eq_true_eq]
      omega
    have q3 : ∀ x y : Int, mulOk x (y % 40009 + 7) = true := fun x y => by
      unfold mulOk
      simp only [Bool.or_eq_true, Bool.and_eq_true, decide_eq_true_eq]
      omega
    have q4 : ∀ x : Int, mulOk x 48271 = true := fun x => by
      unfold mulOk
      simp
    simp [takeB, h0, stoD, ixN, q1, q2, q3, q4]
    exact ⟨Int.emod_nonneg _ (by omega), Int.emod_lt_of_pos _ h0, _, _, _, rfl, by omega, by omega, by omega⟩
end KN

set_option maxRecDepth 100000
set_option maxHeartbeats 4000000
namespace KN
open PySem L2 PyProof.Rows
theorem call_is {T : Tb} {n f : Nat} {b : List S} {tin : Bool} {p nn : Nat} {ds : List D} {τ τ' : List D} {d : D} (h : Is T f b tin p nn) (hl : (if tin then ds.length + 1 else ds.length) = p)
    (e : evSs (callF T n) b (envI tin (nn - p) ds) τ = some (.rt d, τ')) : callF T (n + 1) f ds τ = some (d, τ') := by
  obtain ⟨d', τ1, e1, rfl, rfl⟩ := (ok_is (n := n) (Q := fun d1 τ1 => d1 = d ∧ τ1 = τ') h hl).2 ⟨_, _, e, _, rfl, rfl, rfl⟩
  exact e1
/-! ### the box -/
def boxB (z : Int) : List S := [
  .asg 2 (.ite (.cmp .Lt (.var 1) (.bi .len [.var 0])) (.get (.var 0) (.var 1)) (.int 0)),
  .ret (.lst [.bin .Mult (.bi .abs [.var 2]) (.bi .int [.cmp .GtE (.bi .abs [.var 2]) (.bin .Pow (.int 10) (.int 18))]), .bin .Add (.bin .Add (.bin .Mod (.bi .int [.var 2]) (.int 2305843009213693951)) (.bin .Mult (.int 39373) (.var 1))) (.int z), .int 0])]
theorem mulOk_left {i j : Int} (h1 : -(2 ^ 64) < i) (h2 : i < 2 ^ 64) : mulOk i j = true := by
  unfold mulOk
  simp only [Bool.or_eq_true, Bool.and_eq_true, decide_eq_true_eq]
  exact .inl ⟨h1, h2⟩
theorem mulOk_right {i j : Int} (h1 : -(2 ^ 64) < j) (h2 : j < 2 ^ 64) : mulOk i j = true := by
  unfold mulOk
  simp only [Bool.or_eq_true, Bool.and_eq_true, decide_eq_true_eq]
  exact .inr ⟨h1, h2⟩
theorem box_ok {T : Tb} {n f : Nat} {z : Int} {xs : List Int} {k : Nat} (h : Is T f (boxB z) false 2 3) (hk : k < xs.length) {τ : List D} :
    Ok (callF T (n + 1) f [.list (xs.map .int), .int k]) τ fun d _ => ∃ σ, d = .list σ ∧ Bx σ 0 := by
  rw [ok_is h rfl]
  have e1 : ((k : Int) < (xs.length : Int)) := by omega
  have e2 : xs[k]? = some xs[k] := List.getElem?_eq_getElem hk
  have q1 : ∀ j : Int, mulOk 39373 j = true := fun j => mulOk_left (by decide) (by decide)
  have q2 : ∀ (i : Int) (p : Prop) [Decidable p], mulOk i (if p then 1 else 0) = true := fun i p _ => mulOk_right (by split <;> decide) (by split <;> decide)
  generalize xs[k] = x at e2
  simp [boxB, e1, e2, q1, q2]
  refine ⟨_, _, _, rfl, Int.mul_nonneg ?_ ?_, by omega, by omega⟩
  · split <;> omega
  · split <;> omega
/-! ### the cells -/
def cellsB : List S := [
  .asgO 2 (.or (.bi .list [.slice (.var 0) .absent (.var 1)]) (.lst [.int 0])),
  .loop (.tup [3, 4]) .enum [.slice (.var 0) (.var 1) (.int 63)] [.asg 5 (.bin .Mod (.bi .int [.var 3]) (.var 1)), .sto 2 (.var 5) (.bin .Add (.get (.peek 2) (.var 5)) (.bin .Mult (.var 4) (.bin .Add (.var 3) (.int 2))))],
  .frz 2,
  .ret (.var 2)]
theorem cells_ok {T : Tb} {n f : Nat} {xs : List Int} {s : Nat} (h : Is T f cellsB false 2 6) (hs : 0 < s) (hs2 : s < 63) (hl : xs.length ≤ 63) {τ : List D} :
    Ok (callF T (n + 1) f [.list (xs.map .int), .int s]) τ fun d _ => ∃ ys : List Int, d = .list (ys.map .int) ∧ 0 < ys.length ∧ ys.length ≤ s := by
  rw [ok_is h rfl]
  have c2 : cutL (xs.map PyData.int) (some (s : Int)) (some 63) = ((xs.drop s).take (63 - s)).map .int := by
    rw [show (some (63 : Int)) = some ((63 : Nat) : Int) from rfl, cut_mid, List.map_take, List.map_drop]
  simp [cellsB, cut_to, c2]
  by_cases hx : xs = []
  · subst hx
    refine .inl ⟨.inr rfl, ?_⟩
    simp [enumFrom, loopL]
    exact ⟨[0], by simp, by simp, by simp; omega⟩
  · refine .inr ⟨⟨by omega, hx⟩, ?_⟩
    have hx1 : 0 < xs.length := List.length_pos_iff.mpr hx
    refine ok_loop (fun items ρ _ => ∃ (k : Nat) (zs ys : List Int) (v3 v4 v5 : Option Ent), items = enumFrom k (zs.map .int) ∧ ρ = [some (.dat (.list (xs.map .int))), some (.dat (.int s)), some (.own (.lst (ys.map .int))), v3, v4, v5] ∧ 0 < ys.length ∧ ys.length ≤ s ∧ (zs ≠ [] → ys.length = s) ∧ k + zs.length ≤ 63) ?_ ?_ _ _ _ ⟨0, (xs.drop s).take (63 - s), xs.take s, none, none, none, ?_, ?_, ?_, ?_, ?_, ?_⟩
    · rintro d r ρ τ ⟨k, zs, ys, v3, v4, v5, e1, rfl, h1, h2, h3, h4⟩
      cases zs with
      | nil => cases e1
      | cons z zs =>
        simp only [List.map_cons, enumFrom, List.cons.injEq] at e1
        obtain ⟨rfl, rfl⟩ := e1
        have hy := h3 (by simp)
        have h5 : (0 : Int) < s := by omega
        have h6 : ((k : Int) % (s : Int)) = ((k % s : Nat) : Int) := by omega
        have h7 : k % s < ys.length := by rw [hy]; exact Nat.mod_lt _ hs
        have a1 : atI (ys.map PyData.int) ((k : Int) % (s : Int)) = some (.int ys[k % s]) := by
          rw [h6, atI_nat, List.getElem?_map, List.getElem?_eq_getElem h7]
          rfl
        have a2 : ∀ d, stoD (ys.map PyData.int) (.int ((k : Int) % (s : Int))) d = some ((ys.map PyData.int).set (k % s) d) := fun d => by
          rw [h6, stoD_nat (by rw [List.length_map]; exact h7)]
        have q : ∀ i : Int, mulOk i ((k : Int) + 2) = true := fun i => mulOk_right (by omega) (by simp only [List.length_cons] at h4; omega)
        simp [hs, a1, a2, q]
        refine ⟨k + 1, zs, rfl, ys.set (k % s) (ys[k % s] + z * (k + 2)), ?_, by simpa using h1, by simpa using h2, fun _ => by simpa using hy, by simp only [List.length_cons] at h4; omega⟩
        rw [List.map_set]
    · rintro ρ τ ⟨k, zs, ys, v3, v4, v5, e1, rfl, h1, h2, h3, h4⟩
      simp
      exact ⟨ys, rfl, h1, h2⟩
    · simp
    · simp
    · rw [List.length_take]; omega
    · rw [List.length_take]; omega
    · intro hz
      rw [List.length_take]
      have : xs.drop s ≠ [] := fun e => hz (by rw [e, List.take_nil])
      have : s < xs.length := by
        rcases Nat.lt_or_ge s xs.length with h | h
        · exact h
        · exact absurd (List.drop_eq_nil_of_le h) this
      omega
    · rw [List.length_take, List.length_drop]; omega
/-! ### one of a pool -/
def ofB (t : Nat) : List S := [.ret (.get (.var 1) (.callT t 0 [.bi .len [.var 1]]))]
theorem of_ok {T : Tb} {n f t : Nat} {ds : List D} {τ : List D} {m : Nat} (h : Is T f (ofB t) true 2 2) (ht : Is T t takeB true 2 6) (hb : Bx τ m) (hm : m < 2 ^ 60) (h0 : 0 < ds.length) (h1 : ds.length < 1073741824) :
    Ok (callF T (n + 2) f [.list ds]) τ fun d τ' => d ∈ ds ∧ Bx τ' (m + 1) := by
  rw [ok_is h rfl]
  simp [ofB]
  refine (take_ok ht hb hm (by omega) (by omega)).mono fun d τ' q => ?_
  obtain ⟨k, rfl, k0, k1, b⟩ := q
  obtain ⟨j, rfl⟩ := Int.eq_ofNat_of_zero_le k0
  have hj : j < ds.length := by omega
  refine ⟨ds[j], ?_, List.getElem_mem hj, b⟩
  simp [List.getElem?_eq_getElem hj]
end KN

set_option maxRecDepth 100000
set_option maxHeartbeats 4000000
namespace KN
open PySem L2 PyProof.Rows
/-! ### the likeness of data -/
def sameB (f : Nat) : List S := [
  .ite (.isi (.var 1) ["list", "tuple"] true) [.ite (.or (.cmp .NotEq (.isi (.var 0) ["list"] false) (.isi (.var 1) ["list"] false)) (.cmp .NotEq (.isi (.var 0) ["tuple"] false) (.isi (.var 1) ["tuple"] false))) [.ret (.bl false)] [], .ret (.and (.cmp .Eq (.bi .len [.var 0]) (.bi .len [.var 1])) (.bi .all [.comp (.call f [.var 2, .var 3]) (.tup [2, 3]) .zip [.var 0, .var 1] .absent]))] [],
  .ite (.isi (.var 1) ["dict"] false) [.ite (.or (.not (.isi (.var 0) ["dict"] false)) (.cmp .NotEq (.bi .sorted [.var 0]) (.bi .sorted [.var 1]))) [.ret (.bl false)] [], .ret (.bi .all [.comp (.call f [.get (.var 0) (.var 4), .get (.var 1) (.var 4)]) (.nm 4) .ex [.var 1] .absent])] [],
  .ite (.or (.cmp .Is (.var 1) .non) (.isi (.var 1) ["bool", "str"] true)) [.ret (.and (.cmp .Eq (.var 0) (.var 1)) (.and (.cmp .Eq (.isi (.var 0) ["bool"] false) (.isi (.var 1) ["bool"] false)) (.cmp .Eq (.cmp .Is (.var 0) .non) (.cmp .Is (.var 1) .non))))] [],
  .ret (.and (.isi (.var 0) ["int"] false) (.and (.not (.isi (.var 0) ["bool"] false)) (.cmp .Eq (.var 0) (.var 1))))]
mutual
/-- data that a run may liken: no dict, no long line -/
def okD : D → Bool
  | .none | .bool _ | .int _ => true
  | .str x => PyData.strOk x && decide (x.length ≤ 4096)
  | .list xs | .tuple xs => decide (xs.length ≤ 16777216) && okDs xs
  | .dict _ => false
def okDs : List D → Bool
  | [] => true
  | x :: xs => okD x && okDs xs
end
theorem okDs_mem : ∀ {xs : List D}, okDs xs = true → ∀ x ∈ xs, okD x = true
  | [], _, _, h => by cases h
  | y :: r, h, x, hx => by
    simp only [okDs, Bool.and_eq_true] at h
    rcases List.mem_cons.1 hx with rfl | h2
    · exact h.1
    · exact okDs_mem h.2 x h2
theorem okDs_of : ∀ {xs : List D}, (∀ x ∈ xs, okD x = true) → okDs xs = true
  | [], _ => rfl
  | y :: r, h => by
    simp only [okDs, Bool.and_eq_true]
    exact ⟨h y List.mem_cons_self, okDs_of fun x hx => h x (List.mem_cons_of_mem _ hx)⟩
theorem depthAll_mem : ∀ {xs : List D} {x : D}, x ∈ xs → x.depth ≤ PyData.depthAll xs
  | [], _, h => by cases h
  | y :: r, x, h => by
    simp only [PyData.depthAll]
    rcases List.mem_cons.1 h with rfl | h2
    · exact Nat.le_max_left _ _
    · exact Nat.le_trans (depthAll_mem h2) (Nat.le_max_right _ _)
theorem zip_self {xs : List D} : ∀ d ∈ zipD xs xs, ∃ x ∈ xs, d = .tuple [x, x] := by
  induction xs with
  | nil => intro d h; cases h
  | cons x r ih =>
    intro d h
    rcases List.mem_cons.1 (show d ∈ .tuple [x, x] :: zipD r r from h) with rfl | h2
    · exact ⟨x, List.mem_cons_self, rfl⟩
    · obtain ⟨y, hy, e⟩ := ih d h2
      exact ⟨y, List.mem_cons_of_mem _ hy, e⟩
theorem zip_len : ∀ {xs ys : List D}, (zipD xs ys).length ≤ xs.length
  | [], _ => Nat.le_refl _
  | _ :: _, [] => Nat.zero_le _
  | x :: r, y :: q => Nat.succ_le_succ (zip_len (xs := r) (ys := q))
theorem blsOf_true : ∀ {ys : List D}, (∀ y ∈ ys, y = PyData.bool true) → ∃ bs, blsOf ys = some bs ∧ bs.all id = true
  | [], _ => ⟨[], rfl, rfl⟩
  | y :: r, h => by
    obtain ⟨bs, e, h2⟩ := blsOf_true (ys := r) fun x hx => h x (List.mem_cons_of_mem _ hx)
    have := h y List.mem_cons_self
    subst this
    refine ⟨true :: bs, ?_, by simpa using h2⟩
    show (match blsOf r with
      | some l => some (true :: l)
      | none => none) = _
    rw [e]
theorem all_true {ys : List D} (h : ∀ y ∈ ys, y = PyData.bool true) : biD .all [.list ys] = some (.bool true) := by
  obtain ⟨bs, e, h2⟩ := blsOf_true h
  show (match blsOf ys with
    | some bs => some (PyData.bool (bs.all id))
    | none => none) = _
  rw [e]
  simp only [h2]
/-- a comprehension of truths -/
theorem ok_allC {f : D → M (Option D)} (J : List D → Prop) : ∀ (items : List D) (τ : List D), J τ → (∀ d ∈ items, ∀ τ, J τ → Ok (f d) τ fun o τ' => o = some (PyData.bool true) ∧ J τ') → Ok (compL f items) τ fun ys τ' => (∀ y ∈ ys, y = PyData.bool true) ∧ J τ'
  | [], τ, j, _ => ok_ret.2 ⟨fun _ h => (by cases h), j⟩
  | d :: r, τ, j, h => by
    show Ok ((f d).bnd _) τ _
    rw [ok_bnd]
    refine (h d List.mem_cons_self τ j).mono fun o τ' q => ?_
    obtain ⟨rfl, j'⟩ := q
    rw [ok_bnd]
    refine (ok_allC J r τ' j' fun x hx => h x (List.mem_cons_of_mem _ hx)).mono fun ys τ2 q => ?_
    rw [ok_ret]
    exact ⟨fun y hy => (List.mem_cons.1 hy).elim id (q.1 y), q.2⟩
theorem gives_ok {C : Nat → List D → M D} {f : Nat} {ds : List D} {P : D → Prop} (h : Ok (C f ds) [] fun d _ => P d) : ∃ d, Gives C f ds d ∧ P d := by
  obtain ⟨d, τ', e, p⟩ := h
  exact ⟨d, ⟨τ', e⟩, p⟩
theorem eqv_refl : ∀ (k : Nat) (d : D), d.depth ≤ k → okD d = true → PyData.eqv d d = true := by
  intro k
  have sq : ∀ k, (∀ d : D, d.depth ≤ k → okD d = true → PyData.eqv d d = true) → ∀ xs : List D, PyData.depthAll xs ≤ k → okDs xs = true → PyData.eqvAll xs xs = true := fun k ih xs => by
    induction xs with
    | nil => intros; rfl
    | cons x r ihr =>
      intro h1 h2
      simp only [PyData.depthAll] at h1
      simp only [okDs, Bool.and_eq_true] at h2
      simp only [PyData.eqvAll, Bool.and_eq_true]
      exact ⟨ih x (by omega) h2.1, ihr (by omega) h2.2⟩
  induction k with
  | zero =>
    intro d hd ho
    cases d with
    | none => rfl
    | bool b => simp [PyData.eqv]
    | int b => simp [PyData.eqv]
    | str b => simp [PyData.eqv]
    | list xs => simp only [PyData.depth] at hd; omega
    | tuple xs => simp only [PyData.depth] at hd; omega
    | dict xs => simp [okD] at ho
  | succ k ih =>
    intro d hd ho
    cases d with
    | none => rfl
    | bool b => simp [PyData.eqv]
    | int b => simp [PyData.eqv]
    | str b => simp [PyData.eqv]
    | list xs =>
      simp only [PyData.depth] at hd
      simp only [okD, Bool.and_eq_true] at ho
      simp only [PyData.eqv]
      exact sq k ih xs (by omega) ho.2
    | tuple xs =>
      simp only [PyData.depth] at hd
      simp only [okD, Bool.and_eq_true] at ho
      simp only [PyData.eqv]
      exact sq k ih xs (by omega) ho.2
    | dict xs => simp [okD] at ho
theorem cmpD_none : cmpD .Eq .none .none = some (.bool true) := rfl
theorem cmpD_strR {x : Str} (h : PyData.strOk x = true) : cmpD .Eq (.str x) (.str x) = some (.bool true) := by
  have e : SeqAt.shaped (.str x) = true := by simp [SeqAt.shaped, PyData.canLay0, PyData.depth, h]
  rw [cmpD_eq e e]
  simp [PyData.eqv]
theorem same_refl {T : Tb} {f : Nat} (h : Is T f (sameB f) false 2 5) : ∀ (n : Nat) (d : D) (τ : List D), d.depth < n → okD d = true → Ok (callF T n f [d, d]) τ fun r _ => r = .bool true := by
  intro n
  induction n with
  | zero => intro d τ h0; omega
  | succ n ih =>
    intro d τ hd ho
    have one : ∀ xs : List D, PyData.depthAll xs + 1 < n + 1 → okDs xs = true → ∀ (d : D), d ∈ zipD xs xs → ∃ x, d = .tuple [x, x] ∧ Gives (callF T n) f [x, x] (.bool true) := fun xs h1 h2 d hd => by
      obtain ⟨x, hx, rfl⟩ := zip_self d hd
      refine ⟨x, rfl, ?_⟩
      obtain ⟨r, g, rfl⟩ := gives_ok (ih x [] (by have := depthAll_mem hx; omega) (okDs_mem h2 x hx))
      exact g
    rw [ok_is h rfl]
    cases d with
    | list xs =>
      simp only [PyData.depth] at hd
      simp only [okD, Bool.and_eq_true, decide_eq_true_eq] at ho
      simp [sameB]
      refine ⟨_, walkC_of walkD_zipL (Nat.le_trans zip_len ho.1), (ok_allC (fun _ => True) _ _ trivial fun d hz τ _ => ?_).mono fun ys _ q => all_true q.1⟩
      obtain ⟨x, rfl, g⟩ := one xs hd ho.2 d hz
      simp
      exact g
    | tuple xs =>
      simp only [PyData.depth] at hd
      simp only [okD, Bool.and_eq_true, decide_eq_true_eq] at ho
      simp [sameB]
      refine ⟨_, walkC_of walkD_zipT (Nat.le_trans zip_len ho.1), (ok_allC (fun _ => True) _ _ trivial fun d hz τ _ => ?_).mono fun ys _ q => all_true q.1⟩
      obtain ⟨x, rfl, g⟩ := one xs hd ho.2 d hz
      simp
      exact g
    | dict xs => simp [okD] at ho
    | none => simp [sameB, cmpD_none]
    | bool b => simp [sameB]
    | int b => simp [sameB]
    | str x =>
      simp only [okD, Bool.and_eq_true] at ho
      simp [sameB, cmpD_strR ho.1]
theorem same_gives {T : Tb} {f n : Nat} (h : Is T f (sameB f) false 2 5) {d : D} (h1 : d.depth < n) (h2 : okD d = true) : Gives (callF T n) f [d, d] (.bool true) := by
  obtain ⟨r, g, rfl⟩ := gives_ok (same_refl h n d [] h1 h2)
  exact g
/-- comprehensions that draw nothing -/
theorem ok_compP {ι : Type} {f : D → M (Option D)} {inj : ι → D} {τ : List D} {Q : List D → List D → Prop} (p : ι → Bool) (v : ι → D) : ∀ (l : List ι), (∀ x ∈ l, ∀ τ, Ok (f (inj x)) τ fun o τ' => o = (if p x then some (v x) else none) ∧ τ' = τ) → Q ((l.filter p).map v) τ → Ok (compL f (l.map inj)) τ Q := by
  intro l hf q
  have : ∀ (l : List ι), (∀ x ∈ l, ∀ τ, Ok (f (inj x)) τ fun o τ' => o = (if p x then some (v x) else none) ∧ τ' = τ) → compL f (l.map inj) τ = some ((l.filter p).map v, τ) := by
    intro l
    induction l with
    | nil => intro _; rfl
    | cons x r ih =>
      intro h
      obtain ⟨o, τ', e, rfl, rfl⟩ := h x List.mem_cons_self τ
      show ((f (inj x)).bnd _) τ' = _
      unfold M.bnd
      rw [e]
      simp only
      rw [ih fun y hy => h y (List.mem_cons_of_mem _ hy), List.filter_cons]
      cases p x <;> rfl
  exact ⟨_, _, this l hf, q⟩
theorem ok_compM {ι : Type} {f : D → M (Option D)} {inj : ι → D} {τ : List D} {Q : List D → List D → Prop} (v : ι → D) (l : List ι) (h : ∀ x ∈ l, ∀ τ, Ok (f (inj x)) τ fun o τ' => o = some (v x) ∧ τ' = τ) (q : Q (l.map v) τ) : Ok (compL f (l.map inj)) τ Q :=
  ok_compP (fun _ => true) v l (fun x hx τ => (h x hx τ).mono fun o τ' q => q) (by rw [List.filter_eq_self.2 (fun _ _ => rfl)]; exact q)
theorem ok_comp0 {f : D → M (Option D)} (I : List D → List D → List D → Prop) {Q : List D → List D → Prop}
    (hs : ∀ d r ys τ, I (d :: r) ys τ → Ok (f d) τ fun o τ' => match o with
      | some y => I r (ys ++ [y]) τ'
      | none => I r ys τ')
    (he : ∀ ys τ, I [] ys τ → Q ys τ) (items : List D) (τ : List D) (h : I items [] τ) : Ok (compL f items) τ Q :=
  (ok_comp I hs he items [] τ h).mono fun _ _ q => q
end KN

set_option maxRecDepth 100000
set_option maxHeartbeats 4000000
namespace KN
open PySem L2 PyProof.Rows
/-! ### runs that leave the box alone: what they give, by the text -/
section
variable {C : Nat → List D → M D} {ρ : En} {a b c e : E} {x y z d : D} {i j : Int} {p q r : Bool}
structure Ev (C : Nat → List D → M D) (e : E) (ρ : En) (v : D) : Prop where
  run : ∀ τ, evE C e ρ τ = some (v, τ)
structure Evs (C : Nat → List D → M D) (es : List E) (ρ : En) (vs : List D) : Prop where
  run : ∀ τ, evEs C es ρ τ = some (vs, τ)
/-- statements: how they end -/
structure Er (C : Nat → List D → M D) (ss : List S) (ρ : En) (o : Out) : Prop where
  run : ∀ τ, evSs C ss ρ τ = some (o, τ)
theorem M.bnd_eq {α β : Type} {m : M α} {f : α → M β} {τ τ' : List D} {v : α} (h : m τ = some (v, τ')) : m.bnd f τ = f v τ' := by
  unfold M.bnd
  rw [h]
theorem M.of_eq {α : Type} {o : Option α} {v : α} {τ : List D} (h : o = some v) : M.of o τ = some (v, τ) := by
  subst h; rfl
theorem Ev.ok {τ : List D} {Q : D → List D → Prop} (h : Ev C e ρ d) (hq : Q d τ) : Ok (evE C e ρ) τ Q := ⟨_, _, h.run τ, hq⟩
theorem Evs.ok {es : List E} {ds : List D} {τ : List D} {Q : List D → List D → Prop} (h : Evs C es ρ ds) (hq : Q ds τ) : Ok (evEs C es ρ) τ Q := ⟨_, _, h.run τ, hq⟩
theorem Er.ok {ss : List S} {o : Out} {τ : List D} {Q : Out → List D → Prop} (h : Er C ss ρ o) (hq : Q o τ) : Ok (evSs C ss ρ) τ Q := ⟨_, _, h.run τ, hq⟩
theorem Ev.cast (h : Ev C e ρ x) (hx : x = y) : Ev C e ρ y := hx ▸ h
theorem ev_var {k : Nat} (h : ρ[k]? = some (some (.dat d))) : Ev C (.var k) ρ d := .mk fun τ => by
  show (match ρ[k]? with
    | some (some (.dat d)) => some (d, τ)
    | _ => none) = _
  rw [h]
theorem ev_peek {k : Nat} {o : Od} (h : ρ[k]? = some (some (.own o))) : Ev C (.peek k) ρ o.data := .mk fun τ => by
  show (match ρ[k]? with
    | some (some (.own o)) => some (o.data, τ)
    | _ => none) = _
  rw [h]
theorem ev_peekL {k : Nat} {ds : List D} (h : ρ[k]? = some (some (.own (.lst ds)))) : Ev C (.peek k) ρ (.list ds) := ev_peek h
theorem ev_peekD {k : Nat} {ds : List (D × D)} (h : ρ[k]? = some (some (.own (.dic ds)))) : Ev C (.peek k) ρ (.dict ds) := ev_peek h
theorem ev_non : Ev C .non ρ .none := .mk fun _ => rfl
theorem ev_bl : Ev C (.bl p) ρ (.bool p) := .mk fun _ => rfl
theorem ev_int : Ev C (.int i) ρ (.int i) := .mk fun _ => rfl
theorem ev_str {s : Str} : Ev C (.str s) ρ (.str s) := .mk fun _ => rfl
theorem ev_glob {s : Str} : Ev C (.glob s d) ρ d := .mk fun _ => rfl
theorem ev_dic0 : Ev C .dic0 ρ (.dict []) := .mk fun _ => rfl
theorem ev_bin {op : Operator} (ha : Ev C a ρ x) (hb : Ev C b ρ y) (h : binD op x y = some d) : Ev C (.bin op a b) ρ d := .mk fun τ => by
  show ((evE C a ρ).bnd fun x => (evE C b ρ).bnd fun y => M.of (binD op x y)) τ = _
  rw [M.bnd_eq (ha.run τ), M.bnd_eq (hb.run τ), M.of_eq h]
theorem ev_cmp {op : CmpOp} (ha : Ev C a ρ x) (hb : Ev C b ρ y) (h : cmpD op x y = some d) : Ev C (.cmp op a b) ρ d := .mk fun τ => by
  show ((evE C a ρ).bnd fun x => (evE C b ρ).bnd fun y => M.of (cmpD op x y)) τ = _
  rw [M.bnd_eq (ha.run τ), M.bnd_eq (hb.run τ), M.of_eq h]
theorem ev_add (ha : Ev C a ρ (.int i)) (hb : Ev C b ρ (.int j)) : Ev C (.bin .Add a b) ρ (.int (i + j)) := ev_bin ha hb rfl
theorem ev_sub (ha : Ev C a ρ (.int i)) (hb : Ev C b ρ (.int j)) : Ev C (.bin .Sub a b) ρ (.int (i - j)) := ev_bin ha hb rfl
theorem ev_mul (ha : Ev C a ρ (.int i)) (hb : Ev C b ρ (.int j)) (h : mulOk i j = true) : Ev C (.bin .Mult a b) ρ (.int (i * j)) := ev_bin ha hb (if_pos h)
theorem ev_mod (ha : Ev C a ρ (.int i)) (hb : Ev C b ρ (.int j)) (h : 0 < j) : Ev C (.bin .Mod a b) ρ (.int (i % j)) := ev_bin ha hb (if_pos h)
theorem ev_div (ha : Ev C a ρ (.int i)) (hb : Ev C b ρ (.int j)) (h : 0 < j) (h2 : j < 1073741824) : Ev C (.bin .FloorDiv a b) ρ (.int (i / j)) := ev_bin ha hb (binD_div h h2)
theorem ev_addL {xs ys : List D} (ha : Ev C a ρ (.list xs)) (hb : Ev C b ρ (.list ys)) (h : xs.length + ys.length ≤ 16777216) : Ev C (.bin .Add a b) ρ (.list (xs ++ ys)) := ev_bin ha hb (binD_addL h)
theorem ev_addT {xs ys : List D} (ha : Ev C a ρ (.tuple xs)) (hb : Ev C b ρ (.tuple ys)) (h : xs.length + ys.length ≤ 16777216) : Ev C (.bin .Add a b) ρ (.tuple (xs ++ ys)) := ev_bin ha hb (binD_addT h)
theorem ev_addS {s t : Str} (ha : Ev C a ρ (.str s)) (hb : Ev C b ρ (.str t)) (h : s.length + t.length ≤ 16777216) : Ev C (.bin .Add a b) ρ (.str (s ++ t)) := ev_bin ha hb (if_pos (by unfold lineOk; exact decide_eq_true h))
theorem ev_lt (ha : Ev C a ρ (.int i)) (hb : Ev C b ρ (.int j)) : Ev C (.cmp .Lt a b) ρ (.bool (decide (i < j))) := ev_cmp ha hb cmpD_lt
theorem ev_le (ha : Ev C a ρ (.int i)) (hb : Ev C b ρ (.int j)) : Ev C (.cmp .LtE a b) ρ (.bool (decide (i ≤ j))) := ev_cmp ha hb cmpD_le
theorem ev_gt (ha : Ev C a ρ (.int i)) (hb : Ev C b ρ (.int j)) : Ev C (.cmp .Gt a b) ρ (.bool (decide (j < i))) := ev_cmp ha hb cmpD_gt
theorem ev_ge (ha : Ev C a ρ (.int i)) (hb : Ev C b ρ (.int j)) : Ev C (.cmp .GtE a b) ρ (.bool (decide (j ≤ i))) := ev_cmp ha hb cmpD_ge
theorem ev_eqI (ha : Ev C a ρ (.int i)) (hb : Ev C b ρ (.int j)) : Ev C (.cmp .Eq a b) ρ (.bool (decide (i = j))) := ev_cmp ha hb cmpD_eqI
theorem ev_neI (ha : Ev C a ρ (.int i)) (hb : Ev C b ρ (.int j)) : Ev C (.cmp .NotEq a b) ρ (.bool (!decide (i = j))) := ev_cmp ha hb cmpD_neI
theorem ev_eqB (ha : Ev C a ρ (.bool p)) (hb : Ev C b ρ (.bool q)) : Ev C (.cmp .Eq a b) ρ (.bool (p == q)) := ev_cmp ha hb cmpD_eqB
theorem ev_neB (ha : Ev C a ρ (.bool p)) (hb : Ev C b ρ (.bool q)) : Ev C (.cmp .NotEq a b) ρ (.bool (!(p == q))) := ev_cmp ha hb cmpD_neB
theorem ev_eq (ha : Ev C a ρ x) (hb : Ev C b ρ y) (h1 : SeqAt.shaped x = true) (h2 : SeqAt.shaped y = true) : Ev C (.cmp .Eq a b) ρ (.bool (PyData.eqv x y)) := ev_cmp ha hb (cmpD_eq h1 h2)
theorem ev_ne (ha : Ev C a ρ x) (hb : Ev C b ρ y) (h1 : SeqAt.shaped x = true) (h2 : SeqAt.shaped y = true) : Ev C (.cmp .NotEq a b) ρ (.bool (!PyData.eqv x y)) := ev_cmp ha hb (cmpD_ne h1 h2)
theorem ev_is (ha : Ev C a ρ x) : Ev C (.cmp .Is a .non) ρ (.bool (isNone x)) := ev_cmp ha ev_non cmpD_is
theorem ev_isnt (ha : Ev C a ρ x) : Ev C (.cmp .IsNot a .non) ρ (.bool (!isNone x)) := ev_cmp ha ev_non cmpD_isnt
theorem ev_neg (ha : Ev C a ρ (.int i)) : Ev C (.neg a) ρ (.int (-i)) := .mk fun τ => by
  show ((evE C a ρ).bnd fun x => match x with
    | PyData.int i => M.ret (PyData.int (-i))
    | _ => M.fail) τ = _
  rw [M.bnd_eq (ha.run τ)]
  rfl
theorem ev_not {k : Bool} (ha : Ev C a ρ x) (h : truD x = some k) : Ev C (.not a) ρ (.bool (!k)) := .mk fun τ => by
  show ((evE C a ρ).bnd fun x => (M.of (truD x)).bnd fun k => M.ret (PyData.bool (!k))) τ = _
  rw [M.bnd_eq (ha.run τ), M.bnd_eq (M.of_eq h)]
  rfl
theorem ev_notB (ha : Ev C a ρ (.bool p)) : Ev C (.not a) ρ (.bool (!p)) := ev_not ha rfl
theorem ev_and {k : Bool} (ha : Ev C a ρ x) (h : truD x = some k) (hb : k = true → Ev C b ρ y) : Ev C (.and a b) ρ (if k then y else x) := .mk fun τ => by
  show ((evE C a ρ).bnd fun x => (M.of (truD x)).bnd fun k => if k then evE C b ρ else M.ret x) τ = _
  rw [M.bnd_eq (ha.run τ), M.bnd_eq (M.of_eq h)]
  cases k with
  | true => exact (hb rfl).run τ
  | false => rfl
theorem ev_or {k : Bool} (ha : Ev C a ρ x) (h : truD x = some k) (hb : k = false → Ev C b ρ y) : Ev C (.or a b) ρ (if k then x else y) := .mk fun τ => by
  show ((evE C a ρ).bnd fun x => (M.of (truD x)).bnd fun k => if k then M.ret x else evE C b ρ) τ = _
  rw [M.bnd_eq (ha.run τ), M.bnd_eq (M.of_eq h)]
  cases k with
  | false => exact (hb rfl).run τ
  | true => rfl
theorem ev_andB (ha : Ev C a ρ (.bool p)) (hb : p = true → Ev C b ρ (.bool q)) : Ev C (.and a b) ρ (.bool (p && q)) := by
  refine (ev_and ha rfl hb).cast ?_
  cases p <;> rfl
theorem ev_orB (ha : Ev C a ρ (.bool p)) (hb : p = false → Ev C b ρ (.bool q)) : Ev C (.or a b) ρ (.bool (p || q)) := by
  refine (ev_or ha rfl hb).cast ?_
  cases p <;> rfl
theorem ev_andL (ha : Ev C a ρ (.bool p)) (hp : p = false) : Ev C (.and a b) ρ (.bool false) := by
  subst hp
  exact (ev_andB (q := false) ha fun h => nomatch h)
theorem ev_orL (ha : Ev C a ρ (.bool p)) (hp : p = true) : Ev C (.or a b) ρ (.bool true) := by
  subst hp
  exact (ev_orB (q := false) ha fun h => nomatch h)
theorem ev_ite {k : Bool} (hc : Ev C c ρ z) (h : truD z = some k) (ha : k = true → Ev C a ρ x) (hb : k = false → Ev C b ρ y) : Ev C (.ite c a b) ρ (if k then x else y) := .mk fun τ => by
  show ((evE C c ρ).bnd fun x => (M.of (truD x)).bnd fun k => if k then evE C a ρ else evE C b ρ) τ = _
  rw [M.bnd_eq (hc.run τ), M.bnd_eq (M.of_eq h)]
  cases k with
  | true => exact (ha rfl).run τ
  | false => exact (hb rfl).run τ
theorem ev_iteB (hc : Ev C c ρ (.bool p)) (ha : p = true → Ev C a ρ x) (hb : p = false → Ev C b ρ y) : Ev C (.ite c a b) ρ (if p then x else y) := ev_ite hc rfl ha hb
theorem ev_chain {o1 o2 : CmpOp} (ha : Ev C a ρ x) (hb : Ev C b ρ y) (h1 : cmpD o1 x y = some (.bool p)) (hc : p = true → Ev C c ρ z) (h2 : p = true → cmpD o2 y z = some (.bool q)) : Ev C (.chain o1 o2 a b c) ρ (.bool (p && q)) := .mk fun τ => by
  show ((evE C a ρ).bnd fun x => (evE C b ρ).bnd fun y => (M.of (cmpD o1 x y)).bnd fun r => match r with
    | PyData.bool true => (evE C c ρ).bnd fun z => M.of (cmpD o2 y z)
    | PyData.bool false => M.ret (PyData.bool false)
    | _ => M.fail) τ = _
  rw [M.bnd_eq (ha.run τ), M.bnd_eq (hb.run τ), M.bnd_eq (M.of_eq h1)]
  cases p with
  | true =>
    have h3 := h2 rfl
    have h2 := hc rfl
    show ((evE C c ρ).bnd fun z => M.of (cmpD o2 y z)) τ = _
    rw [M.bnd_eq (h2.run τ), M.of_eq h3]
    rfl
  | false => rfl
theorem ev_bi {f : Bi} {es : List E} {ds : List D} (h : Evs C es ρ ds) (hd : biD f ds = some d) : Ev C (.bi f es) ρ d := .mk fun τ => by
  show ((evEs C es ρ).bnd fun ds => M.of (biD f ds)) τ = _
  rw [M.bnd_eq (h.run τ), M.of_eq hd]
theorem evs_nil : Evs C [] ρ [] := .mk fun _ => rfl
theorem evs_cons {es : List E} {ds : List D} (ha : Ev C a ρ x) (h : Evs C es ρ ds) (hs : a.isStar = false) : Evs C (a :: es) ρ (x :: ds) := .mk fun τ => by
  have : evEs C (a :: es) ρ = (evE C a ρ).bnd fun x => (evEs C es ρ).bnd fun ys => M.ret (x :: ys) := by
    cases a <;> first | rfl | cases hs
  rw [this, M.bnd_eq (ha.run τ), M.bnd_eq (h.run τ)]
  rfl
theorem evs_star {es : List E} {ds xs : List D} (ha : Ev C a ρ x) (hx : seqD x = some xs) (h : Evs C es ρ ds) : Evs C (.star a :: es) ρ (xs ++ ds) := .mk fun τ => by
  show ((evE C a ρ).bnd fun x => (M.of (seqD x)).bnd fun xs => (evEs C es ρ).bnd fun ys => M.ret (xs ++ ys)) τ = _
  rw [M.bnd_eq (ha.run τ), M.bnd_eq (M.of_eq hx), M.bnd_eq (h.run τ)]
  rfl
theorem ev_bi1 {f : Bi} (h : Ev C a ρ x) (hd : biD f [x] = some d) (hs : a.isStar = false := by rfl) : Ev C (.bi f [a]) ρ d := ev_bi (evs_cons h evs_nil hs) hd
theorem ev_lenL {xs : List D} (h : Ev C a ρ (.list xs)) (hs : a.isStar = false := by rfl) : Ev C (.bi .len [a]) ρ (.int xs.length) := ev_bi1 h rfl hs
theorem ev_lenT {xs : List D} (h : Ev C a ρ (.tuple xs)) (hs : a.isStar = false := by rfl) : Ev C (.bi .len [a]) ρ (.int xs.length) := ev_bi1 h rfl hs
theorem ev_lenD {xs : List (D × D)} (h : Ev C a ρ (.dict xs)) (hs : a.isStar = false := by rfl) : Ev C (.bi .len [a]) ρ (.int xs.length) := ev_bi1 h rfl hs
theorem ev_lenS {s : Str} (h : Ev C a ρ (.str s)) (hl : s.length ≤ 16777216) (hs : a.isStar = false := by rfl) : Ev C (.bi .len [a]) ρ (.int s.length) := ev_bi1 h (if_pos (by unfold lineOk; exact decide_eq_true hl)) hs
theorem ev_listL {xs : List D} (h : Ev C a ρ (.list xs)) (hs : a.isStar = false := by rfl) : Ev C (.bi .list [a]) ρ (.list xs) := ev_bi1 h rfl hs
theorem ev_listT {xs : List D} (h : Ev C a ρ (.tuple xs)) (hs : a.isStar = false := by rfl) : Ev C (.bi .list [a]) ρ (.list xs) := ev_bi1 h rfl hs
theorem ev_tupleL {xs : List D} (h : Ev C a ρ (.list xs)) (hs : a.isStar = false := by rfl) : Ev C (.bi .tuple [a]) ρ (.tuple xs) := ev_bi1 h rfl hs
theorem ev_tupleT {xs : List D} (h : Ev C a ρ (.tuple xs)) (hs : a.isStar = false := by rfl) : Ev C (.bi .tuple [a]) ρ (.tuple xs) := ev_bi1 h rfl hs
theorem ev_abs (h : Ev C a ρ (.int i)) (hs : a.isStar = false := by rfl) : Ev C (.bi .abs [a]) ρ (.int (if i < 0 then -i else i)) := ev_bi1 h rfl hs
theorem ev_toInt (h : Ev C a ρ (.int i)) (hs : a.isStar = false := by rfl) : Ev C (.bi .int [a]) ρ (.int i) := ev_bi1 h rfl hs
theorem ev_isi {ts : List String} {k : Bool} (h : Ev C a ρ x) (hd : isiD x ts = some d) : Ev C (.isi a ts k) ρ d := .mk fun τ => by
  show ((evE C a ρ).bnd fun x => M.of (isiD x ts)) τ = _
  rw [M.bnd_eq (h.run τ), M.of_eq hd]
theorem ev_get (ha : Ev C a ρ x) (hb : Ev C b ρ y) (h : getD x y = some d) : Ev C (.get a b) ρ d := .mk fun τ => by
  show ((evE C a ρ).bnd fun x => (evE C b ρ).bnd fun y => M.of (getD x y)) τ = _
  rw [M.bnd_eq (ha.run τ), M.bnd_eq (hb.run τ), M.of_eq h]
theorem ev_sliceTo (ha : Ev C a ρ x) (hb : Ev C b ρ (.int i)) (h : sliceD x none (some i) = some d) (hg : b.gone = false) : Ev C (.slice a .absent b) ρ d := .mk fun τ => by
  show ((evE C a ρ).bnd fun x => (if E.absent.gone then M.ret none else (evE C .absent ρ).bnd intP).bnd fun l => (if b.gone then M.ret none else (evE C b ρ).bnd intP).bnd fun h => M.of (sliceD x l h)) τ = _
  rw [M.bnd_eq (ha.run τ), hg]
  show ((evE C b ρ).bnd intP).bnd (fun h => M.of (sliceD x none h)) τ = _
  rw [M.bnd_eq (M.bnd_eq (hb.run τ))]
  exact M.of_eq h
theorem ev_sliceFrom (ha : Ev C a ρ x) (hb : Ev C b ρ (.int i)) (h : sliceD x (some i) none = some d) (hg : b.gone = false) : Ev C (.slice a b .absent) ρ d := .mk fun τ => by
  show ((evE C a ρ).bnd fun x => (if b.gone then M.ret none else (evE C b ρ).bnd intP).bnd fun l => (if E.absent.gone then M.ret none else (evE C .absent ρ).bnd intP).bnd fun h => M.of (sliceD x l h)) τ = _
  rw [M.bnd_eq (ha.run τ), hg]
  show ((evE C b ρ).bnd intP).bnd (fun l => (M.ret none).bnd fun h => M.of (sliceD x l h)) τ = _
  rw [M.bnd_eq (M.bnd_eq (hb.run τ))]
  exact M.of_eq h
theorem ev_rev {xs : List D} (ha : Ev C a ρ (.list xs)) : Ev C (.rev a) ρ (.list xs.reverse) := .mk fun τ => by
  show ((evE C a ρ).bnd fun x => M.of (revD x)) τ = _
  rw [M.bnd_eq (ha.run τ)]
  rfl
theorem ev_sset (ha : Ev C a ρ x) (h : ssetD x = some d) : Ev C (.sset a) ρ d := .mk fun τ => by
  show ((evE C a ρ).bnd fun x => M.of (ssetD x)) τ = _
  rw [M.bnd_eq (ha.run τ), M.of_eq h]
theorem ev_lrg {es : List E} {ds items : List D} (h : Evs C es ρ ds) (hw : walkC .range ds = some items) : Ev C (.lrg es) ρ (.list items) := .mk fun τ => by
  show ((evEs C es ρ).bnd fun xs => M.of (lrgD xs)) τ = _
  rw [M.bnd_eq (h.run τ), M.of_eq (show lrgD ds = some (.list items) by unfold lrgD; rw [hw])]
theorem ev_lst {es : List E} {ds : List D} (h : Evs C es ρ ds) (hl : ds.length ≤ 16777216) : Ev C (.lst es) ρ (.list ds) := .mk fun τ => by
  show ((evEs C es ρ).bnd fun ds => if lineOk ds.length then M.ret (PyData.list ds) else M.fail) τ = _
  rw [M.bnd_eq (h.run τ)]
  show (if lineOk ds.length then M.ret (PyData.list ds) else M.fail) τ = _
  rw [if_pos (by unfold lineOk; exact decide_eq_true hl)]
  rfl
theorem ev_tup {es : List E} {ds : List D} (h : Evs C es ρ ds) (hl : ds.length ≤ 16777216) : Ev C (.tup es) ρ (.tuple ds) := .mk fun τ => by
  show ((evEs C es ρ).bnd fun ds => if lineOk ds.length then M.ret (PyData.tuple ds) else M.fail) τ = _
  rw [M.bnd_eq (h.run τ)]
  show (if lineOk ds.length then M.ret (PyData.tuple ds) else M.fail) τ = _
  rw [if_pos (by unfold lineOk; exact decide_eq_true hl)]
  rfl
theorem ev_call {f : Nat} {es : List E} {ds : List D} (h : Evs C es ρ ds) (g : Gives C f ds d) : Ev C (.call f es) ρ d := .mk fun τ => by
  obtain ⟨t, g⟩ := g
  show ((evEs C es ρ).bnd fun ds τ => match C f ds [] with
    | some (d, _) => some (d, τ)
    | none => none) τ = _
  rw [M.bnd_eq (h.run τ)]
  simp only [g]
theorem ev_callN {f : Nat} {es : List E} {ds : List D} (h : Evs C es ρ ds) (g : Gives C f ds d) : Ev C (.callN f es) ρ d := .mk fun τ => (ev_call h g).run τ
theorem ev_callK {f : Nat} {perm : List Nat} {es ks : List E} {ds zs : List D} (h : Evs C es ρ ds) (h2 : Evs C ks ρ zs) (g : Gives C f (permL perm (ds ++ zs)) d) : Ev C (.callK f perm es ks) ρ d := .mk fun τ => by
  obtain ⟨t, g⟩ := g
  show ((evEs C es ρ).bnd fun ds => (evEs C ks ρ).bnd fun zs τ => match C f (permL perm (ds ++ zs)) [] with
    | some (d, _) => some (d, τ)
    | none => none) τ = _
  rw [M.bnd_eq (h.run τ), M.bnd_eq (h2.run τ)]
  simp only [g]
theorem ev_idx (ha : Ev C a ρ x) (hb : Ev C b ρ y) (h : idxD x y = some d) : Ev C (.idx a b) ρ d := .mk fun τ => by
  show ((evE C a ρ).bnd fun x => (evE C b ρ).bnd fun y => M.of (idxD x y)) τ = _
  rw [M.bnd_eq (ha.run τ), M.bnd_eq (hb.run τ)]
  exact M.of_eq h
theorem ev_sitm (ha : Ev C a ρ x) (h : sitmD x = some d) : Ev C (.sitm a) ρ d := .mk fun τ => by
  show ((evE C a ρ).bnd fun x => M.of (sitmD x)) τ = _
  rw [M.bnd_eq (ha.run τ)]
  exact M.of_eq h
theorem ev_dget {kvs : List (D × D)} (ha : Ev C a ρ (.dict kvs)) (hb : Ev C b ρ y) (hc : Ev C c ρ z) (hk : isKey y = true) : Ev C (.dget a b c) ρ ((lookK kvs y).getD z) := .mk fun τ => by
  show ((evE C a ρ).bnd fun d => (evE C b ρ).bnd fun y => (evE C c ρ).bnd fun z => M.of (dgetD d y z)) τ = _
  rw [M.bnd_eq (ha.run τ), M.bnd_eq (hb.run τ), M.bnd_eq (hc.run τ)]
  exact M.of_eq (if_pos hk)
theorem ev_inT {xs : List D} (ha : Ev C a ρ x) (hb : Ev C b ρ (.tuple xs)) (h : (x.canLay0 && decide (x.depth ≤ 40) && PyData.canLayAll0 xs) = true) : Ev C (.cmp .In a b) ρ (.bool (inD x xs)) := ev_cmp ha hb (by
  show inSeq false x xs = _
  unfold inSeq
  rw [if_pos h]; rfl)
theorem ev_inL {xs : List D} (ha : Ev C a ρ x) (hb : Ev C b ρ (.list xs)) (h : (x.canLay0 && decide (x.depth ≤ 40) && PyData.canLayAll0 xs) = true) : Ev C (.cmp .In a b) ρ (.bool (inD x xs)) := ev_cmp ha hb (by
  show inSeq false x xs = _
  unfold inSeq
  rw [if_pos h]; rfl)
theorem ev_ninT {xs : List D} (ha : Ev C a ρ x) (hb : Ev C b ρ (.tuple xs)) (h : (x.canLay0 && decide (x.depth ≤ 40) && PyData.canLayAll0 xs) = true) : Ev C (.cmp .NotIn a b) ρ (.bool (!inD x xs)) := ev_cmp ha hb (by
  show inSeq true x xs = _
  unfold inSeq
  rw [if_pos h]; rfl)
theorem ev_ninL {xs : List D} (ha : Ev C a ρ x) (hb : Ev C b ρ (.list xs)) (h : (x.canLay0 && decide (x.depth ≤ 40) && PyData.canLayAll0 xs) = true) : Ev C (.cmp .NotIn a b) ρ (.bool (!inD x xs)) := ev_cmp ha hb (by
  show inSeq true x xs = _
  unfold inSeq
  rw [if_pos h]; rfl)
/-! comprehensions -/
theorem compL_map {ι : Type} {f : D → M (Option D)} {inj : ι → D} {g : ι → D} {τ : List D} : ∀ (l : List ι), (∀ x ∈ l, f (inj x) τ = some (some (g x), τ)) → compL f (l.map inj) τ = some (l.map g, τ)
  | [], _ => rfl
  | x :: r, h => by
    show ((f (inj x)).bnd _) τ = _
    rw [M.bnd_eq (h x List.mem_cons_self), M.bnd_eq (compL_map r fun y hy => h y (List.mem_cons_of_mem _ hy))]
    rfl
theorem compL_filter {ι : Type} {f : D → M (Option D)} {inj : ι → D} {g : ι → D} {k : ι → Bool} {τ : List D} : ∀ (l : List ι), (∀ x ∈ l, f (inj x) τ = some (if k x then some (g x) else none, τ)) → compL f (l.map inj) τ = some ((l.filter k).map g, τ)
  | [], _ => rfl
  | x :: r, h => by
    show ((f (inj x)).bnd _) τ = _
    rw [M.bnd_eq (h x List.mem_cons_self), M.bnd_eq (compL_filter r fun y hy => h y (List.mem_cons_of_mem _ hy)), List.filter_cons]
    cases k x <;> rfl
/-- [elt for tg in src] -/
theorem ev_comp {ι : Type} {elt : E} {tg : Tg} {ik : IK} {src : List E} {xs : List D} {l : List ι} {inj : ι → D} {g : ι → D} (hs : Evs C src ρ xs) (hw : walkC ik xs = some (l.map inj))
    (he : ∀ x ∈ l, ∃ ρ', setTg tg (inj x) (wipeE ρ tg.slots) = some ρ' ∧ Ev C elt ρ' (g x)) : Ev C (.comp elt tg ik src .absent) ρ (.list (l.map g)) := .mk fun τ => by
  show ((evEs C src ρ).bnd fun xs => (M.of (walkC ik xs)).bnd fun items =>
    (compL (fun d => (M.of (setTg tg d (wipeE ρ tg.slots))).bnd fun ρ' => (if E.absent.gone then M.ret true else (evE C .absent ρ').bnd fun x => M.of (truD x)).bnd fun k => if k then (evE C elt ρ').bnd fun y => M.ret (some y) else M.ret none) items).bnd fun ys => M.ret (PyData.list ys)) τ = _
  rw [M.bnd_eq (hs.run τ), M.bnd_eq (M.of_eq hw)]
  refine (M.bnd_eq (compL_map (g := g) l fun x hx => ?_)).trans rfl
  obtain ⟨ρ', h1, h2⟩ := he x hx
  rw [M.bnd_eq (M.of_eq h1)]
  show ((evE C elt ρ').bnd fun y => M.ret (some y)) τ = _
  rw [M.bnd_eq (h2.run τ)]
  rfl
/-- [elt for tg in src if cond] -/
theorem ev_compIf {ι : Type} {elt cond : E} {tg : Tg} {ik : IK} {src : List E} {xs : List D} {l : List ι} {inj : ι → D} {g : ι → D} {k : ι → Bool} (hs : Evs C src ρ xs) (hw : walkC ik xs = some (l.map inj)) (hg : cond.gone = false)
    (he : ∀ x ∈ l, ∃ ρ', setTg tg (inj x) (wipeE ρ tg.slots) = some ρ' ∧ Ev C cond ρ' (.bool (k x)) ∧ (k x = true → Ev C elt ρ' (g x))) : Ev C (.comp elt tg ik src cond) ρ (.list ((l.filter k).map g)) := .mk fun τ => by
  show ((evEs C src ρ).bnd fun xs => (M.of (walkC ik xs)).bnd fun items =>
    (compL (fun d => (M.of (setTg tg d (wipeE ρ tg.slots))).bnd fun ρ' => (if cond.gone then M.ret true else (evE C cond ρ').bnd fun x => M.of (truD x)).bnd fun k => if k then (evE C elt ρ').bnd fun y => M.ret (some y) else M.ret none) items).bnd fun ys => M.ret (PyData.list ys)) τ = _
  rw [M.bnd_eq (hs.run τ), M.bnd_eq (M.of_eq hw)]
  refine (M.bnd_eq (compL_filter (g := g) (k := k) l fun x hx => ?_)).trans rfl
  obtain ⟨ρ', h1, h2, h3⟩ := he x hx
  rw [M.bnd_eq (M.of_eq h1), hg]
  show ((evE C cond ρ').bnd fun x => M.of (truD x)).bnd (fun k => if k then (evE C elt ρ').bnd fun y => M.ret (some y) else M.ret none) τ = _
  rw [M.bnd_eq ((M.bnd_eq (h2.run τ)).trans (M.of_eq rfl))]
  cases hk : k x with
  | true =>
    show ((evE C elt ρ').bnd fun y => M.ret (some y)) τ = _
    rw [M.bnd_eq ((h3 hk).run τ)]
    rfl
  | false => rfl
theorem abs_ft : false = true → Ev C a ρ (.bool false) := fun h => nomatch h
theorem abs_tf : true = false → Ev C a ρ (.bool false) := fun h => nomatch h
theorem abs_ft0 : false = true → Ev C a ρ .none := fun h => nomatch h
theorem abs_tf0 : true = false → Ev C a ρ .none := fun h => nomatch h
theorem abs_ftr {ss : List S} : false = true → Er C ss ρ (.rt .none) := fun h => nomatch h
theorem abs_tfr {ss : List S} : true = false → Er C ss ρ (.rt .none) := fun h => nomatch h
theorem abs_nf : (!false) = false → Ev C a ρ (.bool false) := fun h => nomatch h
theorem abs_nt : (!true) = true → Ev C a ρ (.bool false) := fun h => nomatch h
theorem isStar_of (h : a.isStar = false) : a.isStar = false := h
theorem gone_of (h : a.gone = false) : a.gone = false := h
theorem ex_ev {o : Option En} {ρ' : En} (h1 : o = some ρ') (h2 : Ev C e ρ' d) : ∃ ρ', o = some ρ' ∧ Ev C e ρ' d := ⟨_, h1, h2⟩
theorem ex_ev2 {o : Option En} {ρ' : En} {k : Bool} (h1 : o = some ρ') (h2 : Ev C c ρ' (.bool k)) (h3 : k = true → Ev C e ρ' d) : ∃ ρ', o = some ρ' ∧ Ev C c ρ' (.bool k) ∧ (k = true → Ev C e ρ' d) := ⟨_, h1, h2, h3⟩
/-! statements -/
theorem er_nil : Er C [] ρ (.nx ρ) := .mk fun _ => rfl
theorem er_seq {s : S} {r : List S} {ρ' : En} {o : Out} (h : ∀ τ, evS C s ρ τ = some (.nx ρ', τ)) (hr : Er C r ρ' o) : Er C (s :: r) ρ o := .mk fun τ => by
  show ((evS C s ρ).bnd _) τ = _
  rw [M.bnd_eq (h τ)]
  exact hr.run τ
theorem er_ret {r : List S} (h : Ev C e ρ d) : Er C (.ret e :: r) ρ (.rt d) := .mk fun τ => by
  show (((evE C e ρ).bnd fun d => M.ret (Out.rt d)).bnd _) τ = _
  rw [M.bnd_eq (M.bnd_eq (h.run τ))]
  rfl
theorem er_asg {k : Nat} {r : List S} {o : Out} (h : Ev C e ρ d) (hr : Er C r (ρ.set k (some (.dat d))) o) : Er C (.asg k e :: r) ρ o :=
  er_seq (fun τ => by
    show ((evE C e ρ).bnd fun d => setO k (.dat d) ρ) τ = _
    rw [M.bnd_eq (h.run τ)]
    rfl) hr
theorem er_asgL {k : Nat} {r : List S} {o : Out} {ds : List D} (h : Ev C e ρ (.list ds)) (hr : Er C r (ρ.set k (some (.own (.lst ds)))) o) : Er C (.asgO k e :: r) ρ o :=
  er_seq (fun τ => by
    show ((evE C e ρ).bnd fun d => (M.of (odP d)).bnd fun o => setO k (.own o) ρ) τ = _
    rw [M.bnd_eq (h.run τ)]
    rfl) hr
theorem er_asgD {k : Nat} {r : List S} {o : Out} {ds : List (D × D)} (h : Ev C e ρ (.dict ds)) (hr : Er C r (ρ.set k (some (.own (.dic ds)))) o) : Er C (.asgO k e :: r) ρ o :=
  er_seq (fun τ => by
    show ((evE C e ρ).bnd fun d => (M.of (odP d)).bnd fun o => setO k (.own o) ρ) τ = _
    rw [M.bnd_eq (h.run τ)]
    rfl) hr
theorem er_unp {is : List Nat} {r : List S} {o : Out} {ds : List D} {ρ' : En} (h : Ev C e ρ (.tuple ds)) (hs : setDs is ds ρ = some ρ') (hr : Er C r ρ' o) : Er C (.unp is e :: r) ρ o :=
  er_seq (fun τ => by
    show ((evE C e ρ).bnd fun d => match d with
      | .tuple ds => (M.of (setDs is ds ρ)).bnd fun ρ' => M.ret (Out.nx ρ')
      | _ => M.fail) τ = _
    rw [M.bnd_eq (h.run τ)]
    show ((M.of (setDs is ds ρ)).bnd fun ρ' => M.ret (Out.nx ρ')) τ = _
    rw [M.bnd_eq (M.of_eq hs)]
    rfl) hr
theorem er_par {ts : List (Nat × Bool)} {es : List E} {r : List S} {o : Out} {ds : List D} {ρ' : En} (h : Evs C es ρ ds) (hs : setPar ts ds ρ = some ρ') (hr : Er C r ρ' o) : Er C (.par ts es :: r) ρ o :=
  er_seq (fun τ => by
    show ((evEs C es ρ).bnd fun ds => (M.of (setPar ts ds ρ)).bnd fun ρ' => M.ret (Out.nx ρ')) τ = _
    rw [M.bnd_eq (h.run τ), M.bnd_eq (M.of_eq hs)]
    rfl) hr
theorem er_frz {k : Nat} {r : List S} {o : Out} {od : Od} (h : ρ[k]? = some (some (.own od))) (hr : Er C r (ρ.set k (some (.dat od.data))) o) : Er C (.frz k :: r) ρ o :=
  er_seq (fun τ => by
    show ((ownAt ρ k).bnd fun o => setO k (.dat o.data) ρ) τ = _
    rw [M.bnd_eq (show ownAt ρ k τ = some (od, τ) by unfold ownAt; simp only [h])]
    rfl) hr
theorem er_app {k : Nat} {r : List S} {o : Out} {ds : List D} (h : Ev C e ρ d) (hk : ρ[k]? = some (some (.own (.lst ds)))) (hl : ds.length < 16777216) (hr : Er C r (ρ.set k (some (.own (.lst (ds ++ [d]))))) o) : Er C (.app k e :: r) ρ o :=
  er_seq (fun τ => by
    show ((evE C e ρ).bnd fun d => (lstAt ρ k).bnd fun ds => if lineOk (ds.length + 1) then setO k (.own (.lst (ds ++ [d]))) ρ else M.fail) τ = _
    rw [M.bnd_eq (h.run τ), M.bnd_eq (show lstAt ρ k τ = some (ds, τ) by unfold lstAt; simp only [hk])]
    show (if lineOk (ds.length + 1) then setO k (.own (.lst (ds ++ [d]))) ρ else M.fail) τ = _
    rw [if_pos (by unfold lineOk; exact decide_eq_true hl)]
    rfl) hr
theorem er_stoD {k : Nat} {r : List S} {o : Out} {ds : List (D × D)} (h : Ev C e ρ d) (hi : Ev C a ρ x) (hk : ρ[k]? = some (some (.own (.dic ds)))) (hx : isKey x = true) (hl : ds.length < 16777216) (hr : Er C r (ρ.set k (some (.own (.dic (putKD ds x d))))) o) : Er C (.sto k a e :: r) ρ o :=
  er_seq (fun τ => by
    show ((evE C e ρ).bnd fun d => (evE C a ρ).bnd fun y => (ownAt ρ k).bnd fun o => (M.of (stoO o y d)).bnd fun o' => setO k (.own o') ρ) τ = _
    rw [M.bnd_eq (h.run τ), M.bnd_eq (hi.run τ), M.bnd_eq (show ownAt ρ k τ = some (.dic ds, τ) by unfold ownAt; simp only [hk]), M.bnd_eq (M.of_eq (stoO_d hx hl))]
    rfl) hr
/-- if that ends -/
theorem er_ifB {u v r : List S} {o1 o2 : Out} {k : Bool} (hc : Ev C c ρ x) (hx : truD x = some k) (ha : k = true → Er C (u ++ r) ρ o1) (hb : k = false → Er C (v ++ r) ρ o2) : Er C (.ite c u v :: r) ρ (if k then o1 else o2) := .mk fun τ => by
  have app : ∀ (u r : List S) (ρ : En), evSs C (u ++ r) ρ = (evSs C u ρ).bnd fun o => match o with
      | .nx ρ' => evSs C r ρ'
      | .ct ρ' => M.ret (Out.ct ρ')
      | .rt x => M.ret (Out.rt x) := by
    intro u
    induction u with
    | nil => intro r ρ; rfl
    | cons s u ih =>
      intro r ρ
      funext τ
      show ((evS C s ρ).bnd _) τ = ((evS C s ρ).bnd _).bnd _ τ
      unfold M.bnd
      cases evS C s ρ τ with
      | none => rfl
      | some q =>
        obtain ⟨o, τ'⟩ := q
        cases o with
        | nx ρ' => exact congrFun (ih r ρ') τ'
        | ct ρ' => rfl
        | rt x => rfl
  show (((evE C c ρ).bnd fun x => (M.of (truD x)).bnd fun k => if k then evSs C u ρ else evSs C v ρ).bnd fun o => match o with
      | .nx ρ' => evSs C r ρ'
      | .ct ρ' => M.ret (Out.ct ρ')
      | .rt x => M.ret (Out.rt x)) τ = _
  have e1 : ((evE C c ρ).bnd fun x => (M.of (truD x)).bnd fun k => if k then evSs C u ρ else evSs C v ρ) τ = (if k then evSs C u ρ else evSs C v ρ) τ := by
    rw [M.bnd_eq (hc.run τ), M.bnd_eq (M.of_eq hx)]
  cases k with
  | true =>
    have := (ha rfl).run τ
    rw [app] at this
    unfold M.bnd at this ⊢
    unfold M.bnd at e1
    rw [e1]
    exact this
  | false =>
    have := (hb rfl).run τ
    rw [app] at this
    unfold M.bnd at this ⊢
    unfold M.bnd at e1
    rw [e1]
    exact this
theorem er_ifRet {r : List S} {k : Bool} (hc : Ev C c ρ x) (hx : truD x = some k) (ha : k = true → Ev C e ρ d) (hb : k = false → Er C r ρ (.rt y)) : Er C (.ite c [.ret e] [] :: r) ρ (.rt (if k then d else y)) := by
  have := er_ifB (u := [.ret e]) (v := []) (r := r) hc hx (fun h => er_ret (ha h)) hb
  cases k <;> exact this
theorem er_ifT {r : List S} (hc : Ev C c ρ x) (hx : truD x = some true) (ha : Ev C e ρ d) : Er C (.ite c [.ret e] [] :: r) ρ (.rt d) := er_ifRet (y := .none) hc hx (fun _ => ha) fun h => nomatch h
theorem er_ifF {u r : List S} {o : Out} (hc : Ev C c ρ x) (hx : truD x = some false) (hb : Er C r ρ o) : Er C (.ite c u [] :: r) ρ o := by
  have := er_ifB (u := u) (v := []) (r := r) (o1 := o) hc hx (fun h => nomatch h) fun _ => hb
  exact this
theorem er_ifR {u v r : List S} {k : Bool} (hc : Ev C c ρ x) (hx : truD x = some k) (ha : k = true → Er C (u ++ r) ρ (.rt d)) (hb : k = false → Er C (v ++ r) ρ (.rt y)) : Er C (.ite c u v :: r) ρ (.rt (if k then d else y)) := by
  have := er_ifB (u := u) (v := v) (r := r) hc hx ha hb
  cases k <;> exact this
/-- a loop that looks at each and may end -/
theorem er_check {ι : Type} {tg : Tg} {ik : IK} {src : List E} {body r : List S} {xs : List D} {l : List ι} {inj : ι → D} (R : Option ι → En) (bad : ι → Bool) (hs : Evs C src ρ xs) (hw : walkD ik xs = some (l.map inj)) (hρ : ρ = R none)
    (hb : ∀ x ∈ l, ∀ s, ∃ ρ', setTg tg (inj x) (R s) = some ρ' ∧ Er C body ρ' (if bad x then .rt d else .nx (R (some x)))) (hr : l.any bad = false → Er C r (R (l.getLast?)) (.rt y)) : Er C (.loop tg ik src body :: r) ρ (.rt (if l.any bad then d else y)) := .mk fun τ => by
  subst hρ
  have go : ∀ (l' : List ι) (s : Option ι), (∀ x ∈ l', x ∈ l) → loopL (fun d ρ => (M.of (setTg tg d ρ)).bnd fun ρ' => evSs C body ρ') (l'.map inj) (R s) τ = some (if l'.any bad then .rt d else .nx (R (l'.getLast?.or s)), τ) := by
    intro l'
    induction l' with
    | nil => intro s _; rfl
    | cons z l' ih =>
      intro s hm
      obtain ⟨ρ', h1, h2⟩ := hb z (hm z List.mem_cons_self) s
      have h2 := h2.run τ
      show (((M.of (setTg tg (inj z) (R s))).bnd fun ρ' => evSs C body ρ').bnd _) τ = _
      rw [M.bnd_eq ((M.bnd_eq (M.of_eq h1)).trans h2)]
      cases hz : bad z with
      | true => simp [hz]; rfl
      | false =>
        simp only [hz, Bool.false_eq_true, if_false, List.any_cons, Bool.false_or]
        rw [ih (some z) fun y hy => hm y (List.mem_cons_of_mem _ hy)]
        cases l' with
        | nil => rfl
        | cons w l' =>
          rw [List.getLast?_cons_cons]
          cases hq : (w :: l').getLast? with
          | none => simp at hq
          | some q => rfl
  show (((evEs C src (R none)).bnd fun xs => (M.of (walkD ik xs)).bnd fun items => loopL (fun d ρ => (M.of (setTg tg d ρ)).bnd fun ρ' => evSs C body ρ') items (R none)).bnd fun o => match o with
      | .nx ρ' => evSs C r ρ'
      | .ct ρ' => M.ret (Out.ct ρ')
      | .rt x => M.ret (Out.rt x)) τ = _
  rw [M.bnd_eq ((M.bnd_eq (hs.run τ)).trans ((M.bnd_eq (M.of_eq hw)).trans (go l none fun _ h => h)))]
  cases h : l.any bad with
  | true => rfl
  | false =>
    have := (hr h).run τ
    rw [show (l.getLast?.or none) = l.getLast? by simp]
    exact this
/-- a loop that goes through: the state by what was walked -/
theorem er_loop {ι κ : Type} {tg : Tg} {ik : IK} {src : List E} {body r : List S} {xs : List D} {l : List ι} {inj : ι → D} {o : Out} (R : κ → En) (step : κ → ι → κ) (s0 : κ) (P : κ → Nat → Prop) (hs : Evs C src ρ xs) (hw : walkD ik xs = some (l.map inj)) (h0 : P s0 0) (hρ : ρ = R s0)
    (hb : ∀ x ∈ l, ∀ s k, k < l.length → P s k → P (step s x) (k + 1) ∧ ∃ ρ', setTg tg (inj x) (R s) = some ρ' ∧ (Er C body ρ' (.nx (R (step s x))) ∨ Er C body ρ' (.ct (R (step s x))))) (hr : P (l.foldl step s0) l.length → Er C r (R (l.foldl step s0)) o) : Er C (.loop tg ik src body :: r) ρ o := by
  subst hρ
  have go : ∀ (l' : List ι) (s : κ) (k : Nat), (∀ x ∈ l', x ∈ l) → P s k → k + l'.length = l.length → ∀ τ, P (l'.foldl step s) l.length ∧ loopL (fun d ρ => (M.of (setTg tg d ρ)).bnd fun ρ' => evSs C body ρ') (l'.map inj) (R s) τ = some (.nx (R (l'.foldl step s)), τ) := by
    intro l'
    induction l' with
    | nil => intro s k _ hp hk τ; simp at hk; subst hk; exact ⟨hp, rfl⟩
    | cons x l' ih =>
      intro s k hm hp hk τ
      simp only [List.length_cons] at hk
      obtain ⟨h1, ρ', h2, h3⟩ := hb x (hm x List.mem_cons_self) s k (by omega) hp
      obtain ⟨g1, g2⟩ := ih (step s x) (k + 1) (fun y hy => hm y (List.mem_cons_of_mem _ hy)) h1 (by omega) τ
      refine ⟨g1, ?_⟩
      show (((M.of (setTg tg (inj x) (R s))).bnd fun ρ' => evSs C body ρ').bnd _) τ = _
      rcases h3 with h3 | h3
      · rw [M.bnd_eq ((M.bnd_eq (M.of_eq h2)).trans (h3.run τ))]
        exact g2
      · rw [M.bnd_eq ((M.bnd_eq (M.of_eq h2)).trans (h3.run τ))]
        exact g2
  have hP := (go l s0 0 (fun _ h => h) h0 (by simp) []).1
  refine er_seq (fun τ => ?_) (hr hP)
  show ((evEs C src (R s0)).bnd fun xs => (M.of (walkD ik xs)).bnd fun items => loopL (fun d ρ => (M.of (setTg tg d ρ)).bnd fun ρ' => evSs C body ρ') items (R s0)) τ = _
  rw [M.bnd_eq (hs.run τ), M.bnd_eq (M.of_eq hw)]
  exact (go l s0 0 (fun _ h => h) h0 (by simp) τ).2
end
/-- a def's value by its text -/
theorem gives_er {B : Tb} {n f : Nat} {b : List S} {p nn : Nat} {ds : List D} {d : D} (h : Is B f b false p nn) (hr : Er (callF B n) b (envI false (nn - p) ds) (.rt d)) (hl : ds.length = p := by rfl) : Gives (callF B (n + 1)) f ds d := by
  obtain ⟨d', g, e⟩ := gives_ok (P := fun d' => d' = d) ((ok_is (n := n) (Q := fun d1 _ => d1 = d) (τ := []) h (by simpa using hl)).2 (hr.ok ⟨_, rfl, rfl⟩))
  exact e ▸ g
theorem gives_cast {C : Nat → List D → M D} {f : Nat} {ds : List D} {x y : D} (h : Gives C f ds x) (e : x = y) : Gives C f ds y := e ▸ h
theorem gives_er1 {B : Tb} {n f : Nat} {b : List S} {p nn : Nat} {ds : List D} {x y : D} (h : Is B f b false p nn) (hl : ds.length = p) (hr : Er (callF B n) b (envI false (nn - p) ds) (.rt x)) (e : x = y) : Gives (callF B (n + 1)) f ds y := e ▸ gives_er h hr hl
end KN

set_option maxRecDepth 100000
set_option maxHeartbeats 4000000
namespace KN
open PySem L2 PyProof.Rows
/-! ### what is walked, as the image of a list -/
section
variable {ι κ : Type} {a b : D} {l : List ι} {m : List κ} {f : ι → D} {g : κ → D} {xs ys : List D}
theorem range_len : ∀ (n : Nat) (lo : Int), (rangeD lo n).length = n
  | 0, _ => rfl
  | n + 1, lo => by simp [rangeD, range_len n]
theorem rangeD_eq : ∀ (n : Nat) (lo : Nat), rangeD (lo : Int) n = (List.range' lo n).map fun k : Nat => PyData.int (k : Int)
  | 0, _ => rfl
  | n + 1, lo => by
    have := rangeD_eq n (lo + 1)
    rw [show ((lo + 1 : Nat) : Int) = (lo : Int) + 1 by omega] at this
    simp [rangeD, List.range'_succ, this]
theorem wd_range {n : Nat} (h : n ≤ 16777216) : walkD .range [.int (n : Int)] = some ((List.range n).map fun k : Nat => PyData.int (k : Int)) := by
  rw [walkD_range (by omega) (by omega), List.range_eq_range', ← rangeD_eq]
  rfl
theorem wd_rangeI {i : Int} (h : i ≤ 16777216) (h0 : 0 ≤ i) : walkD .range [.int i] = some ((List.range i.toNat).map fun k : Nat => PyData.int (k : Int)) := by
  obtain ⟨n, rfl⟩ := Int.eq_ofNat_of_zero_le h0
  exact wd_range (by omega)
theorem enum_map : ∀ (l : List ι) (k : Nat), enumFrom k (l.map f) = (l.zipIdx k).map fun p => .tuple [.int (p.2 : Int), f p.1]
  | [], _ => rfl
  | x :: r, k => by simp [enumFrom, List.zipIdx_cons, enum_map r (k + 1)]
theorem zip_map : ∀ (l : List ι) (m : List κ), zipD (l.map f) (m.map g) = (l.zip m).map fun p => .tuple [f p.1, g p.2]
  | [], _ => rfl
  | _ :: _, [] => rfl
  | x :: r, y :: q => by simp [zipD, zip_map r q]
theorem wd_lm : walkD .ex [.list (l.map f)] = some (l.map f) := rfl
theorem wd_tm : walkD .ex [.tuple (l.map f)] = some (l.map f) := rfl
theorem wd_l : walkD .ex [.list xs] = some (xs.map fun d => d) := by rw [List.map_id']; rfl
theorem wd_t : walkD .ex [.tuple xs] = some (xs.map fun d => d) := by rw [List.map_id']; rfl
theorem wd_s {z : Str} : walkD .ex [.str z] = some (z.cps.toList.map fun c => .str ⟨#[c]⟩) := rfl
theorem wd_d {kvs : List (D × D)} : walkD .ex [.dict kvs] = some (kvs.map (·.1)) := rfl
theorem wd_vals {kvs : List (D × D)} : walkD .vals [.dict kvs] = some (kvs.map (·.2)) := rfl
theorem wd_items {kvs : List (D × D)} : walkD .items [.dict kvs] = some (kvs.map fun p => .tuple [p.1, p.2]) := rfl
theorem wd_elm : walkD .enum [.list (l.map f)] = some (l.zipIdx.map fun p => .tuple [.int (p.2 : Int), f p.1]) := by rw [← enum_map]; rfl
theorem wd_etm : walkD .enum [.tuple (l.map f)] = some (l.zipIdx.map fun p => .tuple [.int (p.2 : Int), f p.1]) := by rw [← enum_map]; rfl
theorem wd_el : walkD .enum [.list xs] = some (xs.zipIdx.map fun p => .tuple [.int (p.2 : Int), p.1]) := by
  have := wd_elm (l := xs) (f := fun d => d)
  rwa [List.map_id'] at this
theorem wd_et : walkD .enum [.tuple xs] = some (xs.zipIdx.map fun p => .tuple [.int (p.2 : Int), p.1]) := by
  have := wd_etm (l := xs) (f := fun d => d)
  rwa [List.map_id'] at this
theorem wd_es {z : Str} : walkD .enum [.str z] = some (z.cps.toList.zipIdx.map fun p => .tuple [.int (p.2 : Int), .str ⟨#[p.1]⟩]) := by rw [← enum_map (f := fun c => PyData.str ⟨#[c]⟩)]; rfl
theorem wd_zlm : walkD .zip [.list (l.map f), .list (m.map g)] = some ((l.zip m).map fun p => .tuple [f p.1, g p.2]) := by rw [← zip_map]; rfl
theorem wd_ztm : walkD .zip [.tuple (l.map f), .tuple (m.map g)] = some ((l.zip m).map fun p => .tuple [f p.1, g p.2]) := by rw [← zip_map]; rfl
theorem wd_zltm : walkD .zip [.list (l.map f), .tuple (m.map g)] = some ((l.zip m).map fun p => .tuple [f p.1, g p.2]) := by rw [← zip_map]; rfl
theorem wd_ztlm : walkD .zip [.tuple (l.map f), .list (m.map g)] = some ((l.zip m).map fun p => .tuple [f p.1, g p.2]) := by rw [← zip_map]; rfl
theorem wd_zl : walkD .zip [.list xs, .list ys] = some ((xs.zip ys).map fun p => .tuple [p.1, p.2]) := by
  have := wd_zlm (l := xs) (m := ys) (f := fun d => d) (g := fun d => d)
  rwa [List.map_id', List.map_id'] at this
theorem wd_zt : walkD .zip [.tuple xs, .tuple ys] = some ((xs.zip ys).map fun p => .tuple [p.1, p.2]) := by
  have := wd_ztm (l := xs) (m := ys) (f := fun d => d) (g := fun d => d)
  rwa [List.map_id', List.map_id'] at this
theorem wc {ik : IK} (h : walkD ik xs = some (l.map f)) (hl : l.length ≤ 16777216) : walkC ik xs = some (l.map f) := walkC_of h (by rw [List.length_map]; exact hl)
theorem all_bools {l : List ι} {p : ι → Bool} : biD .all [.list (l.map fun x => .bool (p x))] = some (.bool (l.all p)) := by
  have e : ∀ l : List ι, blsOf (l.map fun x => PyData.bool (p x)) = some (l.map p) := by
    intro l
    induction l with
    | nil => rfl
    | cons x r ih => simp [blsOf, ih]
  show (match blsOf (l.map fun x => PyData.bool (p x)) with
    | some bs => some (PyData.bool (bs.all id))
    | none => none) = _
  rw [e]
  simp only [List.all_map]
  rfl
theorem any_bools {l : List ι} {p : ι → Bool} : biD .any [.list (l.map fun x => .bool (p x))] = some (.bool (l.any p)) := by
  have e : ∀ l : List ι, blsOf (l.map fun x => PyData.bool (p x)) = some (l.map p) := by
    intro l
    induction l with
    | nil => rfl
    | cons x r ih => simp [blsOf, ih]
  show (match blsOf (l.map fun x => PyData.bool (p x)) with
    | some bs => some (PyData.bool (bs.any id))
    | none => none) = _
  rw [e]
  simp only [List.any_map]
  rfl
theorem sl_fromL {k : Nat} : sliceD (.list (l.map f)) (some (k : Int)) none = some (.list ((l.drop k).map f)) := by
  rw [sliceD_list, cut_from, List.map_drop]
theorem sl_fromT {k : Nat} : sliceD (.tuple (l.map f)) (some (k : Int)) none = some (.tuple ((l.drop k).map f)) := by
  rw [sliceD_tuple, cut_from, List.map_drop]
theorem sl_toL {k : Nat} : sliceD (.list (l.map f)) none (some (k : Int)) = some (.list ((l.take k).map f)) := by
  rw [sliceD_list, cut_to, List.map_take]
theorem sl_toT {k : Nat} : sliceD (.tuple (l.map f)) none (some (k : Int)) = some (.tuple ((l.take k).map f)) := by
  rw [sliceD_tuple, cut_to, List.map_take]
theorem sl_1L : sliceD (.list (l.map f)) (some 1) none = some (.list ((l.drop 1).map f)) := sl_fromL (k := 1)
theorem sl_1T : sliceD (.tuple (l.map f)) (some 1) none = some (.tuple ((l.drop 1).map f)) := sl_fromT (k := 1)
theorem sl_fromL' {k : Nat} : sliceD (.list xs) (some (k : Int)) none = some (.list (xs.drop k)) := by rw [sliceD_list, cut_from]
theorem sl_fromT' {k : Nat} : sliceD (.tuple xs) (some (k : Int)) none = some (.tuple (xs.drop k)) := by rw [sliceD_tuple, cut_from]
theorem sl_toL' {k : Nat} : sliceD (.list xs) none (some (k : Int)) = some (.list (xs.take k)) := by rw [sliceD_list, cut_to]
theorem sl_toT' {k : Nat} : sliceD (.tuple xs) none (some (k : Int)) = some (.tuple (xs.take k)) := by rw [sliceD_tuple, cut_to]
/-- the order of texts -/
def ltS (a b : Str) : Bool := decide (a.cps.toList < b.cps.toList)
theorem shaped_str {x : Str} (h : PyData.strOk x = true) : SeqAt.shaped (.str x) = true := by simp [SeqAt.shaped, PyData.canLay0, PyData.depth, h]
theorem cmp_ltS {a b : Str} (ha : PyData.strOk a = true) (hb : PyData.strOk b = true) : cmpD .Lt (.str a) (.str b) = some (.bool (ltS a b)) := by
  show (ltD (.str a) (.str b)).map PyData.bool = _
  unfold ltD
  rw [if_pos (by simp [PySem.W.alike, ordD, shaped_str ha, shaped_str hb]), lt_ss]
  rfl
theorem beqS (a b : Str) : (a == b) = decide (a = b) := by
  by_cases h : a = b
  · subst h; simp
  · rw [decide_eq_false h]; simpa using h
theorem cmp_eqS {a b : Str} (ha : PyData.strOk a = true) (hb : PyData.strOk b = true) : cmpD .Eq (.str a) (.str b) = some (.bool (decide (a = b))) := by
  rw [cmpD_eq (shaped_str ha) (shaped_str hb)]
  simp only [PyData.eqv, beqS]
theorem cmp_neS {a b : Str} (ha : PyData.strOk a = true) (hb : PyData.strOk b = true) : cmpD .NotEq (.str a) (.str b) = some (.bool (!decide (a = b))) := by
  rw [cmpD_ne (shaped_str ha) (shaped_str hb)]
  simp only [PyData.eqv, beqS]
theorem get_t0 : getD (.tuple (a :: xs)) (.int 0) = some a := by rw [getD_tuple, atI_zero]; rfl
theorem get_t1 : getD (.tuple (a :: b :: xs)) (.int 1) = some b := by rw [getD_tuple, atI_one]; rfl
theorem get_l0 : getD (.list (a :: xs)) (.int 0) = some a := by rw [getD_list, atI_zero]; rfl
theorem get_l1 : getD (.list (a :: b :: xs)) (.int 1) = some b := by rw [getD_list, atI_one]; rfl
theorem inS_one {c : Nat} {b : Str} : cmpD .In (.str ⟨#[c]⟩) (.str b) = some (.bool (decide (c ∈ b.cps.toList))) := rfl
theorem ninS_one {c : Nat} {b : Str} : cmpD .NotIn (.str ⟨#[c]⟩) (.str b) = some (.bool (!decide (c ∈ b.cps.toList))) := rfl
theorem binD_addS {s t : Str} (h : s.length + t.length ≤ 16777216) : binD .Add (.str s) (.str t) = some (.str (s ++ t)) := if_pos (by unfold lineOk; exact decide_eq_true h)
theorem lenS_ok {z : Str} (h : z.length ≤ 16777216) : biD .len [.str z] = some (.int z.length) := if_pos (by unfold lineOk; exact decide_eq_true h)
end
end KN

set_option maxRecDepth 100000
set_option maxHeartbeats 4000000
namespace KN
open PySem L2 PyProof.Rows

def b7_take : List S := [
  .ite (.cmp .Gt (.tget 0 (.int 0)) (.int 0)) [.asg 2 (.bin .Mod (.bi .int [.tget 0 (.int 0)]) (.var 1)), .stoT 0 (.int 0) (.bin .FloorDiv (.tget 0 (.int 0)) (.var 1)), .ret (.var 2)] [],
  .stoT 0 (.int 2) (.bin .Add (.tget 0 (.int 2)) (.int 1)),
  .asg 3 (.bin .Mod (.bi .int [.bin .Mult (.bin .Add (.tget 0 (.int 1)) (.bin .Mult (.int 48271) (.tget 0 (.int 2)))) (.bin .Add (.int 39373) (.tget 0 (.int 2)))]) (.int 2147483647)),
  .asg 4 (.bin .Add (.bin .Mod (.bi .int [.var 3]) (.int 40009)) (.int 7)),
  .asg 5 (.bin .Mod (.bi .int [.bin .Mult (.bin .Add (.bin .Add (.var 3) (.tget 0 (.int 2))) (.bin .FloorDiv (.tget 0 (.int 1)) (.int 1000003))) (.var 4)]) (.int 2147483629)),
  .ret (.bin .Mod (.bi .int [.bin .FloorDiv (.bin .Mod (.bi .int [.bin .Add (.bin .Mult (.var 5) (.int 48271)) (.var 3)]) (.int 2147483587)) (.int 64)]) (.var 1))]
structure C7 (B : Tb) : Prop where
  own : Is B 7 b7_take true 2 6
def b8_cells : List S := [
  .asgO 2 (.or (.bi .list [.slice (.var 0) .absent (.var 1)]) (.lst [.int 0])),
  .loop (.tup [3, 4]) .enum [.slice (.var 0) (.var 1) (.int 63)] [.asg 5 (.bin .Mod (.bi .int [.var 3]) (.var 1)), .sto 2 (.var 5) (.bin .Add (.get (.peek 2) (.var 5)) (.bin .Mult (.var 4) (.bin .Add (.var 3) (.int 2))))],
  .frz 2,
  .ret (.var 2)]
structure C8 (B : Tb) : Prop where
  own : Is B 8 b8_cells false 2 6
def b10_same : List S := [
  .ite (.isi (.var 1) ["list", "tuple"] true) [.ite (.or (.cmp .NotEq (.isi (.var 0) ["list"] false) (.isi (.var 1) ["list"] false)) (.cmp .NotEq (.isi (.var 0) ["tuple"] false) (.isi (.var 1) ["tuple"] false))) [.ret (.bl false)] [], .ret (.and (.cmp .Eq (.bi .len [.var 0]) (.bi .len [.var 1])) (.bi .all [.comp (.call 10 [.var 2, .var 3]) (.tup [2, 3]) .zip [.var 0, .var 1] .absent]))] [],
  .ite (.isi (.var 1) ["dict"] false) [.ite (.or (.not (.isi (.var 0) ["dict"] false)) (.cmp .NotEq (.bi .sorted [.var 0]) (.bi .sorted [.var 1]))) [.ret (.bl false)] [], .ret (.bi .all [.comp (.call 10 [.get (.var 0) (.var 4), .get (.var 1) (.var 4)]) (.nm 4) .ex [.var 1] .absent])] [],
  .ite (.or (.cmp .Is (.var 1) .non) (.isi (.var 1) ["bool", "str"] true)) [.ret (.and (.cmp .Eq (.var 0) (.var 1)) (.and (.cmp .Eq (.isi (.var 0) ["bool"] false) (.isi (.var 1) ["bool"] false)) (.cmp .Eq (.cmp .Is (.var 0) .non) (.cmp .Is (.var 1) .non))))] [],
  .ret (.and (.isi (.var 0) ["int"] false) (.and (.not (.isi (.var 0) ["bool"] false)) (.cmp .Eq (.var 0) (.var 1))))]
structure C10 (B : Tb) : Prop where
  own : Is B 10 b10_same false 2 5
def b11_goods : List S := [
  .asg 3 (.slice (.comp (.bin .Add (.str "r") (.var 4)) (.nm 4) .ex [.str "abcdefghijkl"] .absent) .absent (.callT 7 0 [.bin .Add (.var 1) (.int 1)])),
  .ret (.bi .tuple [.comp (.tup [.var 5, .callT 7 0 [.var 2]]) (.nm 5) .ex [.var 3] .absent])]
structure C11 (B : Tb) : Prop where
  own : Is B 11 b11_goods true 3 6
  c7 : C7 B
def b18_tupled : List S := [
  .ret (.ite (.isi (.var 0) ["list", "tuple"] true) (.bi .tuple [.comp (.call 18 [.var 1]) (.nm 1) .ex [.var 0] .absent]) (.var 0))]
structure C18 (B : Tb) : Prop where
  own : Is B 18 b18_tupled false 1 2
def b20_near_table : List S := [
  .asg 2 (.call 18 [.var 0]),
  .asgO 3 .dic0,
  .loop (.tup [4, 5]) .ex [.var 2] [.sto 3 (.var 4) (.bi .tuple [.comp (.var 6) (.tup [6, 7]) .ex [.var 2] (.and (.cmp .NotEq (.var 6) (.var 4)) (.cmp .LtE (.bi .abs [.bin .Sub (.var 7) (.var 5)]) (.var 1)))])],
  .frz 3,
  .ret (.var 3)]
structure C20 (B : Tb) : Prop where
  own : Is B 20 b20_near_table false 2 8
  c18 : C18 B
def b21_clash : List S := [
  .asg 2 (.comp2 (.tup [.var 3, .var 4]) (.nm 3) .ex [.var 1] .absent (.nm 4) .ex [.get (.var 0) (.var 3)] (.and (.cmp .Lt (.var 3) (.var 4)) (.cmp .In (.var 4) (.var 1)))),
  .ret (.ite (.cmp .Gt (.bi .len [.var 2]) (.int 0)) (.bi .min [.var 2]) .non)]
structure C21 (B : Tb) : Prop where
  own : Is B 21 b21_clash false 2 5
def b22_uncovered : List S := [
  .ret (.bi .tuple [.comp (.var 2) (.nm 2) .ex [.var 0] (.and (.cmp .NotIn (.var 2) (.var 1)) (.not (.bi .any [.comp (.cmp .In (.var 3) (.var 1)) (.nm 3) .ex [.get (.var 0) (.var 2)] .absent])))])]
structure C22 (B : Tb) : Prop where
  own : Is B 22 b22_uncovered false 2 4
def b26_lists : List S := [
  .ret (.ite (.isi (.var 0) ["list", "tuple"] true) (.comp (.call 26 [.var 1]) (.nm 1) .ex [.var 0] .absent) (.var 0))]
structure C26 (B : Tb) : Prop where
  own : Is B 26 b26_lists false 1 2
def b27_close : List S := [
  .asgO 2 .dic0,
  .loop (.tup [3, 4]) .ex [.var 0] [.sto 2 (.var 3) (.comp (.get (.var 5) (.int 0)) (.nm 5) .ex [.var 0] (.and (.cmp .NotEq (.get (.var 5) (.int 0)) (.var 3)) (.cmp .LtE (.bi .abs [.bin .Sub (.get (.var 5) (.int 1)) (.var 4)]) (.var 1))))],
  .frz 2,
  .ret (.var 2)]
structure C27 (B : Tb) : Prop where
  own : Is B 27 b27_close false 2 6
def b31_text : List S := [
  .ret (.tup [.tup [.str "a", .int 0], .tup [.str "b", .int 2], .tup [.str "c", .int 3], .tup [.str "d", .int 5], .tup [.str "e", .int 9]])]
structure C31 (B : Tb) : Prop where
  own : Is B 31 b31_text false 0 0
def b37_names_of : List S := [
  .ret (.bi .tuple [.comp (.var 1) (.tup [1, 2]) .ex [.call 18 [.var 0]] .absent])]
structure C37 (B : Tb) : Prop where
  own : Is B 37 b37_names_of false 1 3
  c18 : C18 B
def b38_check_names : List S := [
  .asg 2 (.call 37 [.var 0]),
  .loop (.nm 3) .ex [.var 1] [.ite (.cmp .NotIn (.var 3) (.var 2)) [.rais 0 [.var 3]] []]]
structure C38 (B : Tb) : Prop where
  own : Is B 38 b38_check_names false 2 4
  c37 : C37 B
def b241_near_pair : List S := [
  .expr (.call 38 [.var 0, .var 2]),
  .ret (.call 21 [.call 20 [.var 0, .var 1], .var 2])]
structure C241 (B : Tb) : Prop where
  own : Is B 241 b241_near_pair false 3 3
  c20 : C20 B
  c21 : C21 B
  c38 : C38 B
def b242_missed : List S := [
  .expr (.call 38 [.var 0, .var 2]),
  .ret (.call 22 [.call 20 [.var 0, .var 1], .var 2])]
structure C242 (B : Tb) : Prop where
  own : Is B 242 b242_missed false 3 3
  c20 : C20 B
  c22 : C22 B
  c38 : C38 B
def b243_box : List S := [
  .asg 2 (.ite (.cmp .Lt (.var 1) (.bi .len [.var 0])) (.get (.var 0) (.var 1)) (.int 0)),
  .ret (.lst [.bin .Mult (.bi .abs [.var 2]) (.bi .int [.cmp .GtE (.bi .abs [.var 2]) (.bin .Pow (.int 10) (.int 18))]), .bin .Add (.bin .Add (.bin .Mod (.bi .int [.var 2]) (.int 2305843009213693951)) (.bin .Mult (.int 39373) (.var 1))) (.int 1268), .int 0])]
structure C243 (B : Tb) : Prop where
  own : Is B 243 b243_box false 2 3
def b244_heard : List S := [
  .par [(4, false), (5, false)] [.non, .non],
  .tryx [.asg 4 (.callI [241, 242] (.var 0) [.var 1, .var 2, .var 3])] [⟨0, some 6, false, 5, (.lst [.fld, .isi "LookupError"])⟩],
  .ret (.ite (.cmp .Is (.var 5) .non) (.var 4) (.var 5))]
structure C244 (B : Tb) : Prop where
  own : Is B 244 b244_heard false 4 7
  c241 : C241 B
  c242 : C242 B
def b245_due : List S := [
  .asg 3 (.call 27 [.var 0, .var 1]),
  .asg 4 (.lst []),
  .loop (.nm 5) .ex [.var 2] [.asg 4 (.bin .Add (.var 4) (.comp (.tup [.var 5, .var 6]) (.nm 6) .ex [.bi .sorted [.get (.var 3) (.var 5)]] (.and (.cmp .In (.var 6) (.var 2)) (.cmp .Lt (.var 5) (.var 6)))))],
  .asg 7 (.comp (.var 5) (.tup [5, 8]) .ex [.var 0] (.and (.cmp .NotIn (.var 5) (.var 2)) (.cmp .Eq (.comp (.var 6) (.nm 6) .ex [.get (.var 3) (.var 5)] (.cmp .In (.var 6) (.var 2))) (.lst [])))),
  .ret (.lst [.ite (.cmp .NotEq (.var 4) (.lst [])) (.get (.var 4) (.int 0)) .non, .bi .tuple [.var 7]])]
structure C245 (B : Tb) : Prop where
  own : Is B 245 b245_due false 3 9
  c27 : C27 B
def b246_hand_right : List S := [
  .par [(0, false), (1, false)] [.call 31 [], .bin .Pow (.int 10) (.int 40)],
  .asg 2 (.lst [.tup [], .tup [.str "a"], .tup [.str "b"], .tup [.str "a", .str "b", .str "c"], .tup [.str "c", .str "d"], .tup [.str "a", .str "c"], .tup [.str "b", .str "c", .str "d"], .tup [.str "e"]]),
  .asg 2 (.bin .Add (.var 2) (.lst [.bi .tuple [.str "abcde"]])),
  .asg 3 (.lst [.comp (.call 241 [.var 0, .int 2, .var 4]) (.nm 4) .ex [.var 2] .absent, .comp (.call 242 [.var 0, .int 2, .var 4]) (.nm 4) .ex [.var 2] .absent]),
  .asg 3 (.bin .Add (.var 3) (.lst [.comp (.call 241 [.var 0, .int 3, .var 4]) (.nm 4) .ex [.var 2] .absent, .comp (.call 242 [.var 0, .int 3, .var 4]) (.nm 4) .ex [.var 2] .absent])),
  .asgO 5 (.lst [.lst [.non, .non, .non, .tup [.str "a", .str "b"], .tup [.str "c", .str "d"], .non, .tup [.str "b", .str "c"], .non, .tup [.str "a", .str "b"]]]),
  .app 5 (.lst [.bi .tuple [.str "abcde"], .tup [.str "c", .str "d", .str "e"], .tup [.str "d", .str "e"], .tup [.str "e"], .tup [.str "a", .str "e"], .tup [.str "e"], .tup [.str "e"], .bi .tuple [.str "abcd"], .tup []]),
  .asgO 5 (.bin .Add (.peek 5) (.lst [.lst [.non, .non, .non, .tup [.str "a", .str "b"], .tup [.str "c", .str "d"], .tup [.str "a", .str "c"], .tup [.str "b", .str "c"], .non, .tup [.str "a", .str "b"]]])),
  .asgO 5 (.bin .Add (.peek 5) (.lst [.lst [.bi .tuple [.str "abcde"], .tup [.str "d", .str "e"], .tup [.str "e"], .tup [.str "e"], .tup [.str "e"], .tup [.str "e"], .tup [.str "e"], .tup [.str "a", .str "b", .str "c", .str "d"], .tup []]])),
  .asg 6 (.tup [.tup [.str "a", .int 90], .tup [.str "b", .int 10], .tup [.str "c", .int 50], .tup [.str "d", .int 51], .tup [.str "y", .int 11], .tup [.str "z", .var 1], .tup [.str "zz", .var 1]]),
  .asg 3 (.bin .Add (.var 3) (.lst [.call 241 [.var 6, .int 1, .tup [.str "a", .str "b", .str "c", .str "d", .str "y", .str "z", .str "zz"]]])),
  .asg 3 (.bin .Add (.var 3) (.lst [.call 241 [.var 6, .int 0, .tup [.str "c", .str "d", .str "z", .str "zz"]], .call 241 [.var 6, .int 40, .tup [.str "a", .str "c", .str "d"]]])),
  .asg 3 (.bin .Add (.var 3) (.lst [.call 242 [.var 6, .int 1, .tup [.str "d", .str "z"]]])),
  .asgO 5 (.bin .Add (.peek 5) (.lst [.tup [.str "b", .str "y"], .tup [.str "z", .str "zz"], .tup [.str "a", .str "c"], .tup [.str "a", .str "b", .str "y"]])),
  .asg 7 (.bi .tuple [.comp (.tup [.get (.str "abcdefghijkl") (.var 8), .bin .Mult (.int 3) (.var 8)]) (.nm 8) .range [.int 12] .absent]),
  .asg 3 (.bin .Add (.var 3) (.lst [.call 241 [.var 7, .int 3, .bi .tuple [.str "acfgi"]], .call 242 [.var 7, .int 3, .bi .tuple [.str "behk"]]])),
  .asg 3 (.bin .Add (.var 3) (.lst [.call 242 [.var 7, .int 3, .tup [.str "b", .str "h"]], .call 242 [.var 7, .int 6, .tup [.str "f"]]])),
  .asgO 5 (.bin .Add (.peek 5) (.lst [.tup [.str "f", .str "g"], .tup [], .bi .tuple [.str "defjkl"], .bi .tuple [.str "abcijkl"]])),
  .asg 2 (.lst [.tup [.str "a", .str "x"], .tup [.str "p", .str "x"], .tup [.str "aa"], .tup [.str "e"]]),
  .asg 3 (.bin .Add (.var 3) (.comp (.comp (.call 244 [.var 9, .var 0, .int 2, .var 4]) (.nm 4) .ex [.var 2] .absent) (.nm 9) .range [.int 2] .absent)),
  .asg 10 (.lst [.lst [.str "x", .bl true], .lst [.str "p", .bl true], .lst [.str "aa", .bl true]]),
  .asgO 5 (.bin .Add (.peek 5) (.lst [.bin .Add (.var 10) (.lst [.non]), .bin .Add (.var 10) (.lst [.tup [.str "a", .str "b", .str "c", .str "d"]])])),
  .asg 11 (.lst [.call 26 [.var 0], .lst [.str "a", .str "b", .str "c"]]),
  .asg 3 (.bin .Add (.var 3) (.lst [.callK 241 [2, 1, 0] [] [.get (.var 11) (.int 1), .int 2, .get (.var 11) (.int 0)]])),
  .asg 3 (.bin .Add (.var 3) (.lst [.callK 242 [2, 1, 0] [] [.get (.var 11) (.int 1), .int 2, .get (.var 11) (.int 0)], .var 11])),
  .ret (.call 10 [.var 3, .bin .Add (.peek 5) (.lst [.tup [.str "a", .str "b"], .tup [.str "e"], .lst [.call 26 [.var 0], .lst [.str "a", .str "b", .str "c"]]])])]
structure C246 (B : Tb) : Prop where
  own : Is B 246 b246_hand_right false 0 12
  c10 : C10 B
  c26 : C26 B
  c31 : C31 B
  c241 : C241 B
  c242 : C242 B
  c244 : C244 B
def b247_case_right : List S := [
  .par [(1, false), (2, false)] [.callT 11 0 [.int 8, .int 14], .callT 7 0 [.int 6]],
  .asg 3 (.bi .tuple [.comp (.get (.var 4) (.int 0)) (.nm 4) .ex [.var 1] (.cmp .Eq (.callT 7 0 [.int 3]) (.int 0))]),
  .asg 5 (.call 245 [.var 1, .var 2, .var 3]),
  .asg 6 (.lst [.call 241 [.var 1, .var 2, .var 3], .call 242 [.var 1, .var 2, .var 3]]),
  .asg 6 (.bin .Add (.var 6) (.lst [.call 241 [.call 26 [.var 1], .var 2, .bi .list [.var 3]], .call 242 [.call 26 [.var 1], .var 2, .bi .list [.var 3]]])),
  .ret (.call 10 [.var 6, .bin .Mult (.var 5) (.int 2)])]
structure C247 (B : Tb) : Prop where
  own : Is B 247 b247_case_right true 1 7
  c7 : C7 B
  c10 : C10 B
  c11 : C11 B
  c26 : C26 B
  c241 : C241 B
  c242 : C242 B
  c245 : C245 B
def b248_right : List S := [
  .ret (.bi .all [.comp (.callT 247 0 []) (.nm 1) .range [.int 20] .absent])]
structure C248 (B : Tb) : Prop where
  own : Is B 248 b248_right true 1 2
  c247 : C247 B
def b249_law : List S := [
  .ite (.not (.call 246 [])) [.ret (.bl false)] [],
  .asg 1 (.call 8 [.var 0, .int 3]),
  .ret (.bi .all [.comp (.callR 248 (.callN 243 [.var 1, .var 2]) []) (.nm 2) .range [.bi .len [.var 1]] .absent])]
structure C249 (B : Tb) : Prop where
  own : Is B 249 b249_law false 1 3
  c8 : C8 B
  c243 : C243 B
  c246 : C246 B
  c248 : C248 B
end KN

set_option maxRecDepth 100000
set_option maxHeartbeats 4000000
namespace KN
open PySem L2 PyProof.Rows
theorem gives_eq {C : Nat → List D → M D} {f : Nat} {ds : List D} {r : D} (h : Ok (C f ds) [] fun d _ => d = r) : Gives C f ds r := by
  obtain ⟨d, g, rfl⟩ := gives_ok h
  exact g
/-! ### the law's own def -/
def lawB (hd cl s rt bx : Nat) : List S := [
  .ite (.not (.call hd [])) [.ret (.bl false)] [],
  .asg 1 (.call cl [.var 0, .int s]),
  .ret (.bi .all [.comp (.callR rt (.callN bx [.var 1, .var 2]) []) (.nm 2) .range [.bi .len [.var 1]] .absent])]
theorem law_ok {B : Tb} {n f hd cl s rt bx : Nat} {z : Int} (h : Is B f (lawB hd cl s rt bx) false 1 3) (hc : Is B cl cellsB false 2 6) (hb : Is B bx (boxB z) false 2 3) (s0 : 0 < s) (s1 : s < 63)
    (hh : Gives (callF B (n + 1)) hd [] (.bool true)) (hr : ∀ τ, Bx τ 0 → Ok (callF B (n + 1) rt []) τ fun d _ => d = .bool true) {xs : List Int} (hl : xs.length ≤ 63) : Gives (callF B (n + 2)) f [.list (xs.map .int)] (.bool true) := by
  refine gives_eq ?_
  rw [ok_is h rfl]
  simp [lawB]
  refine ⟨_, hh, rfl, ?_⟩
  obtain ⟨d, g, ys, rfl, y1, y2⟩ := gives_ok (cells_ok (n := n) (s := s) (xs := xs) hc s0 s1 hl (τ := []))
  refine ⟨_, g, ?_⟩
  simp
  refine ⟨_, wc (wd_range (by omega)) (by simp; omega), ok_compM (fun _ => .bool true) (List.range ys.length) (fun k hk τ => ?_) (all_true fun y hy => ?_)⟩
  · simp
    obtain ⟨d, g, σ, rfl, bx⟩ := gives_ok (box_ok (n := n) (xs := ys) (k := k) hb (List.mem_range.1 hk) (τ := []))
    exact ⟨_, g, σ, rfl, (hr σ bx).mono fun d _ q => q⟩
  · obtain ⟨_, _, rfl⟩ := List.mem_map.1 hy
    rfl
/-- what a closed run says, by running it -/
def runsTrue (C : Nat → List D → M D) (f : Nat) : Bool := match C f [] [] with
  | some (.bool true, _) => true
  | _ => false
theorem gives_run {C : Nat → List D → M D} {f : Nat} (h : runsTrue C f = true) : Gives C f [] (.bool true) := by
  unfold runsTrue at h
  split at h
  · rename_i e; exact ⟨_, e⟩
  · cases h
theorem same_g {B : Tb} {n : Nat} (h : C10 B) {d : D} (h1 : d.depth < n) (h2 : okD d = true) : Gives (callF B n) 10 [d, d] (.bool true) := same_gives (f := 10) h.own h1 h2
theorem take_g {B : Tb} {n : Nat} (h : C7 B) {top : Int} {τ : List D} {m : Nat} (hb : Bx τ m) (hm : m < 2 ^ 60) (h0 : 0 < top) (h1 : top < 1073741824) :
    Ok (callF B (n + 1) 7 [.int top]) τ fun d τ' => ∃ k : Nat, d = .int k ∧ (k : Int) < top ∧ Bx τ' (m + 1) :=
  (take_ok (f := 7) h.own hb hm h0 h1).mono fun d τ' ⟨k, e, k0, k1, b⟩ => by
    obtain ⟨j, rfl⟩ := Int.eq_ofNat_of_zero_le k0
    exact ⟨j, e, k1, b⟩
/-! ### names, numbers -/
def abc : List Nat := (Str.ofString "abcdefghijklmnopqrstuvwxyz").cps.toList
def isNameS (x : Str) : Bool := decide ((1 : Int) ≤ x.length) && decide ((x.length : Int) ≤ 8) && x.cps.toList.all fun c => decide (c ∈ abc)
theorem okD_str {x : Str} (h : okD (.str x) = true) : PyData.strOk x = true ∧ x.length ≤ 4096 := by
  simpa [okD] using h
/-! ### rows -/
def upS (l : List Str) : Bool := (l.zip (l.drop 1)).all fun p => ltS p.1 p.2
def rowD (r : Str × Int) : D := .tuple [.str r.1, .int r.2]
theorem name_ok {x : Str} (h : isNameS x = true) : PyData.strOk x = true := by
  simp only [isNameS, Bool.and_eq_true, List.all_eq_true, decide_eq_true_eq] at h
  unfold PyData.strOk
  rw [Array.all_eq_true_iff_forall_mem]
  intro c hc
  have := h.2 c (by simpa using hc)
  revert this
  generalize c = c
  intro this
  simp only [decide_eq_true_eq]
  have all : ∀ c ∈ abc, c < 0x110000 := by decide
  exact all c this
/-! ### the law's own likeness of rows -/
theorem layAll_of : ∀ {xs : List D}, (∀ x ∈ xs, x.canLay0 = true) → PyData.canLayAll0 xs = true
  | [], _ => rfl
  | y :: r, h => by
    simp only [PyData.canLayAll0, Bool.and_eq_true]
    exact ⟨h y List.mem_cons_self, layAll_of fun x hx => h x (List.mem_cons_of_mem _ hx)⟩
theorem depth_all {k : Nat} : ∀ {xs : List D}, (∀ x ∈ xs, x.depth ≤ k) → PyData.depthAll xs ≤ k
  | [], _ => Nat.zero_le _
  | y :: r, h => by
    simp only [PyData.depthAll]
    exact Nat.max_le.2 ⟨h y List.mem_cons_self, depth_all fun x hx => h x (List.mem_cons_of_mem _ hx)⟩
theorem shaped_list {xs : List D} (h1 : PyData.canLayAll0 xs = true) (h2 : PyData.depthAll xs ≤ 39) : SeqAt.shaped (.list xs) = true := by
  simp [SeqAt.shaped, PyData.canLay0, PyData.depth, h1]
  omega
theorem shaped_strs {ι : Type} {l : List ι} {f : ι → Str} (h : ∀ x ∈ l, PyData.strOk (f x) = true) : SeqAt.shaped (.list (l.map fun x => .str (f x))) = true := by
  refine shaped_list (layAll_of fun x hx => ?_) (depth_all fun x hx => ?_)
  · obtain ⟨y, hy, rfl⟩ := List.mem_map.1 hx
    exact h y hy
  · obtain ⟨y, hy, rfl⟩ := List.mem_map.1 hx
    simp [PyData.depth]
theorem cmp_nilL {xs : List D} (h : SeqAt.shaped (.list xs) = true) : cmpD .Eq (.list xs) (.list []) = some (.bool xs.isEmpty) := by
  rw [cmpD_eq h (by decide)]
  cases xs <;> rfl
/-! ### the draws of rows -/
def tagsR : List Str := ["ra", "rb", "rc", "rd", "re", "rf", "rg", "rh", "ri", "rj", "rk", "rl"]
/-- rows as the law draws them -/
def Drawn (many : Nat) (top : Int) (rs : List (Str × Int)) : Prop := rs.map (·.1) = tagsR.take rs.length ∧ rs.length ≤ many ∧ ∀ r ∈ rs, 0 ≤ r.2 ∧ r.2 < top
theorem goods_g {B : Tb} {n : Nat} (h : C11 B) {many : Nat} {top : Int} {τ : List D} {m : Nat} (hb : Bx τ m) (hm : m < 2 ^ 59) (h12 : many ≤ 12) (h0 : 0 < top) (h1 : top < 1073741824) :
    Ok (callF B (n + 2) 11 [.int many, .int top]) τ fun d τ' => ∃ rs : List (Str × Int), d = .tuple (rs.map rowD) ∧ Drawn many top rs ∧ ∃ m', Bx τ' m' ∧ m' ≤ m + 13 := by
  rw [ok_is h.own rfl]
  unfold b11_goods
  rw [okS_cons, okS_asg, okE_slice]
  have ev1 : Ev (callF B (n + 1)) (.comp (.bin .Add (.str "r") (.var 4)) (.nm 4) .ex [.str "abcdefghijkl"] .absent) (envI true (6 - 3) [.int many, .int top]) (.list (tagsR.map .str)) := .mk fun τ => rfl
  refine ev1.ok ?_
  simp
  refine (take_g h.c7 hb (by omega) (by omega) (by omega)).mono fun d τ1 q => ?_
  obtain ⟨k, rfl, hk, b1⟩ := q
  simp [cut_to]
  refine ⟨_, walkC_of (by simp; rfl) (by simp [tagsR]; omega), ?_⟩
  refine ok_comp0 (fun items ys τ => ∃ (rs : List (Str × Int)) (m' : Nat), ys = rs.map rowD ∧ items = ((tagsR.take k).drop rs.length).map .str ∧ rs.map (·.1) = tagsR.take rs.length ∧ rs.length ≤ k ∧ (∀ r ∈ rs, 0 ≤ r.2 ∧ r.2 < top) ∧ Bx τ m' ∧ m' ≤ m + 1 + rs.length) ?_ ?_ _ _ ⟨[], m + 1, rfl, by simp, rfl, by simp, by simp, b1, by simp⟩
  · rintro d r ys τ ⟨rs, m', rfl, hi, h2, h3, h4, b2, h5⟩
    cases hL : (tagsR.take k).drop rs.length with
    | nil => rw [hL] at hi; cases hi
    | cons t L =>
      rw [hL] at hi
      cases hi
      have ht : (tagsR.take k)[rs.length]? = some t := by
        have := congrArg (fun l => l[0]?) hL
        simpa [List.getElem?_drop] using this
      have hlt : rs.length < k := by
        by_cases q : rs.length < k
        · exact q
        · rw [List.getElem?_take, if_neg q] at ht; cases ht
      rw [List.getElem?_take, if_pos hlt] at ht
      have hL2 : (tagsR.take k).drop (rs.length + 1) = L := by
        have := congrArg (List.drop 1) hL
        rw [List.drop_drop] at this
        exact this
      refine Ok.mono (Q := fun o τ' => ∃ j : Nat, o = some (rowD (t, (j : Int))) ∧ (j : Int) < top ∧ Bx τ' (m' + 1)) ?_ fun o τ2 q => ?_
      · simp
        exact (take_g h.c7 b2 (by omega) h0 h1).mono fun d τ2 ⟨j, e, hj, b3⟩ => ⟨j, by rw [e]; rfl, hj, b3⟩
      obtain ⟨j, rfl, hj, b3⟩ := q
      refine ⟨rs ++ [(t, (j : Int))], m' + 1, by simp, ?_, ?_, by simp; omega, fun r hr => ?_, b3, by simp; omega⟩
      · rw [List.length_append, List.length_singleton, hL2]
      · rw [List.map_append, h2, List.length_append, List.length_singleton, List.take_succ, ht]
        rfl
      · rcases List.mem_append.1 hr with hr | hr
        · exact h4 r hr
        · rw [List.mem_singleton] at hr
          subst hr
          exact ⟨by simp, hj⟩
  · rintro ys τ ⟨rs, m', rfl, hi, h2, h3, h4, b2, h5⟩
    exact ⟨rs, rfl, ⟨h2, by omega, h4⟩, m', b2, by omega⟩
end KN

set_option maxRecDepth 100000
set_option maxHeartbeats 4000000
namespace KN
open PySem L2 PyProof.Rows
/-! ### texts in order, each once -/
theorem upS_pw : ∀ (l : List Str), upS l = true ↔ l.Pairwise fun a b => a.cps.toList < b.cps.toList
  | [] => by simp [upS]
  | [a] => by simp [upS]
  | a :: b :: r => by
    have ih := upS_pw (b :: r)
    have e : upS (a :: b :: r) = (ltS a b && upS (b :: r)) := rfl
    rw [e, Bool.and_eq_true, ih]
    constructor
    · rintro ⟨h1, h2⟩
      have h1 : a.cps.toList < b.cps.toList := of_decide_eq_true h1
      refine List.pairwise_cons.2 ⟨fun c hc => ?_, h2⟩
      rcases List.mem_cons.1 hc with rfl | hc
      · exact h1
      · exact List.lt_trans h1 (List.rel_of_pairwise_cons h2 hc)
    · intro h
      exact ⟨decide_eq_true (List.rel_of_pairwise_cons h List.mem_cons_self), (List.pairwise_cons.1 h).2⟩
/-! ### k00 -/
end KN

set_option maxRecDepth 100000
set_option maxHeartbeats 4000000
namespace KN
open PySem L2 PyProof.Rows
/-- data whose rows are no longer than s -/
inductive Nc (s : Nat) : D → Prop
  | fl {d : D} : flatD d = true → okD d = true → Nc s d
  | lst {xs : List D} : xs.length ≤ s → (∀ x ∈ xs, Nc s x) → Nc s (.list xs)
  | tup {xs : List D} : xs.length ≤ s → (∀ x ∈ xs, Nc s x) → Nc s (.tuple xs)
theorem Nc.ok {s : Nat} (hs : s ≤ 4096) {d : D} (h : Nc s d) : okD d = true := by
  induction h with
  | fl _ h => exact h
  | lst h1 _ ih => simp only [okD, Bool.and_eq_true, decide_eq_true_eq]; exact ⟨by omega, okDs_of ih⟩
  | tup h1 _ ih => simp only [okD, Bool.and_eq_true, decide_eq_true_eq]; exact ⟨by omega, okDs_of ih⟩
theorem Nc.mono {s t : Nat} (hs : s ≤ t) {d : D} (h : Nc s d) : Nc t d := by
  induction h with
  | fl h1 h2 => exact .fl h1 h2
  | lst h1 _ ih => exact .lst (by omega) ih
  | tup h1 _ ih => exact .tup (by omega) ih
end KN

set_option maxRecDepth 100000
set_option maxHeartbeats 4000000
namespace KN
open PySem L2 PyProof.Rows
/-- a loop that goes through, the state up to what is told of it -/
theorem er_loopI {C : Nat → List D → M D} {ρ : En} {ι κ : Type} {tg : Tg} {ik : IK} {src : List E} {body r : List S} {xs : List D} {l : List ι} {inj : ι → D} {o : Out} (I : κ → Nat → En → Prop) (step : κ → ι → κ) (s0 : κ) (hs : Evs C src ρ xs) (hw : walkD ik xs = some (l.map inj)) (h0 : I s0 0 ρ)
    (hb : ∀ x ∈ l, ∀ s k ρ, k < l.length → I s k ρ → ∃ ρ', setTg tg (inj x) ρ = some ρ' ∧ ∃ ρ'', I (step s x) (k + 1) ρ'' ∧ (Er C body ρ' (.nx ρ'') ∨ Er C body ρ' (.ct ρ''))) (hr : ∀ ρ', I (l.foldl step s0) l.length ρ' → Er C r ρ' o) : Er C (.loop tg ik src body :: r) ρ o := by
  have go : ∀ (l' : List ι) (s : κ) (k : Nat) (ρ : En), (∀ x ∈ l', x ∈ l) → I s k ρ → k + l'.length = l.length → ∃ ρ', I (l'.foldl step s) l.length ρ' ∧ ∀ τ, loopL (fun d ρ => (M.of (setTg tg d ρ)).bnd fun ρ' => evSs C body ρ') (l'.map inj) ρ τ = some (.nx ρ', τ) := by
    intro l'
    induction l' with
    | nil => intro s k ρ _ hp hk; simp at hk; subst hk; exact ⟨ρ, hp, fun τ => rfl⟩
    | cons x l' ih =>
      intro s k ρ hm hp hk
      simp only [List.length_cons] at hk
      obtain ⟨ρ', h2, ρ'', h1, h3⟩ := hb x (hm x List.mem_cons_self) s k ρ (by omega) hp
      obtain ⟨ρ3, g1, g2⟩ := ih (step s x) (k + 1) ρ'' (fun y hy => hm y (List.mem_cons_of_mem _ hy)) h1 (by omega)
      refine ⟨ρ3, g1, fun τ => ?_⟩
      show (((M.of (setTg tg (inj x) ρ)).bnd fun ρ' => evSs C body ρ').bnd _) τ = _
      rcases h3 with h3 | h3
      · rw [M.bnd_eq ((M.bnd_eq (M.of_eq h2)).trans (h3.run τ))]
        exact g2 τ
      · rw [M.bnd_eq ((M.bnd_eq (M.of_eq h2)).trans (h3.run τ))]
        exact g2 τ
  obtain ⟨ρ', g1, g2⟩ := go l s0 0 ρ (fun _ h => h) h0 (by simp)
  refine er_seq (fun τ => ?_) (hr ρ' g1)
  show ((evEs C src ρ).bnd fun xs => (M.of (walkD ik xs)).bnd fun items => loopL (fun d ρ => (M.of (setTg tg d ρ)).bnd fun ρ' => evSs C body ρ') items ρ) τ = _
  rw [M.bnd_eq (hs.run τ), M.bnd_eq (M.of_eq hw)]
  exact g2 τ
/-! ### rows as tuples, as lists -/
mutual
def tupD : D → D
  | .list xs => .tuple (tupDs xs)
  | .tuple xs => .tuple (tupDs xs)
  | .none => .none
  | .bool b => .bool b
  | .int i => .int i
  | .str x => .str x
  | .dict kvs => .dict kvs
def tupDs : List D → List D
  | [] => []
  | x :: r => tupD x :: tupDs r
end
theorem tupDs_map : ∀ xs : List D, tupDs xs = xs.map tupD
  | [] => rfl
  | x :: r => by simp [tupDs, tupDs_map r]
mutual
def lisD : D → D
  | .list xs => .list (lisDs xs)
  | .tuple xs => .list (lisDs xs)
  | .none => .none
  | .bool b => .bool b
  | .int i => .int i
  | .str x => .str x
  | .dict kvs => .dict kvs
def lisDs : List D → List D
  | [] => []
  | x :: r => lisD x :: lisDs r
end
theorem lisDs_map : ∀ xs : List D, lisDs xs = xs.map lisD
  | [] => rfl
  | x :: r => by simp [lisDs, lisDs_map r]
theorem tupled_g {B : Tb} (h : C18 B) : ∀ (n : Nat) (d : D), d.depth < n → okD d = true → Gives (callF B n) 18 [d] (tupD d) := by
  intro n
  induction n with
  | zero => intro d h0; omega
  | succ n ih =>
    intro d hd ho
    cases d with
    | list xs =>
      simp only [PyData.depth] at hd
      simp only [okD, Bool.and_eq_true, decide_eq_true_eq] at ho
      refine gives_er1 h.own rfl (er_ret (ev_iteB (y := .none) (ev_isi (ev_var rfl) isi_list_list_tuple) (fun _ => ev_tupleL (ev_comp (l := xs) (inj := fun d => d) (g := tupD) (evs_cons (ev_var rfl) evs_nil rfl) (wc wd_l ho.1) fun x hx => ⟨_, rfl, ev_call (evs_cons (ev_var rfl) evs_nil rfl) (ih x (by have := depthAll_mem hx; omega) (okDs_mem ho.2 x hx))⟩) rfl) fun z => nomatch z)) ?_
      simp [tupD, tupDs_map]
    | tuple xs =>
      simp only [PyData.depth] at hd
      simp only [okD, Bool.and_eq_true, decide_eq_true_eq] at ho
      refine gives_er1 h.own rfl (er_ret (ev_iteB (y := .none) (ev_isi (ev_var rfl) isi_tuple_list_tuple) (fun _ => ev_tupleL (ev_comp (l := xs) (inj := fun d => d) (g := tupD) (evs_cons (ev_var rfl) evs_nil rfl) (wc wd_t ho.1) fun x hx => ⟨_, rfl, ev_call (evs_cons (ev_var rfl) evs_nil rfl) (ih x (by have := depthAll_mem hx; omega) (okDs_mem ho.2 x hx))⟩) rfl) fun z => nomatch z)) ?_
      simp [tupD, tupDs_map]
    | dict kvs => simp [okD] at ho
    | _ => exact gives_er1 h.own rfl (er_ret (ev_iteB (p := false) (x := .none) (ev_isi (ev_var rfl) (by simp)) (fun z => nomatch z) fun _ => ev_var rfl)) rfl
theorem lists_g {B : Tb} (h : C26 B) : ∀ (n : Nat) (d : D), d.depth < n → okD d = true → Gives (callF B n) 26 [d] (lisD d) := by
  intro n
  induction n with
  | zero => intro d h0; omega
  | succ n ih =>
    intro d hd ho
    cases d with
    | list xs =>
      simp only [PyData.depth] at hd
      simp only [okD, Bool.and_eq_true, decide_eq_true_eq] at ho
      refine gives_er1 h.own rfl (er_ret (ev_iteB (y := .none) (ev_isi (ev_var rfl) isi_list_list_tuple) (fun _ => ev_comp (l := xs) (inj := fun d => d) (g := lisD) (evs_cons (ev_var rfl) evs_nil rfl) (wc wd_l ho.1) fun x hx => ⟨_, rfl, ev_call (evs_cons (ev_var rfl) evs_nil rfl) (ih x (by have := depthAll_mem hx; omega) (okDs_mem ho.2 x hx))⟩) fun z => nomatch z)) ?_
      simp [lisD, lisDs_map]
    | tuple xs =>
      simp only [PyData.depth] at hd
      simp only [okD, Bool.and_eq_true, decide_eq_true_eq] at ho
      refine gives_er1 h.own rfl (er_ret (ev_iteB (y := .none) (ev_isi (ev_var rfl) isi_tuple_list_tuple) (fun _ => ev_comp (l := xs) (inj := fun d => d) (g := lisD) (evs_cons (ev_var rfl) evs_nil rfl) (wc wd_t ho.1) fun x hx => ⟨_, rfl, ev_call (evs_cons (ev_var rfl) evs_nil rfl) (ih x (by have := depthAll_mem hx; omega) (okDs_mem ho.2 x hx))⟩) fun z => nomatch z)) ?_
      simp [lisD, lisDs_map]
    | dict kvs => simp [okD] at ho
    | _ => exact gives_er1 h.own rfl (er_ret (ev_iteB (p := false) (x := .none) (ev_isi (ev_var rfl) (by simp)) (fun z => nomatch z) fun _ => ev_var rfl)) rfl
def rowL (r : Str × Int) : D := .list [.str r.1, .int r.2]
theorem tupD_rows (rs : List (Str × Int)) : tupD (.tuple (rs.map rowD)) = .tuple (rs.map rowD) := by
  simp only [tupD, tupDs_map, List.map_map]
  congr 1
theorem lisD_rows (rs : List (Str × Int)) : lisD (.tuple (rs.map rowD)) = .list (rs.map rowL) := by
  simp only [lisD, lisDs_map, List.map_map]
  congr 1
theorem tupD_rowsL (rs : List (Str × Int)) : tupD (.list (rs.map rowL)) = .tuple (rs.map rowD) := by
  simp only [tupD, tupDs_map, List.map_map]
  congr 1
/-! ### who is near -/
def farB (i : Int) (reach : Int) : Bool := decide ((if i < 0 then -i else i) ≤ reach)
def nearR (rs : List (Str × Int)) (reach : Int) (r : Str × Int) : List (Str × Int) := rs.filter fun q => (!decide (q.1 = r.1)) && farB (q.2 - r.2) reach
theorem key_eqK {a b : Str} : eqK (.str a) (.str b) = decide (a = b) := rfl
theorem put_new {kvs : List (D × D)} {k v : D} (h : ∀ p ∈ kvs, eqK p.1 k = false) : putKD kvs k v = kvs ++ [(k, v)] := by
  unfold putKD
  rw [if_neg]
  simp only [Bool.not_eq_true, List.any_eq_false]
  intro p hp
  rw [h p hp]
theorem put_fold {f : Str × Int → D} : ∀ (rs : List (Str × Int)) (acc : List (D × D)), (rs.map (·.1)).Nodup → (∀ r ∈ rs, ∀ p ∈ acc, eqK p.1 (.str r.1) = false) → rs.foldl (fun kv r => putKD kv (.str r.1) (f r)) acc = acc ++ rs.map fun r => (.str r.1, f r)
  | [], acc, _, _ => by simp
  | r :: rs, acc, hn, hk => by
    simp only [List.map_cons, List.nodup_cons] at hn
    rw [List.foldl_cons, put_new (hk r List.mem_cons_self), put_fold rs _ hn.2]
    · simp
    · intro q hq p hp
      rcases List.mem_append.1 hp with hp | hp
      · exact hk q (List.mem_cons_of_mem _ hq) p hp
      · rw [List.mem_singleton] at hp
        subst hp
        rw [key_eqK, decide_eq_false]
        intro e
        exact hn.1 (List.mem_map.2 ⟨q, hq, e.symm⟩)
def closeD (rs : List (Str × Int)) (reach : Int) : List (D × D) := rs.map fun r => (.str r.1, .list ((nearR rs reach r).map fun q => .str q.1))
theorem close_g {B : Tb} {n : Nat} (h : C27 B) (rs : List (Str × Int)) (reach : Int) (hl : rs.length ≤ 4096) (hn : (rs.map (·.1)).Nodup) (hs : ∀ r ∈ rs, PyData.strOk r.1 = true) : Gives (callF B (n + 1)) 27 [.tuple (rs.map rowD), .int reach] (.dict (closeD rs reach)) := by
  refine gives_er h.own (er_asgD ev_dic0 (er_loopI (l := rs) (inj := rowD) (fun (kv : List (D × D)) k ρ => kv.length ≤ k ∧ ∃ v3 v4 v5, ρ = [some (.dat (.tuple (rs.map rowD))), some (.dat (.int reach)), some (.own (.dic kv)), v3, v4, v5]) (fun kv r => putKD kv (.str r.1) (.list ((nearR rs reach r).map fun q => .str q.1))) [] (evs_cons (ev_var rfl) evs_nil rfl) wd_tm ⟨by simp, _, _, _, rfl⟩ ?_ ?_))
  · rintro r hr kv k ρ hk ⟨h1, v3, v4, v5, rfl⟩
    refine ⟨_, rfl, _, ⟨?_, _, _, _, rfl⟩, .inl (er_stoD (ds := kv) ?_ (ev_var rfl) rfl rfl (by omega) er_nil)⟩
    · have := putKD_len kv (.str r.1) (.list ((nearR rs reach r).map fun q => .str q.1)); omega
    · apply Ev.cast
      · apply ev_compIf (l := rs) (inj := rowD) (k := fun q => (!decide (q.1 = r.1)) && farB (q.2 - r.2) reach) (g := fun q => .str q.1) (evs_cons (ev_var rfl) evs_nil rfl) (wc wd_tm (by omega)) rfl
        intro q hq
        refine ⟨_, rfl, ev_andB (ev_cmp (ev_get (ev_var rfl) ev_int get_t0) (ev_var rfl) (cmp_neS (hs q hq) (hs r hr))) fun _ => ev_le (ev_abs (ev_sub (ev_get (ev_var rfl) ev_int get_t1) (ev_var rfl)) rfl) (ev_var rfl), fun _ => ev_get (ev_var rfl) ev_int get_t0⟩
      · rfl
  · rintro ρ ⟨h1, v3, v4, v5, rfl⟩
    refine er_frz rfl (er_ret (Ev.cast (ev_var rfl) ?_))
    show PyData.dict _ = _
    rw [put_fold (f := fun r => .list ((nearR rs reach r).map fun q => .str q.1)) rs [] hn (by simp)]
    rfl

def nearD (rs : List (Str × Int)) (reach : Int) : List (D × D) := rs.map fun r => (.str r.1, .tuple ((nearR rs reach r).map fun q => .str q.1))
/-- rows, as tuples or as lists -/
def Rws (d : D) (rs : List (Str × Int)) : Prop := d = .tuple (rs.map rowD) ∨ d = .list (rs.map rowL)
theorem okD_rows {rs : List (Str × Int)} (hl : rs.length ≤ 4096) (hs : ∀ r ∈ rs, okD (.str r.1) = true) {d : D} (h : Rws d rs) : okD d = true := by
  rcases h with rfl | rfl
  · simp only [okD, Bool.and_eq_true, decide_eq_true_eq, List.length_map]
    refine ⟨by omega, okDs_of fun x hx => ?_⟩
    obtain ⟨r, hr, rfl⟩ := List.mem_map.1 hx
    have := hs r hr
    simp only [okD] at this
    simp [rowD, okD, okDs, this]
  · simp only [okD, Bool.and_eq_true, decide_eq_true_eq, List.length_map]
    refine ⟨by omega, okDs_of fun x hx => ?_⟩
    obtain ⟨r, hr, rfl⟩ := List.mem_map.1 hx
    have := hs r hr
    simp only [okD] at this
    simp [rowL, okD, okDs, this]
theorem depth_rows {rs : List (Str × Int)} {d : D} (h : Rws d rs) : d.depth ≤ 2 := by
  rcases h with rfl | rfl
  · simp only [PyData.depth]
    have : PyData.depthAll (rs.map rowD) ≤ 1 := depth_all fun x hx => by
      obtain ⟨r, hr, rfl⟩ := List.mem_map.1 hx
      simp [rowD, PyData.depth, PyData.depthAll]
    omega
  · simp only [PyData.depth]
    have : PyData.depthAll (rs.map rowL) ≤ 1 := depth_all fun x hx => by
      obtain ⟨r, hr, rfl⟩ := List.mem_map.1 hx
      simp [rowL, PyData.depth, PyData.depthAll]
    omega
theorem tupled_rows {B : Tb} {n : Nat} (h : C18 B) {rs : List (Str × Int)} (hl : rs.length ≤ 4096) (hs : ∀ r ∈ rs, okD (.str r.1) = true) {d : D} (hd : Rws d rs) : Gives (callF B (n + 3)) 18 [d] (.tuple (rs.map rowD)) := by
  have := tupled_g h (n + 3) d (by have := depth_rows hd; omega) (okD_rows hl hs hd)
  rcases hd with rfl | rfl
  · rwa [tupD_rows] at this
  · rwa [tupD_rowsL] at this
theorem near_g {B : Tb} {n : Nat} (h : C20 B) {rs : List (Str × Int)} {reach : Int} (hl : rs.length ≤ 4096) (hn : (rs.map (·.1)).Nodup) (hs : ∀ r ∈ rs, okD (.str r.1) = true) {d : D} (hd : Rws d rs) : Gives (callF B (n + 4)) 20 [d, .int reach] (.dict (nearD rs reach)) := by
  have hs' : ∀ r ∈ rs, PyData.strOk r.1 = true := fun r hr => (okD_str (hs r hr)).1
  refine gives_er h.own (er_asg (ev_call (evs_cons (ev_var rfl) evs_nil rfl) (tupled_rows h.c18 hl hs hd)) (er_asgD ev_dic0 (er_loopI (l := rs) (inj := rowD) (fun (kv : List (D × D)) k ρ => kv.length ≤ k ∧ ∃ v4 v5 v6 v7, ρ = [some (.dat d), some (.dat (.int reach)), some (.dat (.tuple (rs.map rowD))), some (.own (.dic kv)), v4, v5, v6, v7]) (fun kv r => putKD kv (.str r.1) (.tuple ((nearR rs reach r).map fun q => .str q.1))) [] (evs_cons (ev_var rfl) evs_nil rfl) wd_tm ⟨by simp, _, _, _, _, rfl⟩ ?_ ?_)))
  · rintro r hr kv k ρ hk ⟨h1, v4, v5, v6, v7, rfl⟩
    refine ⟨_, rfl, _, ⟨?_, _, _, _, _, rfl⟩, .inl (er_stoD (ds := kv) ?_ (ev_var rfl) rfl rfl (by omega) er_nil)⟩
    · have := putKD_len kv (.str r.1) (.tuple ((nearR rs reach r).map fun q => .str q.1)); omega
    · apply Ev.cast
      · apply ev_tupleL (ev_compIf (l := rs) (inj := rowD) (k := fun q => (!decide (q.1 = r.1)) && farB (q.2 - r.2) reach) (g := fun q => .str q.1) (evs_cons (ev_var rfl) evs_nil rfl) (wc wd_tm (by omega)) rfl ?_) rfl
        intro q hq
        exact ⟨_, rfl, ev_andB (ev_cmp (ev_var rfl) (ev_var rfl) (cmp_neS (hs' q hq) (hs' r hr))) fun _ => ev_le (ev_abs (ev_sub (ev_var rfl) (ev_var rfl)) rfl) (ev_var rfl), fun _ => ev_var rfl⟩
      · rfl
  · rintro ρ ⟨h1, v4, v5, v6, v7, rfl⟩
    refine er_frz rfl (er_ret (Ev.cast (ev_var rfl) ?_))
    show PyData.dict _ = _
    rw [put_fold (f := fun r => .tuple ((nearR rs reach r).map fun q => .str q.1)) rs [] hn (by simp)]
    rfl
end KN

set_option maxRecDepth 100000
set_option maxHeartbeats 4000000
namespace KN
open PySem L2 PyProof.Rows
/-! ### order of texts -/
def insS (x : Str) : List Str → List Str
  | [] => [x]
  | y :: r => if ltS y x then y :: insS x r else x :: y :: r
def sortS : List Str → List Str
  | [] => []
  | x :: r => insS x (sortS r)
theorem insS_eq (x : Str) : ∀ l : List Str, insD (.str x) (l.map .str) = (insS x l).map .str
  | [] => rfl
  | y :: r => by
    simp only [List.map_cons, insD, insS, lt_ss]
    have : decide (y.cps.toList < x.cps.toList) = ltS y x := rfl
    rw [this]
    cases ltS y x with
    | true => simp [insS_eq x r]
    | false => rfl
theorem sortS_eq : ∀ l : List Str, sortD (l.map .str) = (sortS l).map .str
  | [] => rfl
  | x :: r => by
    simp only [List.map_cons, sortD, sortS]
    rw [sortS_eq r, insS_eq]
theorem str_inj {l m : List Str} (h : l.map PyData.str = m.map PyData.str) : l = m := by
  induction l generalizing m with
  | nil => cases m with
    | nil => rfl
    | cons _ _ => cases h
  | cons a l ih => cases m with
    | nil => cases h
    | cons b m =>
      simp only [List.map_cons, List.cons.injEq, PyData.str.injEq] at h
      rw [h.1, ih h.2]
theorem insS_perm (x : Str) : ∀ l, (insS x l).Perm (x :: l)
  | [] => .refl _
  | y :: r => by
    unfold insS
    split
    · exact ((insS_perm x r).cons y).trans (.swap x y r)
    · exact .refl _
theorem sortS_perm : ∀ l, (sortS l).Perm l
  | [] => .refl _
  | x :: r => (insS_perm x (sortS r)).trans ((sortS_perm r).cons x)
theorem sortS_id {l : List Str} (h : upS l = true) : ∀ {m : List Str}, m.Perm l → sortS m = l := by
  intro m hp
  refine str_inj ?_
  rw [← sortS_eq]
  refine (sortD_uniq (l := m.map PyData.str) (m := l.map PyData.str) (fun a ha b hb => ?_) (hp.symm.map _) ?_).symm
  · obtain ⟨a', _, rfl⟩ := List.mem_map.1 ha
    obtain ⟨b', _, rfl⟩ := List.mem_map.1 hb
    simp [PySem.W.alike]
  · refine List.pairwise_map.2 (((upS_pw l).1 h).imp fun {a b} h => ?_)
    unfold nlt
    rw [lt_ss]
    exact decide_eq_false (fun z => List.lt_irrefl _ (List.lt_trans h z))
theorem sorted_strs {l : List Str} (hl : l.length ≤ 4096) (hs : ∀ x ∈ l, PyData.strOk x = true) : sortL (l.map .str) = some (.list ((sortS l).map .str)) := by
  unfold sortL
  rw [if_pos, sortS_eq]
  simp only [Bool.and_eq_true]
  refine ⟨?_, ?_⟩
  · unfold allAlike
    rw [List.all_eq_true]
    intro x hx
    obtain ⟨a, ha, rfl⟩ := List.mem_map.1 hx
    simp only [Bool.and_eq_true, List.all_eq_true]
    refine ⟨⟨rfl, ?_⟩, fun y hy => ?_⟩
    · simp [PyData.canLay0, PyData.depth, hs a ha]
    · obtain ⟨b, _, rfl⟩ := List.mem_map.1 hy
      simp [PySem.W.alike]
  · unfold lineOk
    rw [List.length_map]
    exact decide_eq_true (by omega)
theorem inD_strs {a : Str} {l : List Str} : inD (.str a) (l.map .str) = decide (a ∈ l) := by
  unfold inD
  rw [List.any_map]
  by_cases h : a ∈ l
  · rw [decide_eq_true h, List.any_eq_true]
    exact ⟨a, h, by simp [PyData.eqv]⟩
  · rw [decide_eq_false h, List.any_eq_false]
    intro b hb
    simp only [Function.comp, PyData.eqv]
    intro e
    exact h (by rw [← (by simpa using e : b = a)]; exact hb)
theorem lay_strs {l : List Str} (hs : ∀ x ∈ l, PyData.strOk x = true) : PyData.canLayAll0 (l.map .str) = true := layAll_of fun x hx => by
  obtain ⟨a, ha, rfl⟩ := List.mem_map.1 hx
  exact hs a ha
theorem in_cond {a : Str} {l : List Str} (ha : PyData.strOk a = true) (hs : ∀ x ∈ l, PyData.strOk x = true) : ((PyData.str a).canLay0 && decide ((PyData.str a).depth ≤ 40) && PyData.canLayAll0 (l.map .str)) = true := by
  simp [PyData.canLay0, PyData.depth, ha, lay_strs hs]
theorem cmp_inL {a : Str} {l : List Str} (ha : PyData.strOk a = true) (hs : ∀ x ∈ l, PyData.strOk x = true) : cmpD .In (.str a) (.list (l.map .str)) = some (.bool (decide (a ∈ l))) := by
  show inSeq false _ _ = _
  unfold inSeq
  rw [if_pos (in_cond ha hs), inD_strs]; rfl
theorem cmp_inT {a : Str} {l : List Str} (ha : PyData.strOk a = true) (hs : ∀ x ∈ l, PyData.strOk x = true) : cmpD .In (.str a) (.tuple (l.map .str)) = some (.bool (decide (a ∈ l))) := by
  show inSeq false _ _ = _
  unfold inSeq
  rw [if_pos (in_cond ha hs), inD_strs]; rfl
theorem cmp_ninT {a : Str} {l : List Str} (ha : PyData.strOk a = true) (hs : ∀ x ∈ l, PyData.strOk x = true) : cmpD .NotIn (.str a) (.tuple (l.map .str)) = some (.bool (!decide (a ∈ l))) := by
  show inSeq true _ _ = _
  unfold inSeq
  rw [if_pos (in_cond ha hs), inD_strs]; rfl
/-! ### whom a name is near -/
def rowAt (rs : List (Str × Int)) (a : Str) : Option (Str × Int) := rs.find? fun r => decide (r.1 = a)
def nb (rs : List (Str × Int)) (reach : Int) (a : Str) : List Str := match rowAt rs a with
  | some r => (nearR rs reach r).map (·.1)
  | none => []
theorem look_rows {f : Str × Int → D} {a : Str} : ∀ rs : List (Str × Int), lookK (rs.map fun r => (.str r.1, f r)) (.str a) = (rowAt rs a).map f
  | [] => rfl
  | r :: rs => by
    have ih := look_rows (f := f) (a := a) rs
    unfold rowAt at ih ⊢
    simp only [List.map_cons, lookK, key_eqK, List.find?_cons]
    by_cases h : r.1 = a
    · simp [h]
    · simp [h, ih]
theorem row_at {rs : List (Str × Int)} {a : Str} (h : a ∈ rs.map (·.1)) : ∃ r ∈ rs, r.1 = a ∧ rowAt rs a = some r := by
  cases e : rowAt rs a with
  | none =>
    obtain ⟨r, hr, rfl⟩ := List.mem_map.1 h
    have := List.find?_eq_none.1 e r hr
    simp at this
  | some r => exact ⟨r, List.mem_of_find?_eq_some e, by simpa using List.find?_some e, rfl⟩
theorem get_close {rs : List (Str × Int)} {reach : Int} {a : Str} (h : a ∈ rs.map (·.1)) : getD (.dict (closeD rs reach)) (.str a) = some (.list ((nb rs reach a).map .str)) := by
  show lookK (closeD rs reach) (.str a) = _
  unfold closeD
  rw [look_rows]
  obtain ⟨r, _, _, e⟩ := row_at h
  unfold nb
  rw [e]
  simp
theorem get_near {rs : List (Str × Int)} {reach : Int} {a : Str} (h : a ∈ rs.map (·.1)) : getD (.dict (nearD rs reach)) (.str a) = some (.tuple ((nb rs reach a).map .str)) := by
  show lookK (nearD rs reach) (.str a) = _
  unfold nearD
  rw [look_rows]
  obtain ⟨r, _, _, e⟩ := row_at h
  unfold nb
  rw [e]
  simp
theorem nb_mem {rs : List (Str × Int)} {reach : Int} {a b : Str} (h : b ∈ nb rs reach a) : b ∈ rs.map (·.1) := by
  unfold nb at h
  split at h
  · obtain ⟨q, hq, rfl⟩ := List.mem_map.1 h
    exact List.mem_map.2 ⟨q, (List.mem_filter.1 hq).1, rfl⟩
  · cases h
theorem nb_len {rs : List (Str × Int)} {reach : Int} {a : Str} : (nb rs reach a).length ≤ rs.length := by
  unfold nb
  split
  · rw [List.length_map]
    exact List.length_filter_le _ _
  · exact Nat.zero_le _
/-- a scan by a row of names -/
def grow (f : Str → List Str) (acc : List Str) (t : Str) : List Str := if (acc.filter fun o => decide (o ∈ f t)).isEmpty then acc ++ [t] else acc
def greedy (f : Str → List Str) (p : List Str) : List Str := p.foldl (grow f) []
end KN

set_option maxRecDepth 100000
set_option maxHeartbeats 4000000
namespace KN
open PySem L2 PyProof.Rows
/-! ### all orders -/
theorem sum_le {ι : Type} {f : ι → Nat} {c : Nat} : ∀ l : List ι, (∀ x ∈ l, f x ≤ c) → (l.map f).sum ≤ l.length * c
  | [], _ => by simp
  | x :: l, h => by
    have := sum_le l fun y hy => h y (List.mem_cons_of_mem _ hy)
    have h2 := h x List.mem_cons_self
    simp only [List.map_cons, List.sum_cons, List.length_cons, Nat.add_mul]
    omega
def tupS (p : List Str) : D := .tuple (p.map .str)
end KN

set_option maxRecDepth 100000
set_option maxHeartbeats 4000000
namespace KN
open PySem L2 PyProof.Rows
/-! ### all sub-rows -/
end KN

set_option maxRecDepth 100000
set_option maxHeartbeats 4000000
namespace KN
open PySem L2 PyProof.Rows
/-- two fors, a condition at the second -/
theorem ev_comp2If {C : Nat → List D → M D} {ρ : En} {ι κ : Type} {elt cond1 : E} {tg tg1 : Tg} {ik ik1 : IK} {src src1 : List E} {xs : List D} {l : List ι} {inj : ι → D} {m : ι → List κ} {inj1 : ι → κ → D} {k : ι → κ → Bool} {g : ι → κ → D}
    (hs : Evs C src ρ xs) (hw : walkC ik xs = some (l.map inj)) (hg : cond1.gone = false)
    (he : ∀ x ∈ l, ∃ ρ', setTg tg (inj x) (wipeE ρ (tg.slots ++ tg1.slots)) = some ρ' ∧ ∃ ys, Evs C src1 ρ' ys ∧ walkC ik1 ys = some ((m x).map (inj1 x)) ∧ ∀ y ∈ m x, ∃ ρ'', setTg tg1 (inj1 x y) (wipeE ρ' tg1.slots) = some ρ'' ∧ Ev C cond1 ρ'' (.bool (k x y)) ∧ (k x y = true → Ev C elt ρ'' (g x y)))
    (hl : (l.flatMap fun x => ((m x).filter (k x)).map (g x)).length ≤ 16777216) :
    Ev C (.comp2 elt tg ik src .absent tg1 ik1 src1 cond1) ρ (.list (l.flatMap fun x => ((m x).filter (k x)).map (g x))) := .mk fun τ => by
  show ((evEs C src ρ).bnd fun xs => (M.of (walkC ik xs)).bnd fun items =>
    (comp2L (fun d => (M.of (setTg tg d (wipeE ρ (tg.slots ++ tg1.slots)))).bnd fun ρ' => (if E.absent.gone then M.ret true else (evE C .absent ρ').bnd fun x => M.of (truD x)).bnd fun k => if k then
        (evEs C src1 ρ').bnd fun xs => (M.of (walkC ik1 xs)).bnd fun items =>
          compL (fun d => (M.of (setTg tg1 d (wipeE ρ' tg1.slots))).bnd fun ρ'' => (if cond1.gone then M.ret true else (evE C cond1 ρ'').bnd fun x => M.of (truD x)).bnd fun k => if k then (evE C elt ρ'').bnd fun y => M.ret (some y) else M.ret none) items
      else M.ret []) items).bnd fun ys => if lineOk ys.length then M.ret (PyData.list ys) else M.fail) τ = _
  rw [M.bnd_eq (hs.run τ), M.bnd_eq (M.of_eq hw)]
  generalize hF : (fun d => (M.of (setTg tg d (wipeE ρ (tg.slots ++ tg1.slots)))).bnd fun ρ' => (if E.absent.gone then M.ret true else (evE C .absent ρ').bnd fun x => M.of (truD x)).bnd fun k => if k then
        (evEs C src1 ρ').bnd fun xs => (M.of (walkC ik1 xs)).bnd fun items =>
          compL (fun d => (M.of (setTg tg1 d (wipeE ρ' tg1.slots))).bnd fun ρ'' => (if cond1.gone then M.ret true else (evE C cond1 ρ'').bnd fun x => M.of (truD x)).bnd fun k => if k then (evE C elt ρ'').bnd fun y => M.ret (some y) else M.ret none) items
      else M.ret []) = F
  have one : ∀ x ∈ l, F (inj x) τ = some (((m x).filter (k x)).map (g x), τ) := by
    intro x hx
    obtain ⟨ρ', h1, ys, h2, h3, h4⟩ := he x hx
    rw [← hF]
    refine (M.bnd_eq (M.of_eq h1)).trans ?_
    show ((evEs C src1 ρ').bnd fun xs => (M.of (walkC ik1 xs)).bnd fun items =>
          compL (fun d => (M.of (setTg tg1 d (wipeE ρ' tg1.slots))).bnd fun ρ'' => (if cond1.gone then M.ret true else (evE C cond1 ρ'').bnd fun x => M.of (truD x)).bnd fun k => if k then (evE C elt ρ'').bnd fun y => M.ret (some y) else M.ret none) items) τ = _
    rw [M.bnd_eq (h2.run τ), M.bnd_eq (M.of_eq h3)]
    refine compL_filter (g := g x) (k := k x) (m x) fun y hy => ?_
    obtain ⟨ρ'', q1, q2, q3⟩ := h4 y hy
    rw [M.bnd_eq (M.of_eq q1), hg]
    show ((evE C cond1 ρ'').bnd fun x => M.of (truD x)).bnd (fun k => if k then (evE C elt ρ'').bnd fun y => M.ret (some y) else M.ret none) τ = _
    rw [M.bnd_eq ((M.bnd_eq (q2.run τ)).trans (M.of_eq rfl))]
    cases hk : k x y with
    | true =>
      show ((evE C elt ρ'').bnd fun y => M.ret (some y)) τ = _
      rw [M.bnd_eq ((q3 hk).run τ)]
      rfl
    | false => rfl
  have all : ∀ l' : List ι, (∀ x ∈ l', x ∈ l) → comp2L F (l'.map inj) τ = some (l'.flatMap fun x => ((m x).filter (k x)).map (g x), τ) := by
    intro l'
    induction l' with
    | nil => intro _; rfl
    | cons x l' ih =>
      intro hm
      show ((F (inj x)).bnd fun x => (comp2L F (l'.map inj)).bnd fun r => M.ret (x ++ r)) τ = _
      rw [M.bnd_eq (one x (hm x List.mem_cons_self)), M.bnd_eq (ih fun y hy => hm y (List.mem_cons_of_mem _ hy))]
      rfl
  rw [M.bnd_eq (all l fun _ h => h)]
  show (if lineOk _ then M.ret (PyData.list _) else M.fail) τ = _
  rw [if_pos (by unfold lineOk; exact decide_eq_true hl)]
  rfl

/-! ### kept sets -/
def pairsS (f : Str → List Str) (s : List Str) : List D := s.flatMap fun a => ((f a).filter fun b => ltS a b && decide (b ∈ s)).map fun b => .tuple [.str a, .str b]
theorem flat_len {ι : Type} {f : ι → List D} {c : Nat} (l : List ι) (h : ∀ x ∈ l, (f x).length ≤ c) : (l.flatMap f).length ≤ l.length * c := by
  rw [List.length_flatMap]
  exact sum_le l h
theorem pairs_mem {f : Str → List Str} {s : List Str} {d : D} (h : d ∈ pairsS f s) : ∃ a b, d = .tuple [.str a, .str b] ∧ a ∈ s ∧ b ∈ s := by
  obtain ⟨a, ha, hd⟩ := List.mem_flatMap.1 h
  obtain ⟨b, hb, rfl⟩ := List.mem_map.1 hd
  have := (List.mem_filter.1 hb).2
  simp only [Bool.and_eq_true, decide_eq_true_eq] at this
  exact ⟨a, b, rfl, ha, this.2⟩
end KN

set_option maxRecDepth 100000
set_option maxHeartbeats 4000000
namespace KN
open PySem L2 PyProof.Rows
theorem wd_near {rs : List (Str × Int)} {reach : Int} : walkD .ex [.dict (nearD rs reach)] = some (rs.map fun r => .str r.1) := by
  show some ((nearD rs reach).map (·.1)) = _
  unfold nearD
  rw [List.map_map]
  rfl
/-- the names that are neither in s nor near one of s -/
def uncS (rs : List (Str × Int)) (reach : Int) (s : List Str) : List (Str × Int) := rs.filter fun r => (!decide (r.1 ∈ s)) && !((nb rs reach r.1).any fun o => decide (o ∈ s))
end KN

set_option maxRecDepth 100000
set_option maxHeartbeats 4000000
namespace KN
open PySem L2 PyProof.Rows
/-! ### greedy rows -/
theorem upS_nodup {l : List Str} (h : upS l = true) : l.Nodup := ((upS_pw l).1 h).imp fun {a b} h z => by subst z; exact List.lt_irrefl _ h
theorem upS_sub {l s : List Str} (h : upS l = true) (hs : s.Sublist l) : upS s = true := (upS_pw s).2 (((upS_pw l).1 h).sublist hs)
end KN

set_option maxRecDepth 100000
set_option maxHeartbeats 4000000
namespace KN
open PySem L2 PyProof.Rows
/-! ### rows by their numbers -/
theorem names_g {B : Tb} {n : Nat} (h : C37 B) {rs : List (Str × Int)} (hl : rs.length ≤ 4096) (hs : ∀ r ∈ rs, okD (.str r.1) = true) {d : D} (hd : Rws d rs) : Gives (callF B (n + 4)) 37 [d] (tupS (rs.map (·.1))) := by
  refine gives_er1 h.own rfl (er_ret (ev_tupleL (ev_comp (l := rs) (inj := rowD) (g := fun r => .str r.1) (evs_cons (ev_call (evs_cons (ev_var rfl) evs_nil rfl) (tupled_rows (n := n) h.c18 hl hs hd)) evs_nil rfl) (wc wd_tm (by omega)) fun r hr => ⟨_, rfl, ev_var rfl⟩) rfl)) ?_
  unfold tupS
  rw [List.map_map]
  rfl
/-! ### taken from below -/
/-! ### sets that can be kept: none near, all covered -/
end KN

set_option maxRecDepth 100000
set_option maxHeartbeats 4000000
namespace KN
open PySem L2 PyProof.Rows
/-! ### good rows -/
structure Gd (rs : List (Str × Int)) : Prop where
  len : rs.length ≤ 12
  up : upS (rs.map (·.1)) = true
  nm : ∀ r ∈ rs, isNameS r.1 = true
theorem okD_nm {x : Str} (h : isNameS x = true) : okD (.str x) = true := by
  have h2 := name_ok h
  simp only [isNameS, Bool.and_eq_true, decide_eq_true_eq] at h
  simp only [okD, h2, Bool.true_and, decide_eq_true_eq]
  omega
section
variable {rs w : List (Str × Int)}
theorem Gd.nd (h : Gd rs) : (rs.map (·.1)).Nodup := upS_nodup h.up
theorem Gd.ok (h : Gd rs) : ∀ r ∈ rs, PyData.strOk r.1 = true := fun r hr => name_ok (h.nm r hr)
theorem Gd.okd (h : Gd rs) : ∀ r ∈ rs, okD (.str r.1) = true := fun r hr => okD_nm (h.nm r hr)
theorem Gd.okn (h : Gd rs) : ∀ a ∈ rs.map (·.1), PyData.strOk a = true := fun a ha => by obtain ⟨r, hr, rfl⟩ := List.mem_map.1 ha; exact h.ok r hr
theorem Gd.lists {B : Tb} {n : Nat} (h : Gd rs) (hc : C26 B) : Gives (callF B (n + 3)) 26 [.tuple (rs.map rowD)] (.list (rs.map rowL)) := by
  have := lists_g hc (n + 3) (.tuple (rs.map rowD)) (by have := depth_rows (rs := rs) (.inl rfl); omega) (okD_rows (by have := h.len; omega) h.okd (.inl rfl))
  rwa [lisD_rows] at this
end
theorem tags_fine : ∀ n, n ≤ 12 → ((tagsR.take n).all isNameS && upS (tagsR.take n)) = true := by
  have : ∀ n, n < 13 → ((tagsR.take n).all isNameS && upS (tagsR.take n)) = true := by decide +kernel
  exact fun n h => this n (by omega)
theorem Drawn.gd {many : Nat} {top : Int} {rs : List (Str × Int)} (h : Drawn many top rs) (h12 : many ≤ 12) : Gd rs := by
  have hl := h.2.1
  have t := tags_fine rs.length (by omega)
  rw [← h.1, Bool.and_eq_true, List.all_eq_true] at t
  exact ⟨by omega, t.2, fun r hr => t.1 r.1 (List.mem_map_of_mem hr)⟩
/-! ### set_of -/
theorem sub_filter {l s : List Str} (hu : upS l = true) (hs : s.Nodup) (hp : ∀ a ∈ s, a ∈ l) : sortS s = l.filter fun a => decide (a ∈ s) := by
  refine sortS_id (upS_sub hu List.filter_sublist) (nodup_perm hs ((upS_nodup hu).sublist List.filter_sublist) fun x => ?_)
  rw [List.mem_filter, decide_eq_true_eq]
  exact ⟨fun h => ⟨hp x h, h⟩, fun h => h.2⟩
/-! ### from below, in the program -/
/-! ### the law's own look at sets -/
/-! ### the most, the fewest of numbers -/
end KN

set_option maxRecDepth 100000
set_option maxHeartbeats 4000000
namespace KN
open PySem L2 PyProof.Rows
/-! ### rows as a table -/
/-! ### an order by which so many are kept -/
/-! ### now and then great numbers -/
end KN

set_option maxRecDepth 100000
set_option maxHeartbeats 4000000
namespace KN
open PySem L2 PyProof.Rows
/-! ### who asks, who is taken -/
/-! ### in the program -/
/-! ### the law's own walk -/
theorem cmp_ninL {a : Str} {l : List Str} (ha : PyData.strOk a = true) (hs : ∀ x ∈ l, PyData.strOk x = true) : cmpD .NotIn (.str a) (.list (l.map .str)) = some (.bool (!decide (a ∈ l))) := by
  show inSeq true _ _ = _
  unfold inSeq
  rw [if_pos (in_cond ha hs), inD_strs]
  rfl
end KN

set_option maxRecDepth 100000
set_option maxHeartbeats 4000000
namespace KN
open PySem L2 PyProof.Rows
/-- the same names, other numbers -/
theorem Gd.names {rs rs' : List (Str × Int)} (g : Gd rs) (nm : rs'.map (·.1) = rs.map (·.1)) : Gd rs' := ⟨by have := congrArg List.length nm; simp only [List.length_map] at this; rw [this]; exact g.len, nm ▸ g.up, fun r hr => by
  have hm : r.1 ∈ rs'.map (·.1) := List.mem_map_of_mem (f := fun p : Str × Int => p.1) hr
  rw [nm] at hm
  obtain ⟨q, hq, e⟩ := List.mem_map.1 hm
  exact e ▸ g.nm q hq⟩
end KN

set_option maxRecDepth 100000
set_option maxHeartbeats 4000000
namespace KN
open PySem L2 PyProof.Rows
/-! ### ordered numbers -/
end KN

set_option maxRecDepth 100000
set_option maxHeartbeats 4000000
namespace KN
open PySem L2 PyProof.Rows
/-! ### how far the numbers go -/
/-! ### in the program -/
/-! ### the law's own words -/
/-! ### how many: the same at like spans -/
end KN

set_option maxRecDepth 100000
set_option maxHeartbeats 4000000
namespace KN
open PySem L2 PyProof.Rows
end KN

set_option maxRecDepth 100000
set_option maxHeartbeats 4000000
namespace KN
open PySem L2 PyProof.Rows
/-! ### the law's own def, with a box that is asked twice -/
end KN

set_option maxRecDepth 100000
set_option maxHeartbeats 4000000
namespace KN
open PySem L2 PyProof.Rows
/-! ### counted by the numbers alone -/
/-! ### numbers in order -/
/-! ### one more -/
end KN

set_option maxRecDepth 100000
set_option maxHeartbeats 4000000
namespace KN
open PySem L2 PyProof.Rows
/-! ### each number between the fewest and the most -/
/-- names that are kept -/
structure Mis (rs : List (Str × Int)) (reach : Int) (s : List Str) : Prop where
  nd : s.Nodup
  sub : ∀ a ∈ s, a ∈ rs.map (·.1)
  ind : ∀ x ∈ s, ∀ y ∈ s, x ∉ nb rs reach y
  dom : ∀ t ∈ rs.map (·.1), t ∈ s ∨ ∃ o ∈ s, o ∈ nb rs reach t
theorem Mis.sorted {rs : List (Str × Int)} {reach : Int} {s : List Str} (g : Gd rs) (h : Mis rs reach s) : (sortS s).Sublist (rs.map (·.1)) ∧ Mis rs reach (sortS s) := by
  have mem : ∀ x, x ∈ sortS s ↔ x ∈ s := fun x => (sortS_perm s).mem_iff
  refine ⟨by rw [sub_filter g.up h.nd h.sub]; exact List.filter_sublist, (sortS_perm s).nodup_iff.2 h.nd, fun a ha => h.sub a ((mem a).1 ha), fun x hx y hy => h.ind x ((mem x).1 hx) y ((mem y).1 hy), fun t ht => ?_⟩
  rcases h.dom t ht with z | ⟨o, ho, z⟩
  · exact .inl ((mem t).2 z)
  · exact .inr ⟨o, (mem o).2 ho, z⟩
end KN

set_option maxRecDepth 100000
set_option maxHeartbeats 4000000
namespace KN
open PySem L2 PyProof.Rows
/-! ### loops: till the first, while -/
/-! ### all sets that can be kept, one record after another -/
/-! ### in the program -/
end KN

set_option maxRecDepth 100000
set_option maxHeartbeats 4000000
namespace KN
open PySem L2 PyProof.Rows
/-! ### chains along the numbers -/
section
variable {w : List (Str × Int)} {reach : Int}
end
end KN

set_option maxRecDepth 100000
set_option maxHeartbeats 4000000
namespace KN
open PySem L2 PyProof.Rows
/-! ### more steps -/
theorem er_expr {C : Nat → List D → M D} {ρ : En} {e : E} {r : List S} {o : Out} {d : D} (h : Ev C e ρ d) (hr : Er C r ρ o) : Er C (.expr e :: r) ρ o :=
  er_seq (fun τ => by
    show ((evE C e ρ).bnd fun _ => M.ret (Out.nx ρ)) τ = _
    rw [M.bnd_eq (h.run τ)]
    rfl) hr
theorem gives_nx {B : Tb} {n f : Nat} {b : List S} {p nn : Nat} {ds : List D} {ρ' : En} (h : Is B f b false p nn) (hr : Er (callF B n) b (envI false (nn - p) ds) (.nx ρ')) (hl : ds.length = p) : Gives (callF B (n + 1)) f ds .none := by
  refine gives_eq ?_
  rw [ok_is h hl]
  exact hr.ok ⟨_, rfl, rfl⟩
/-! ### rows by their numbers, which can follow -/
/-! ### all chains, by a heap of open ones -/
end KN

set_option maxRecDepth 100000
set_option maxHeartbeats 4000000
namespace KN
open PySem L2 PyProof.Rows
/-- a loop that goes on to its end, place by place -/
theorem er_loopX {C : Nat → List D → M D} {ρ : En} {ι : Type} {tg : Tg} {ik : IK} {src : List E} {body : List S} {xs : List D} {l : List ι} {inj : ι → D} (I : Nat → En → Prop) (hs : Evs C src ρ xs) (hw : walkD ik xs = some (l.map inj)) (h0 : I 0 ρ)
    (hb : ∀ k x ρ, l[k]? = some x → I k ρ → ∃ ρ', setTg tg (inj x) ρ = some ρ' ∧ ∃ ρ'', I (k + 1) ρ'' ∧ Er C body ρ' (.nx ρ'')) : ∃ ρ', I l.length ρ' ∧ ∀ r o, Er C r ρ' o → Er C (.loop tg ik src body :: r) ρ o := by
  have go : ∀ (l' : List ι) (k : Nat) (ρ : En), l.drop k = l' → k + l'.length = l.length → I k ρ → ∃ ρ', I l.length ρ' ∧ ∀ τ, loopL (fun d ρ => (M.of (setTg tg d ρ)).bnd fun ρ' => evSs C body ρ') (l'.map inj) ρ τ = some (.nx ρ', τ) := by
    intro l'
    induction l' with
    | nil => intro k ρ _ hk hp; simp at hk; subst hk; exact ⟨ρ, hp, fun τ => rfl⟩
    | cons x l' ih =>
      intro k ρ hd hk hp
      simp only [List.length_cons] at hk
      have hx : l[k]? = some x := by
        have := congrArg (fun m => m[0]?) hd
        simpa using this
      have hd2 : l.drop (k + 1) = l' := by
        rw [← List.drop_drop, hd]
        rfl
      obtain ⟨ρ', h2, ρ'', h1, h3⟩ := hb k x ρ hx hp
      obtain ⟨ρ3, g1, g2⟩ := ih (k + 1) ρ'' hd2 (by omega) h1
      refine ⟨ρ3, g1, fun τ => ?_⟩
      show (((M.of (setTg tg (inj x) ρ)).bnd fun ρ' => evSs C body ρ').bnd _) τ = _
      rw [M.bnd_eq ((M.bnd_eq (M.of_eq h2)).trans (h3.run τ))]
      exact g2 τ
  obtain ⟨ρ', g1, g2⟩ := go l 0 ρ rfl (by simp) h0
  refine ⟨ρ', g1, fun r o h => er_seq (fun τ => ?_) h⟩
  show ((evEs C src ρ).bnd fun xs => (M.of (walkD ik xs)).bnd fun items => loopL (fun d ρ => (M.of (setTg tg d ρ)).bnd fun ρ' => evSs C body ρ') items ρ) τ = _
  rw [M.bnd_eq (hs.run τ), M.bnd_eq (M.of_eq hw)]
  exact g2 τ
/-! ### all chains -/
end KN

set_option maxRecDepth 100000
set_option maxHeartbeats 4000000
namespace KN
open PySem L2 PyProof.Rows
/-! ### all sets, in order -/
/-! ### how many -/
end KN

set_option maxRecDepth 100000
set_option maxHeartbeats 4000000
namespace KN
open PySem L2 PyProof.Rows
/-! ### tuples of texts: equal, among, their place -/
end KN

set_option maxRecDepth 100000
set_option maxHeartbeats 4000000
namespace KN
open PySem L2 PyProof.Rows
/-! ### tallies: dicts that count -/
/-! ### moved on by a step -/
/-! ### how many of a size -/
end KN

set_option maxRecDepth 100000
set_option maxHeartbeats 4000000
namespace KN
open PySem L2 PyProof.Rows
/-! ### some names, as a tuple or a list -/
def SomeS (e : D) (s : List Str) : Prop := e = tupS s ∨ e = .list (s.map .str)
theorem SomeS.wd {e : D} {s : List Str} (h : SomeS e s) : walkD .ex [e] = some (s.map .str) := by rcases h with rfl | rfl <;> rfl
theorem SomeS.inn {e : D} {s : List Str} {a : Str} (h : SomeS e s) (ha : PyData.strOk a = true) (hs : ∀ x ∈ s, PyData.strOk x = true) : cmpD .In (.str a) e = some (.bool (decide (a ∈ s))) := by
  rcases h with rfl | rfl
  · exact cmp_inT ha hs
  · exact cmp_inL ha hs
theorem SomeS.nin {e : D} {s : List Str} {a : Str} (h : SomeS e s) (ha : PyData.strOk a = true) (hs : ∀ x ∈ s, PyData.strOk x = true) : cmpD .NotIn (.str a) e = some (.bool (!decide (a ∈ s))) := by
  rcases h with rfl | rfl
  · exact cmp_ninT ha hs
  · exact cmp_ninL ha hs
theorem check_g {B : Tb} {n : Nat} (h : C38 B) {rs : List (Str × Int)} (g : Gd rs) {d e : D} {s : List Str} (hd : Rws d rs) (he : SomeS e s) (hp : ∀ a ∈ s, a ∈ rs.map (·.1)) : Gives (callF B (n + 5)) 38 [d, e] .none := by
  have hl := g.len
  have lp := er_loopX (C := callF B (n + 4)) (ρ := [some (.dat d), some (.dat e), some (.dat (tupS (rs.map (·.1)))), none]) (tg := .nm 3) (ik := .ex) (src := [.var 1]) (body := [.ite (.cmp .NotIn (.var 3) (.var 2)) [.rais 0 [.var 3]] []]) (l := s) (inj := .str) (fun _ ρ => ∃ v, ρ = [some (.dat d), some (.dat e), some (.dat (tupS (rs.map (·.1)))), v]) (evs_cons (ev_var rfl) evs_nil rfl) he.wd ⟨_, rfl⟩ (by
    rintro k x ρ hx ⟨v, rfl⟩
    have xs := hp x (List.mem_of_getElem? hx)
    exact ⟨_, rfl, _, ⟨_, rfl⟩, er_ifF (x := .bool false) (Ev.cast (ev_cmp (ev_var rfl) (ev_var rfl) (cmp_ninT (g.okn x xs) g.okn)) (by simp [xs])) rfl er_nil⟩)
  obtain ⟨ρ', ⟨v, rfl⟩, lp⟩ := lp
  exact gives_nx h.own (er_asg (ev_call (evs_cons (ev_var rfl) evs_nil rfl) (names_g (n := n) h.c37 (by omega) g.okd hd)) (lp [] _ er_nil)) rfl
def clashD (rs : List (Str × Int)) (reach : Int) (s : List Str) : D := match pairsS (nb rs reach) s with
  | [] => .none
  | x :: xs => minD x xs
theorem clash2_g {B : Tb} {n : Nat} (h : C21 B) {rs : List (Str × Int)} {reach : Int} {s : List Str} {e : D} (he : SomeS e s) (hl : rs.length ≤ 100) (hs : ∀ r ∈ rs, PyData.strOk r.1 = true) (hp : ∀ a ∈ s, a ∈ rs.map (·.1)) (hsl : s.length ≤ 100) :
    Gives (callF B (n + 1)) 21 [.dict (nearD rs reach), e] (clashD rs reach s) := by
  have ok : ∀ a ∈ rs.map (·.1), PyData.strOk a = true := fun a ha => by obtain ⟨r, hr, rfl⟩ := List.mem_map.1 ha; exact hs r hr
  have oks : ∀ a ∈ s, PyData.strOk a = true := fun a ha => ok a (hp a ha)
  have len : (pairsS (nb rs reach) s).length ≤ 100 * 100 := by
    refine Nat.le_trans (flat_len (c := 100) s fun a ha => ?_) (Nat.mul_le_mul_right _ hsl)
    rw [List.length_map]
    exact Nat.le_trans (List.length_filter_le _ _) (Nat.le_trans nb_len hl)
  have ev1 : Ev (callF B n) (.comp2 (.tup [.var 3, .var 4]) (.nm 3) .ex [.var 1] .absent (.nm 4) .ex [.get (.var 0) (.var 3)] (.and (.cmp .Lt (.var 3) (.var 4)) (.cmp .In (.var 4) (.var 1)))) (envI false (5 - 2) [.dict (nearD rs reach), e]) (.list (pairsS (nb rs reach) s)) :=
    ev_comp2If (l := s) (inj := .str) (m := fun a => nb rs reach a) (inj1 := fun _ => .str) (k := fun a b => ltS a b && decide (b ∈ s)) (g := fun a b => .tuple [.str a, .str b]) (evs_cons (ev_var rfl) evs_nil rfl) (wc he.wd (by omega)) rfl
      (fun a ha => ⟨_, rfl, _, evs_cons (ev_get (ev_var rfl) (ev_var rfl) (get_near (hp a ha))) evs_nil rfl, wc wd_tm (Nat.le_trans nb_len (by omega)), fun b hb => ⟨_, rfl, ev_andB (ev_cmp (ev_var rfl) (ev_var rfl) (cmp_ltS (oks a ha) (ok _ (nb_mem hb)))) fun _ => ev_cmp (ev_var rfl) (ev_var rfl) (he.inn (ok _ (nb_mem hb)) oks), fun _ => ev_tup (evs_cons (ev_var rfl) (evs_cons (ev_var rfl) evs_nil rfl) rfl) (by simp)⟩⟩) (Nat.le_trans len (by decide))
  unfold clashD
  cases hP : pairsS (nb rs reach) s with
  | nil =>
    rw [hP] at ev1
    exact gives_er1 h.own rfl (er_asg ev1 (er_ret (ev_iteB (p := false) (x := .none) (ev_cmp (ev_lenL (ev_var rfl) rfl) ev_int cmpD_gt) (fun z => nomatch z) fun _ => ev_non))) rfl
  | cons x xs =>
    rw [hP] at ev1
    have mem : ∀ y ∈ x :: xs, ∃ a b, y = .tuple [.str a, .str b] ∧ a ∈ s ∧ b ∈ s := fun y hy => pairs_mem (f := nb rs reach) (by rw [hP]; exact hy)
    have al : (allAlike (x :: xs) && (x :: xs).all still) = true := by
      simp only [Bool.and_eq_true]
      refine ⟨?_, ?_⟩
      · unfold allAlike
        rw [List.all_eq_true]
        intro y hy
        obtain ⟨a, b, rfl, ha, hb⟩ := mem y hy
        simp only [Bool.and_eq_true, List.all_eq_true, decide_eq_true_eq]
        refine ⟨⟨rfl, by simp [PyData.canLay0, PyData.canLayAll0, oks a ha, oks b hb], by simp [PyData.depth, PyData.depthAll]⟩, fun z hz => ?_⟩
        obtain ⟨c, d, rfl, _, _⟩ := mem z hz
        simp [PySem.W.alike, PySem.W.alikeAll]
      · rw [List.all_eq_true]
        intro y hy
        obtain ⟨a, b, rfl, _, _⟩ := mem y hy
        rfl
    have mn : biD .min [.list (x :: xs)] = some (minD x xs) := if_pos al
    refine gives_er1 h.own rfl (er_asg ev1 (er_ret (ev_iteB (p := decide ((0 : Int) < ((x :: xs).length : Int))) (y := .none) (ev_cmp (ev_lenL (ev_var rfl) rfl) ev_int cmpD_gt) (fun _ => ev_bi1 (ev_var rfl) mn rfl) fun z => ?_))) ?_
    · exact absurd (of_decide_eq_false z) (by simp only [List.length_cons]; omega)
    · rw [if_pos (decide_eq_true (by simp only [List.length_cons]; omega))]
theorem unc2_g {B : Tb} {n : Nat} (h : C22 B) {rs : List (Str × Int)} {reach : Int} {s : List Str} {e : D} (he : SomeS e s) (hl : rs.length ≤ 100) (hs : ∀ r ∈ rs, PyData.strOk r.1 = true) (hp : ∀ a ∈ s, a ∈ rs.map (·.1)) :
    Gives (callF B (n + 1)) 22 [.dict (nearD rs reach), e] (.tuple ((uncS rs reach s).map fun r => .str r.1)) := by
  have ok : ∀ a ∈ rs.map (·.1), PyData.strOk a = true := fun a ha => by obtain ⟨r, hr, rfl⟩ := List.mem_map.1 ha; exact hs r hr
  have oks : ∀ a ∈ s, PyData.strOk a = true := fun a ha => ok a (hp a ha)
  refine gives_er h.own (er_ret (ev_tupleL (ev_compIf (l := rs) (inj := fun r => .str r.1) (k := fun r => (!decide (r.1 ∈ s)) && !((nb rs reach r.1).any fun o => decide (o ∈ s))) (g := fun r => .str r.1) (evs_cons (ev_var rfl) evs_nil rfl) (wc wd_near (by omega)) rfl fun r hr => ⟨_, rfl, ev_andB (ev_cmp (ev_var rfl) (ev_var rfl) (he.nin (hs r hr) oks)) fun _ => ev_notB (ev_bi1 (ev_comp (l := nb rs reach r.1) (inj := .str) (g := fun o => .bool (decide (o ∈ s))) (evs_cons (ev_get (ev_var rfl) (ev_var rfl) (get_near (List.mem_map_of_mem hr))) evs_nil rfl) (wc wd_tm (Nat.le_trans nb_len (by omega))) fun o ho => ⟨_, rfl, ev_cmp (ev_var rfl) (ev_var rfl) (he.inn (ok _ (nb_mem ho)) oks)⟩) any_bools rfl), fun _ => ev_var rfl⟩) rfl))
/-! ### pairs in their order: the first is the least -/
theorem nb_up {rs : List (Str × Int)} {reach : Int} {a : Str} (h : upS (rs.map (·.1)) = true) : upS (nb rs reach a) = true := by
  unfold nb
  split
  · rename_i r _
    exact upS_sub h ((List.filter_sublist (l := rs)).map (·.1))
  · rfl
theorem ltS_irr {a : Str} : ltS a a = false := decide_eq_false (List.lt_irrefl _)
theorem ltS_asym {a b : Str} (h : ltS a b = true) : ltS b a = false := by
  cases e : ltS b a with
  | false => rfl
  | true => exact absurd (List.lt_trans (of_decide_eq_true h) (of_decide_eq_true e)) (List.lt_irrefl _)
theorem eqv_strs {x y : Str} : PyData.eqv (.str x) (.str y) = decide (x = y) := by simp only [PyData.eqv, beqS]
theorem lt_pairS {a b c d : Str} : PySem.W.dataLt (.tuple [.str a, .str b]) (.tuple [.str c, .str d]) = (ltS a c || (decide (a = c) && ltS b d)) := by
  rw [PySem.W.dataLt_pair rfl rfl, eqv_strs, eqv_strs, PySem.W.dataLt_str, PySem.W.dataLt_str]
  show (if decide (a = c) = true then (if decide (b = d) = true then false else ltS b d) else ltS a c) = _
  by_cases e : a = c
  · subst e
    rw [if_pos (decide_eq_true rfl), ltS_irr]
    by_cases e2 : b = d
    · subst e2
      simp [ltS_irr]
    · simp [e2]
  · simp [e]
theorem pairs_ord {f : Str → List Str} (hf : ∀ a, upS (f a) = true) : ∀ {s t : List Str}, upS s = true → (s.flatMap fun a => ((f a).filter fun b => ltS a b && decide (b ∈ t)).map fun b => PyData.tuple [.str a, .str b]).Pairwise fun x y => PySem.W.dataLt y x = false := by
  intro s t hs
  rw [List.pairwise_flatMap]
  refine ⟨fun a ha => ?_, ?_⟩
  · rw [List.pairwise_map]
    refine ((upS_pw _).1 (upS_sub (hf a) List.filter_sublist)).imp fun {x y} h => ?_
    rw [lt_pairS, ltS_irr, ltS_asym (decide_eq_true h)]
    simp
  · refine ((upS_pw s).1 hs).imp fun {a c} h x hx y hy => ?_
    obtain ⟨b, _, rfl⟩ := List.mem_map.1 hx
    obtain ⟨d, _, rfl⟩ := List.mem_map.1 hy
    have ne : c ≠ a := fun e => by
      subst e
      exact List.lt_irrefl _ h
    rw [lt_pairS, ltS_asym (decide_eq_true h)]
    simp [ne]
theorem min_first : ∀ {xs : List D} {x : D}, (∀ y ∈ xs, PySem.W.dataLt y x = false) → minD x xs = x
  | [], x, _ => rfl
  | y :: r, x, h => by
    unfold minD
    rw [h y List.mem_cons_self]
    exact min_first fun z hz => h z (List.mem_cons_of_mem _ hz)
theorem clash_first {rs : List (Str × Int)} {reach : Int} {s : List Str} (hu : upS (rs.map (·.1)) = true) (hs : upS s = true) : clashD rs reach s = (match pairsS (nb rs reach) s with
    | [] => .none
    | x :: _ => x) := by
  have o := pairs_ord (f := nb rs reach) (fun a => nb_up hu) (t := s) hs
  unfold clashD
  have o : (pairsS (nb rs reach) s).Pairwise fun x y => PySem.W.dataLt y x = false := o
  split
  · rfl
  · rename_i x xs e
    rw [e] at o
    exact min_first fun y hy => (List.pairwise_cons.1 o).1 y hy
/-! ### a lot that is drawn -/
theorem lot_c {f : D → M (Option D)} {N : Nat} : ∀ (rs : List (Str × Int)) (τ : List D) (m : Nat), (∀ r ∈ rs, ∀ τ m, Bx τ m → m < N → Ok (f (rowD r)) τ fun o τ' => (o = none ∨ o = some (.str r.1)) ∧ Bx τ' (m + 1)) → Bx τ m → m + rs.length < N →
    Ok (compL f (rs.map rowD)) τ fun ys τ' => ∃ s : List Str, ys = s.map .str ∧ s.Sublist (rs.map (·.1)) ∧ ∃ m', Bx τ' m' ∧ m' ≤ m + rs.length
  | [], τ, m, _, hb, _ => ok_ret.2 ⟨[], rfl, List.Sublist.refl _, m, hb, by simp⟩
  | r :: rs, τ, m, h, hb, hm => by
    show Ok ((f (rowD r)).bnd _) τ _
    rw [ok_bnd]
    simp only [List.length_cons] at hm
    refine (h r List.mem_cons_self τ m hb (by omega)).mono fun o τ1 q => ?_
    obtain ⟨ho, b1⟩ := q
    rw [ok_bnd]
    refine (lot_c rs τ1 (m + 1) (fun r hr => h r (List.mem_cons_of_mem _ hr)) b1 (by omega)).mono fun ys τ2 q => ?_
    obtain ⟨s, rfl, hs, m', b2, hm'⟩ := q
    rw [ok_ret]
    rcases ho with rfl | rfl
    · exact ⟨s, rfl, hs.cons _, m', b2, by simp only [List.length_cons]; omega⟩
    · exact ⟨r.1 :: s, rfl, hs.cons₂ _, m', b2, by simp only [List.length_cons]; omega⟩
theorem twiceL {xs : List D} (h : xs.length ≤ 1000) : binD .Mult (.list xs) (.int 2) = some (.list (xs ++ xs)) := by
  show (if _ then _ else _) = _
  rw [if_pos]
  · simp [List.replicate_succ]
  · unfold lineOk
    simp only [Bool.and_eq_true, decide_eq_true_eq]
    refine ⟨by decide, ?_⟩
    show xs.length * 2 ≤ _
    omega
theorem okDs_all : ∀ {xs : List D}, (∀ x ∈ xs, okD x = true) → okDs xs = true
  | [], _ => rfl
  | x :: r, h => by simp [okDs, h x List.mem_cons_self, okDs_all fun y hy => h y (List.mem_cons_of_mem _ hy)]
/-- the first one, None without -/
def firstD : List D → D
  | [] => .none
  | x :: _ => x
theorem firstD_mem {xs : List D} : firstD xs = .none ∨ firstD xs ∈ xs := by
  cases xs with
  | nil => exact .inl rfl
  | cons x r => exact .inr List.mem_cons_self
theorem cmp_neNil {xs : List D} (h : SeqAt.shaped (.list xs) = true) : cmpD .NotEq (.list xs) (.list []) = some (.bool (!xs.isEmpty)) := by
  show (if _ then _ else _) = _
  rw [if_pos (by rw [h]; rfl)]
  cases xs <;> simp [PyData.eqv, PyData.eqvAll]
theorem er_cast {C : Nat → List D → M D} {b : List S} {ρ : En} {o o' : Out} (h : Er C b ρ o) (e : o = o') : Er C b ρ o' := e ▸ h
end KN

set_option maxRecDepth 100000
set_option maxHeartbeats 4000000
namespace KN
open PySem L2 PyProof.Rows
namespace K19
def t18 : Fn := ⟨"tupled", ["thing"], ["thing", "part"], false, false, b18_tupled⟩
def t37 : Fn := ⟨"names_of", ["records"], ["records", "name", "number"], false, false, b37_names_of⟩
def t38 : Fn := ⟨"check_names", ["records", "wanted"], ["records", "wanted", "known", "name"], false, false, b38_check_names⟩
def t20 : Fn := ⟨"near_table", ["records", "span"], ["records", "span", "rows", "table", "name", "number", "other", "much"], false, false, b20_near_table⟩
def t21 : Fn := ⟨"clash", ["table", "some"], ["table", "some", "pairs", "one", "other"], false, false, b21_clash⟩
def t22 : Fn := ⟨"uncovered", ["table", "some"], ["table", "some", "name", "own"], false, false, b22_uncovered⟩
def t241 : Fn := ⟨"near_pair", ["records", "span", "some"], ["records", "span", "some"], false, false, b241_near_pair⟩
def t242 : Fn := ⟨"missed", ["records", "span", "some"], ["records", "span", "some"], false, false, b242_missed⟩
def t243 : Fn := ⟨"_law_box", ["_law_script", "_law_k"], ["_law_script", "_law_k", "_law_great_so"], false, true, b243_box⟩
def t7 : Fn := ⟨"_law_take", ["_law_tin", "_law_top_so"], ["_law_tin", "_law_top_so", "_law_digit_so", "_law_once", "_law_far", "_law_twice"], true, false, b7_take⟩
def t8 : Fn := ⟨"_law_cells", ["_law_script", "_law_most"], ["_law_script", "_law_most", "_law_cells_here", "_law_k", "_law_great_so", "_law_at_so"], false, false, b8_cells⟩
def t26 : Fn := ⟨"_law_lists", ["_law_matter"], ["_law_matter", "_law_bit"], false, false, b26_lists⟩
def t10 : Fn := ⟨"_law_same", ["_law_got", "_law_due_here"], ["_law_got", "_law_due_here", "_law_mine", "_law_its", "_law_lot_so"], false, false, b10_same⟩
def t11 : Fn := ⟨"_law_goods", ["_law_tin", "_law_many", "_law_top"], ["_law_tin", "_law_many", "_law_top", "_law_tags", "_law_letter", "_law_tag"], true, false, b11_goods⟩
def t27 : Fn := ⟨"_law_close", ["_law_goods_here", "_law_reach"], ["_law_goods_here", "_law_reach", "_law_found", "_law_tag", "_law_much", "_law_own"], false, false, b27_close⟩
def t31 : Fn := ⟨"_law_text", [], [], false, false, b31_text⟩
def t244 : Fn := ⟨"_law_heard", ["_law_door", "_law_goods_here", "_law_reach", "_law_lot"], ["_law_door", "_law_goods_here", "_law_reach", "_law_lot", "_law_got", "_law_caught", "error"], false, false, b244_heard⟩
def t245 : Fn := ⟨"_law_due", ["_law_goods_here", "_law_reach", "_law_lot"], ["_law_goods_here", "_law_reach", "_law_lot", "_law_near", "_law_pairs", "_law_tag", "_law_own", "_law_free_so", "_law_much"], false, false, b245_due⟩
def t246 : Fn := ⟨"_law_hand_right", [], ["_law_goods_here", "_law_far", "_law_lots", "_law_got", "_law_own", "_law_due_here", "_law_turned", "_law_twelve", "_law_k", "_law_door", "_law_lost_so", "_law_soft"], false, false, b246_hand_right⟩
def t247 : Fn := ⟨"_law_case_right", ["_law_tin"], ["_law_tin", "_law_goods_here", "_law_reach", "_law_lot", "_law_own", "_law_due_here", "_law_got"], true, false, b247_case_right⟩
def t248 : Fn := ⟨"_law_right", ["_law_tin"], ["_law_tin", "_law_turn"], true, false, b248_right⟩
def t249 : Fn := ⟨"law", ["_law_script"], ["_law_script", "_law_cells_here", "_law_k"], false, false, b249_law⟩
def T : List (Nat × Fn) := [(18, t18), (37, t37), (38, t38), (20, t20), (21, t21), (22, t22), (241, t241), (242, t242), (243, t243), (7, t7), (8, t8), (26, t26), (10, t10), (11, t11), (27, t27), (31, t31), (244, t244), (245, t245), (246, t246), (247, t247), (248, t248), (249, t249)]
def B : Tb := fun i => (T.lookup i).map Fn.fb
theorem hB (i : Nat) (F : Fn) (h : T.lookup i = some F) : B i = some F.fb := by
  unfold B
  rw [h]
  rfl
def gl : List (Str × D) := []
def kw : List Kw := [⟨241, 0, ["some", "span", "records"], [2, 1, 0]⟩, ⟨242, 0, ["some", "span", "records"], [2, 1, 0]⟩]
def xs : List Nat := [0]
theorem c18 : C18 B := ⟨rfl⟩
theorem c37 : C37 B := ⟨rfl, c18⟩
theorem c38 : C38 B := ⟨rfl, c37⟩
theorem c20 : C20 B := ⟨rfl, c18⟩
theorem c21 : C21 B := ⟨rfl⟩
theorem c22 : C22 B := ⟨rfl⟩
theorem c241 : C241 B := ⟨rfl, c20, c21, c38⟩
theorem c242 : C242 B := ⟨rfl, c20, c22, c38⟩
theorem c243 : C243 B := ⟨rfl⟩
theorem c7 : C7 B := ⟨rfl⟩
theorem c8 : C8 B := ⟨rfl⟩
theorem c26 : C26 B := ⟨rfl⟩
theorem c10 : C10 B := ⟨rfl⟩
theorem c11 : C11 B := ⟨rfl, c7⟩
theorem c27 : C27 B := ⟨rfl⟩
theorem c31 : C31 B := ⟨rfl⟩
theorem c244 : C244 B := ⟨rfl, c241, c242⟩
theorem c245 : C245 B := ⟨rfl, c27⟩
theorem c246 : C246 B := ⟨rfl, c10, c26, c31, c241, c242, c244⟩
theorem c247 : C247 B := ⟨rfl, c7, c10, c11, c26, c241, c242, c245⟩
theorem c248 : C248 B := ⟨rfl, c247⟩
theorem c249 : C249 B := ⟨rfl, c8, c243, c246, c248⟩
end K19
end KN

set_option maxRecDepth 100000
set_option maxHeartbeats 4000000
namespace KN
open PySem L2 PyProof.Rows
theorem pair241_g {B : Tb} {n : Nat} (h : C241 B) {rs : List (Str × Int)} {reach : Int} {s : List Str} {d e : D} (g : Gd rs) (hd : Rws d rs) (he : SomeS e s) (hp : ∀ a ∈ s, a ∈ rs.map (·.1)) (hsl : s.length ≤ 100) : Gives (callF B (n + 6)) 241 [d, .int reach, e] (clashD rs reach s) := by
  have hl := g.len
  exact gives_er h.own (er_expr (ev_call (evs_cons (ev_var rfl) (evs_cons (ev_var rfl) evs_nil rfl) rfl) (check_g (n := n) h.c38 g hd he hp)) (er_ret (ev_call (evs_cons (ev_call (evs_cons (ev_var rfl) (evs_cons (ev_var rfl) evs_nil rfl) rfl) (near_g (n := n + 1) h.c20 (by omega) g.nd g.okd hd)) (evs_cons (ev_var rfl) evs_nil rfl) rfl) (clash2_g (n := n + 4) h.c21 he (by omega) g.ok hp hsl))))
theorem missed242_g {B : Tb} {n : Nat} (h : C242 B) {rs : List (Str × Int)} {reach : Int} {s : List Str} {d e : D} (g : Gd rs) (hd : Rws d rs) (he : SomeS e s) (hp : ∀ a ∈ s, a ∈ rs.map (·.1)) : Gives (callF B (n + 6)) 242 [d, .int reach, e] (.tuple ((uncS rs reach s).map fun r => .str r.1)) := by
  have hl := g.len
  exact gives_er h.own (er_expr (ev_call (evs_cons (ev_var rfl) (evs_cons (ev_var rfl) evs_nil rfl) rfl) (check_g (n := n) h.c38 g hd he hp)) (er_ret (ev_call (evs_cons (ev_call (evs_cons (ev_var rfl) (evs_cons (ev_var rfl) evs_nil rfl) rfl) (near_g (n := n + 1) h.c20 (by omega) g.nd g.okd hd)) (evs_cons (ev_var rfl) evs_nil rfl) rfl) (unc2_g (n := n + 4) h.c22 he (by omega) g.ok hp))))
theorem depth_strs (l : List (Str × Int)) : PyData.depthAll (l.map fun r => PyData.str r.1) ≤ 0 := depth_all fun x hx => by
  obtain ⟨a, _, rfl⟩ := List.mem_map.1 hx
  simp [PyData.depth]
theorem due245_g {B : Tb} {n : Nat} (h : C245 B) {rs : List (Str × Int)} {reach : Int} {s : List Str} (g : Gd rs) (hp : ∀ a ∈ s, a ∈ rs.map (·.1)) (hsl : s.length ≤ 100) : Gives (callF B (n + 3)) 245 [.tuple (rs.map rowD), .int reach, tupS s] (.list [firstD (pairsS (nb rs reach) s), .tuple ((uncS rs reach s).map fun r => .str r.1)]) := by
  have hl := g.len
  have oks : ∀ a ∈ s, PyData.strOk a = true := fun a ha => g.okn a (hp a ha)
  have lp := er_loopX (C := callF B (n + 2)) (ρ := [some (.dat (.tuple (rs.map rowD))), some (.dat (.int reach)), some (.dat (tupS s)), some (.dat (.dict (closeD rs reach))), some (.dat (.list [])), none, none, none, none]) (tg := .nm 5) (ik := .ex) (src := [.var 2]) (body := [.asg 4 (.bin .Add (.var 4) (.comp (.tup [.var 5, .var 6]) (.nm 6) .ex [.bi .sorted [.get (.var 3) (.var 5)]] (.and (.cmp .In (.var 6) (.var 2)) (.cmp .Lt (.var 5) (.var 6)))))]) (l := s) (inj := .str)
    (fun k ρ => ∃ v, ρ = [some (.dat (.tuple (rs.map rowD))), some (.dat (.int reach)), some (.dat (tupS s)), some (.dat (.dict (closeD rs reach))), some (.dat (.list ((s.take k).flatMap fun a => ((nb rs reach a).filter fun b => ltS a b && decide (b ∈ s)).map fun b => PyData.tuple [.str a, .str b]))), v, none, none, none]) (evs_cons (ev_var rfl) evs_nil rfl) wd_tm ⟨_, rfl⟩ (by
      rintro k x ρ hx ⟨v, rfl⟩
      have kl := (List.getElem?_eq_some_iff.1 hx).1
      have xs := List.mem_of_getElem? hx
      have xn := hp x xs
      have nl : (nb rs reach x).length ≤ 12 := Nat.le_trans nb_len hl
      have nok : ∀ b ∈ nb rs reach x, PyData.strOk b = true := fun b hb => g.okn b (nb_mem hb)
      refine ⟨_, rfl, _, ⟨some (.dat (.str x)), rfl⟩, ?_⟩
      have so : biD .sorted [.list ((nb rs reach x).map .str)] = some (.list ((nb rs reach x).map .str)) := by
        show sortL _ = _
        rw [sorted_strs (by omega) nok, sortS_id (nb_up g.up) (List.Perm.refl _)]
      have fl : (((s.take k).flatMap fun a => ((nb rs reach a).filter fun b => ltS a b && decide (b ∈ s)).map fun b => PyData.tuple [.str a, .str b])).length ≤ 100 * 12 := by
        refine Nat.le_trans (flat_len (c := 12) _ fun a ha => ?_) (Nat.mul_le_mul_right _ ?_)
        · rw [List.length_map]
          exact Nat.le_trans (List.length_filter_le _ _) (Nat.le_trans nb_len hl)
        · rw [List.length_take]
          omega
      refine er_cast (er_asg (ev_addL (ev_var rfl) (ev_compIf (l := nb rs reach x) (inj := .str) (k := fun b => decide (b ∈ s) && ltS x b) (g := fun b => .tuple [.str x, .str b]) (evs_cons (ev_bi1 (ev_get (ev_var rfl) (ev_var rfl) (get_close xn)) so rfl) evs_nil rfl) (wc wd_lm (by omega)) rfl fun b hb => ⟨_, rfl, ev_andB (ev_cmp (ev_var rfl) (ev_var rfl) (cmp_inT (nok b hb) oks)) fun _ => ev_cmp (ev_var rfl) (ev_var rfl) (cmp_ltS (oks x xs) (nok b hb)), fun _ => ev_tup (evs_cons (ev_var rfl) (evs_cons (ev_var rfl) evs_nil rfl) rfl) (by simp)⟩) ?_) er_nil) ?_
      · have := List.length_filter_le (fun b => decide (b ∈ s) && ltS x b) (nb rs reach x)
        rw [List.length_map]
        omega
      · have ft : s.take (k + 1) = s.take k ++ [x] := by rw [List.take_succ, hx]; rfl
        have fe : (nb rs reach x).filter (fun b => decide (b ∈ s) && ltS x b) = (nb rs reach x).filter fun b => ltS x b && decide (b ∈ s) := by
          congr 1
          funext b
          rw [Bool.and_comm]
        rw [ft, List.flatMap_append, fe]
        simp)
  obtain ⟨ρ', ⟨v, rfl⟩, lp⟩ := lp
  have fs : ∀ r ∈ rs, r.1 ∈ rs.map (·.1) := fun r hr => List.mem_map_of_mem hr
  refine gives_er h.own (er_asg (ev_call (evs_cons (ev_var rfl) (evs_cons (ev_var rfl) evs_nil rfl) rfl) (close_g (n := n + 1) h.c27 rs reach (by omega) g.nd g.ok)) (er_asg (ev_lst evs_nil (by decide)) (lp _ _ ?_)))
  rw [List.take_length]
  have pe : (s.flatMap fun a => ((nb rs reach a).filter fun b => ltS a b && decide (b ∈ s)).map fun b => PyData.tuple [.str a, .str b]) = pairsS (nb rs reach) s := rfl
  rw [pe]
  refine er_asg (ev_compIf (l := rs) (inj := rowD) (k := fun r => (!decide (r.1 ∈ s)) && !((nb rs reach r.1).any fun o => decide (o ∈ s))) (g := fun r => .str r.1) (evs_cons (ev_var rfl) evs_nil rfl) (wc wd_tm (by omega)) rfl fun r hr => ⟨_, rfl, ev_andB (ev_cmp (ev_var rfl) (ev_var rfl) (cmp_ninT (g.ok r hr) oks)) fun _ => Ev.cast (ev_cmp (ev_compIf (l := nb rs reach r.1) (inj := .str) (k := fun b => decide (b ∈ s)) (g := .str) (evs_cons (ev_get (ev_var rfl) (ev_var rfl) (get_close (fs r hr))) evs_nil rfl) (wc wd_lm (Nat.le_trans nb_len (by omega))) rfl fun b hb => ⟨_, rfl, ev_cmp (ev_var rfl) (ev_var rfl) (cmp_inT (g.okn b (nb_mem hb)) oks), fun _ => ev_var rfl⟩) (ev_lst evs_nil (by decide)) (cmp_nilL (shaped_strs (f := fun x => x) fun x hx => g.okn x (nb_mem (List.mem_filter.1 hx).1)))) ?_, fun _ => ev_var rfl⟩) ?_
  · congr 1
    rw [Bool.eq_iff_iff]
    simp
  · have sh : SeqAt.shaped (.list (pairsS (nb rs reach) s)) = true := shaped_list (layAll_of fun x hx => by
        obtain ⟨a, b, rfl, ha, hb⟩ := pairs_mem hx
        simp [PyData.canLay0, PyData.canLayAll0, oks a ha, oks b hb]) (Nat.le_trans (depth_all (k := 1) fun x hx => by
        obtain ⟨a, b, rfl, ha, hb⟩ := pairs_mem hx
        simp [PyData.depth, PyData.depthAll]) (by decide))
    refine er_ret (ev_lst (evs_cons (Ev.cast (ev_iteB (p := !(pairsS (nb rs reach) s).isEmpty) (x := firstD (pairsS (nb rs reach) s)) (y := .none) (ev_cmp (ev_var rfl) (ev_lst evs_nil (by decide)) (cmp_neNil sh)) (fun z => ?_) fun _ => ev_non) ?_) (evs_cons (ev_tupleL (ev_var rfl) rfl) evs_nil rfl) rfl) (by simp))
    · refine ev_get (ev_var rfl) ev_int ?_
      cases hP : pairsS (nb rs reach) s with
      | nil => rw [hP] at z; cases z
      | cons x xs => exact get_l0
    · cases pairsS (nb rs reach) s <;> rfl
namespace K19
theorem case_ok {n : Nat} {τ : List D} {m : Nat} (hb : Bx τ m) (hm : m < 2 ^ 50) : Ok (callF B (n + 12) 247 []) τ fun d τ' => d = .bool true ∧ ∃ m', Bx τ' m' ∧ m' ≤ m + 30 := by
  rw [ok_is c247.own rfl]
  rw [show b247_case_right = .par [(1, false), (2, false)] [.callT 11 0 [.int 8, .int 14], .callT 7 0 [.int 6]] :: b247_case_right.drop 1 from rfl]
  rw [okS_cons, okS_par]
  simp
  refine (goods_g (n := n + 9) (many := 8) (top := 14) c11 hb (by omega) (by decide) (by decide) (by decide)).mono fun g τ1 q => ?_
  obtain ⟨rs, rfl, dr, m1, b1, h1⟩ := q
  refine (take_g (n := n + 10) c7 b1 (by omega) (by decide) (by decide)).mono fun w τ2 q => ?_
  obtain ⟨w, rfl, hw, b2⟩ := q
  have g := dr.gd (by decide)
  have h8 := dr.2.1
  rw [show b247_case_right.tail = .asg 3 (.bi .tuple [.comp (.get (.var 4) (.int 0)) (.nm 4) .ex [.var 1] (.cmp .Eq (.callT 7 0 [.int 3]) (.int 0))]) :: b247_case_right.drop 2 from rfl]
  rw [okS_cons, okS_asg]
  simp
  refine ⟨_, wc wd_tm (by omega), ?_⟩
  refine (lot_c (N := 2 ^ 51) rs τ2 (m1 + 1) (fun r hr τ m hb hm => ?_) b2 (by omega)).mono fun ys τ3 q => ?_
  · simp
    refine (take_g (n := n + 10) c7 hb (by omega) (by decide) (by decide)).mono fun k τ' q => ?_
    obtain ⟨k, rfl, hk, b'⟩ := q
    refine ⟨_, cmpD_eqI, ?_⟩
    by_cases e : (k : Int) = 0
    · exact .inr ⟨by simp [truD, e], _, get_t0, rfl, b'⟩
    · exact .inl ⟨by simp [truD]; omega, b'⟩
  obtain ⟨s, rfl, hs, m3, b3, h3⟩ := q
  have sl : s.length ≤ 8 := Nat.le_trans hs.length_le (by rw [List.length_map]; exact h8)
  have sp : ∀ a ∈ s, a ∈ rs.map (·.1) := fun a ha => hs.subset ha
  have su : upS s = true := upS_sub g.up hs
  have pg : ∀ d e, Rws d rs → SomeS e s → Gives (callF B (n + 11)) 241 [d, .int (w : Int), e] (firstD (pairsS (nb rs w) s)) := fun d e hd he => by
    have := pair241_g (n := n + 5) c241 (reach := (w : Int)) g hd he sp (by omega)
    rw [clash_first g.up su] at this
    unfold firstD
    exact this
  have mg : ∀ d e, Rws d rs → SomeS e s → Gives (callF B (n + 11)) 242 [d, .int (w : Int), e] (.tuple ((uncS rs w s).map fun r => .str r.1)) := fun d e hd he => missed242_g (n := n + 5) c242 (reach := (w : Int)) g hd he sp
  refine Er.ok (o := .rt (.bool true)) ?_ ⟨_, rfl, rfl, _, b3, by omega⟩
  refine er_asg (ev_call (evs_cons (ev_var rfl) (evs_cons (ev_var rfl) (evs_cons (ev_var rfl) evs_nil rfl) rfl) rfl) (due245_g (n := n + 8) c245 (reach := (w : Int)) g sp (by omega))) ?_
  refine er_asg (ev_lst (evs_cons (ev_call (evs_cons (ev_var rfl) (evs_cons (ev_var rfl) (evs_cons (ev_var rfl) evs_nil rfl) rfl) rfl) (pg _ _ (.inl rfl) (.inl rfl))) (evs_cons (ev_call (evs_cons (ev_var rfl) (evs_cons (ev_var rfl) (evs_cons (ev_var rfl) evs_nil rfl) rfl) rfl) (mg _ _ (.inl rfl) (.inl rfl))) evs_nil rfl) rfl) (by simp)) ?_
  have gl := g.lists (n := n + 8) c26
  refine er_asg (ev_addL (ev_var rfl) (ev_lst (evs_cons (ev_call (evs_cons (ev_call (evs_cons (ev_var rfl) evs_nil rfl) gl) (evs_cons (ev_var rfl) (evs_cons (ev_bi1 (ev_var rfl) biD_listT rfl) evs_nil rfl) rfl) rfl) (pg _ _ (.inr rfl) (.inr rfl))) (evs_cons (ev_call (evs_cons (ev_call (evs_cons (ev_var rfl) evs_nil rfl) gl) (evs_cons (ev_var rfl) (evs_cons (ev_bi1 (ev_var rfl) biD_listT rfl) evs_nil rfl) rfl) rfl) (mg _ _ (.inr rfl) (.inr rfl))) evs_nil rfl) rfl) (by simp)) (by simp)) ?_
  refine er_ret (ev_call (evs_cons (ev_var rfl) (evs_cons (ev_bin (ev_var rfl) ev_int (twiceL (by simp))) evs_nil rfl) rfl) ?_)
  refine same_g c10 ?_ ?_
  · rcases firstD_mem (xs := pairsS (nb rs w) s) with e | e
    · rw [e]
      have := depth_strs (uncS rs (w : Int) s)
      simp only [List.cons_append, List.nil_append, PyData.depth, PyData.depthAll]
      omega
    · obtain ⟨a, b, e2, _, _⟩ := pairs_mem e
      rw [e2]
      have := depth_strs (uncS rs (w : Int) s)
      simp only [List.cons_append, List.nil_append, PyData.depth, PyData.depthAll]
      omega
  · have ul : (uncS rs (w : Int) s).length ≤ 8 := Nat.le_trans (List.length_filter_le _ _) h8
    have uo : okDs ((uncS rs (w : Int) s).map fun r => PyData.str r.1) = true := okDs_all fun x hx => by
      obtain ⟨r, hr, rfl⟩ := List.mem_map.1 hx
      exact g.okd r (List.mem_filter.1 hr).1
    have so : ∀ a ∈ s, okD (.str a) = true := fun a ha => by
      obtain ⟨r, hr, rfl⟩ := List.mem_map.1 (sp a ha)
      exact g.okd r hr
    have of : okD (firstD (pairsS (nb rs w) s)) = true := by
      rcases firstD_mem (xs := pairsS (nb rs w) s) with e | e
      · rw [e]
        rfl
      · obtain ⟨a, b, e2, ha, hb⟩ := pairs_mem e
        rw [e2]
        have o1 := so a ha
        have o2 := so b hb
        generalize PyData.str a = x at o1
        generalize PyData.str b = y at o2
        simp [okD, okDs, o1, o2]
    generalize firstD (pairsS (nb rs w) s) = x at of
    simp [okD, okDs, uo, of]
    omega
theorem right_ok {n : Nat} {τ : List D} (hb : Bx τ 0) : Ok (callF B (n + 13) 248 []) τ fun d _ => d = .bool true := by
  rw [ok_is c248.own rfl]
  simp [b248_right]
  refine ⟨_, wc (wd_rangeI (by decide) (by decide)) (by decide), ?_⟩
  refine ok_comp0 (fun items ys τ => (∀ y ∈ ys, y = PyData.bool true) ∧ ∃ m, Bx τ m ∧ m + 30 * items.length ≤ 600) ?_ ?_ _ _ ⟨by simp, 0, hb, by simp⟩
  · rintro d r ys τ ⟨h1, m, hb, hm⟩
    simp only [List.length_cons] at hm
    simp
    refine (case_ok (n := n) hb (by omega)).mono fun d τ' q => ?_
    obtain ⟨rfl, m', b', hm'⟩ := q
    refine ⟨fun y hy => ?_, m', b', by omega⟩
    rcases hy with hy | hy
    · exact h1 y hy
    · exact hy
  · rintro ys τ ⟨h1, _⟩
    exact all_true h1
theorem hand : Gives (callF B 20) 246 [] (.bool true) := gives_run (by decide +kernel)
theorem law_gives {xs : List Int} (hl : xs.length ≤ 63) : Gives (callF B 21) 249 [.list (xs.map .int)] (.bool true) :=
  law_ok (n := 19) (f := 249) (hd := 246) (cl := 8) (s := 3) (rt := 248) (bx := 243) (z := 1268) c249.own c8.own c243.own (by decide) (by decide) hand (fun τ hb => right_ok (n := 7) hb) hl
end K19
end KN

set_option maxRecDepth 100000
set_option maxHeartbeats 4000000
namespace KN
open PySem L2 PyProof.Rows
namespace K19
def topS (i : Nat) : Stmt := PySem.Challenge.pw_keptnear_k19_what_hinders.main.body.getD i (.Pass ⟨0, 0, 0, 0⟩)
def sts : List Stmt := [topS 3, topS 5, topS 6, topS 7, topS 9, topS 10, topS 11, topS 12, topS 14, topS 15, topS 16, topS 17, topS 18, topS 19, topS 20, topS 21, topS 22, topS 23, topS 24, topS 25, topS 26, topS 27]
theorem text_ok : textOk T B gl kw xs T sts = true := by decide +kernel
def iniS (i : Nat) : Stmt := (cBody (topS i)).getD 0 (.Pass ⟨0, 0, 0, 0⟩)
theorem hx0 {cc : Addr} (kV dc pm : Value) (an : Option Addr) (cd ct : Value) (u v : Value) : bindArgs (PySem.W.ksFn "__init__" "NoName.__init__" (defArgs (iniS 1)) (defBody (iniS 1)) (defScope (iniS 1)) .none kV dc pm an cd ct cc) ⟨[u, v], []⟩ = pure ([(("self" : Str), u), (("name" : Str), v)] : List (Str × Value)) := rfl
theorem hb0 (kV dc pm : Value) (an : Option Addr) (cd ct : Value) (us : List Value) (hl : us.length = 1) : bindArgs (PySem.W.fnOf "tupled" "tupled" (defArgs (topS 3)) (defBody (topS 3)) (defScope (topS 3)) .none kV dc pm an cd ct) ⟨us, []⟩ = pure (List.zip (["thing"] : List Str) us) := match us, hl with | [_], _ => rfl
theorem hw0 {K : PySem.W.Frag} {kV dc pm : Value} {an : Option Addr} {cd ct : Value} (p : Kw) (hp : p ∈ kw) (he : p.f = 18) : KBinds K (PySem.W.fnOf "tupled" "tupled" (defArgs (topS 3)) (defBody (topS 3)) (defScope (topS 3)) .none kV dc pm an cd ct) ["thing"] p.ks (gP p) (gP p) := by
  simp only [kw, List.mem_cons, List.not_mem_nil, or_false] at hp
  rcases hp with rfl | rfl
  · cases he
  · cases he
theorem hb1 (kV dc pm : Value) (an : Option Addr) (cd ct : Value) (us : List Value) (hl : us.length = 1) : bindArgs (PySem.W.fnOf "names_of" "names_of" (defArgs (topS 5)) (defBody (topS 5)) (defScope (topS 5)) .none kV dc pm an cd ct) ⟨us, []⟩ = pure (List.zip (["records"] : List Str) us) := match us, hl with | [_], _ => rfl
theorem hw1 {K : PySem.W.Frag} {kV dc pm : Value} {an : Option Addr} {cd ct : Value} (p : Kw) (hp : p ∈ kw) (he : p.f = 37) : KBinds K (PySem.W.fnOf "names_of" "names_of" (defArgs (topS 5)) (defBody (topS 5)) (defScope (topS 5)) .none kV dc pm an cd ct) ["records"] p.ks (gP p) (gP p) := by
  simp only [kw, List.mem_cons, List.not_mem_nil, or_false] at hp
  rcases hp with rfl | rfl
  · cases he
  · cases he
theorem hb2 (kV dc pm : Value) (an : Option Addr) (cd ct : Value) (us : List Value) (hl : us.length = 2) : bindArgs (PySem.W.fnOf "check_names" "check_names" (defArgs (topS 6)) (defBody (topS 6)) (defScope (topS 6)) .none kV dc pm an cd ct) ⟨us, []⟩ = pure (List.zip (["records", "wanted"] : List Str) us) := match us, hl with | [_, _], _ => rfl
theorem hw2 {K : PySem.W.Frag} {kV dc pm : Value} {an : Option Addr} {cd ct : Value} (p : Kw) (hp : p ∈ kw) (he : p.f = 38) : KBinds K (PySem.W.fnOf "check_names" "check_names" (defArgs (topS 6)) (defBody (topS 6)) (defScope (topS 6)) .none kV dc pm an cd ct) ["records", "wanted"] p.ks (gP p) (gP p) := by
  simp only [kw, List.mem_cons, List.not_mem_nil, or_false] at hp
  rcases hp with rfl | rfl
  · cases he
  · cases he
theorem hb3 (kV dc pm : Value) (an : Option Addr) (cd ct : Value) (us : List Value) (hl : us.length = 2) : bindArgs (PySem.W.fnOf "near_table" "near_table" (defArgs (topS 7)) (defBody (topS 7)) (defScope (topS 7)) .none kV dc pm an cd ct) ⟨us, []⟩ = pure (List.zip (["records", "span"] : List Str) us) := match us, hl with | [_, _], _ => rfl
theorem hw3 {K : PySem.W.Frag} {kV dc pm : Value} {an : Option Addr} {cd ct : Value} (p : Kw) (hp : p ∈ kw) (he : p.f = 20) : KBinds K (PySem.W.fnOf "near_table" "near_table" (defArgs (topS 7)) (defBody (topS 7)) (defScope (topS 7)) .none kV dc pm an cd ct) ["records", "span"] p.ks (gP p) (gP p) := by
  simp only [kw, List.mem_cons, List.not_mem_nil, or_false] at hp
  rcases hp with rfl | rfl
  · cases he
  · cases he
theorem hb4 (kV dc pm : Value) (an : Option Addr) (cd ct : Value) (us : List Value) (hl : us.length = 2) : bindArgs (PySem.W.fnOf "clash" "clash" (defArgs (topS 9)) (defBody (topS 9)) (defScope (topS 9)) .none kV dc pm an cd ct) ⟨us, []⟩ = pure (List.zip (["table", "some"] : List Str) us) := match us, hl with | [_, _], _ => rfl
theorem hw4 {K : PySem.W.Frag} {kV dc pm : Value} {an : Option Addr} {cd ct : Value} (p : Kw) (hp : p ∈ kw) (he : p.f = 21) : KBinds K (PySem.W.fnOf "clash" "clash" (defArgs (topS 9)) (defBody (topS 9)) (defScope (topS 9)) .none kV dc pm an cd ct) ["table", "some"] p.ks (gP p) (gP p) := by
  simp only [kw, List.mem_cons, List.not_mem_nil, or_false] at hp
  rcases hp with rfl | rfl
  · cases he
  · cases he
theorem hb5 (kV dc pm : Value) (an : Option Addr) (cd ct : Value) (us : List Value) (hl : us.length = 2) : bindArgs (PySem.W.fnOf "uncovered" "uncovered" (defArgs (topS 10)) (defBody (topS 10)) (defScope (topS 10)) .none kV dc pm an cd ct) ⟨us, []⟩ = pure (List.zip (["table", "some"] : List Str) us) := match us, hl with | [_, _], _ => rfl
theorem hw5 {K : PySem.W.Frag} {kV dc pm : Value} {an : Option Addr} {cd ct : Value} (p : Kw) (hp : p ∈ kw) (he : p.f = 22) : KBinds K (PySem.W.fnOf "uncovered" "uncovered" (defArgs (topS 10)) (defBody (topS 10)) (defScope (topS 10)) .none kV dc pm an cd ct) ["table", "some"] p.ks (gP p) (gP p) := by
  simp only [kw, List.mem_cons, List.not_mem_nil, or_false] at hp
  rcases hp with rfl | rfl
  · cases he
  · cases he
theorem hb6 (kV dc pm : Value) (an : Option Addr) (cd ct : Value) (us : List Value) (hl : us.length = 3) : bindArgs (PySem.W.fnOf "near_pair" "near_pair" (defArgs (topS 11)) (defBody (topS 11)) (defScope (topS 11)) .none kV dc pm an cd ct) ⟨us, []⟩ = pure (List.zip (["records", "span", "some"] : List Str) us) := match us, hl with | [_, _, _], _ => rfl
theorem hw6 {K : PySem.W.Frag} {kV dc pm : Value} {an : Option Addr} {cd ct : Value} (p : Kw) (hp : p ∈ kw) (he : p.f = 241) : KBinds K (PySem.W.fnOf "near_pair" "near_pair" (defArgs (topS 11)) (defBody (topS 11)) (defScope (topS 11)) .none kV dc pm an cd ct) ["records", "span", "some"] p.ks (gP p) (gP p) := by
  simp only [kw, List.mem_cons, List.not_mem_nil, or_false] at hp
  rcases hp with rfl | rfl
  · exact kw_of (fun s us ws h1 h2 => match us, h1, ws, h2 with | [], _, [_, _, _], _ => .of_eq rfl) (by decide)
  · cases he
theorem hb7 (kV dc pm : Value) (an : Option Addr) (cd ct : Value) (us : List Value) (hl : us.length = 3) : bindArgs (PySem.W.fnOf "missed" "missed" (defArgs (topS 12)) (defBody (topS 12)) (defScope (topS 12)) .none kV dc pm an cd ct) ⟨us, []⟩ = pure (List.zip (["records", "span", "some"] : List Str) us) := match us, hl with | [_, _, _], _ => rfl
theorem hw7 {K : PySem.W.Frag} {kV dc pm : Value} {an : Option Addr} {cd ct : Value} (p : Kw) (hp : p ∈ kw) (he : p.f = 242) : KBinds K (PySem.W.fnOf "missed" "missed" (defArgs (topS 12)) (defBody (topS 12)) (defScope (topS 12)) .none kV dc pm an cd ct) ["records", "span", "some"] p.ks (gP p) (gP p) := by
  simp only [kw, List.mem_cons, List.not_mem_nil, or_false] at hp
  rcases hp with rfl | rfl
  · cases he
  · exact kw_of (fun s us ws h1 h2 => match us, h1, ws, h2 with | [], _, [_, _, _], _ => .of_eq rfl) (by decide)
theorem hb8 (kV dc pm : Value) (an : Option Addr) (cd ct : Value) (us : List Value) (hl : us.length = 2) : bindArgs (PySem.W.fnOf "_law_box" "_law_box" (defArgs (topS 14)) (defBody (topS 14)) (defScope (topS 14)) .none kV dc pm an cd ct) ⟨us, []⟩ = pure (List.zip (["_law_script", "_law_k"] : List Str) us) := match us, hl with | [_, _], _ => rfl
theorem hw8 {K : PySem.W.Frag} {kV dc pm : Value} {an : Option Addr} {cd ct : Value} (p : Kw) (hp : p ∈ kw) (he : p.f = 243) : KBinds K (PySem.W.fnOf "_law_box" "_law_box" (defArgs (topS 14)) (defBody (topS 14)) (defScope (topS 14)) .none kV dc pm an cd ct) ["_law_script", "_law_k"] p.ks (gP p) (gP p) := by
  simp only [kw, List.mem_cons, List.not_mem_nil, or_false] at hp
  rcases hp with rfl | rfl
  · cases he
  · cases he
theorem hb9 (kV dc pm : Value) (an : Option Addr) (cd ct : Value) (us : List Value) (hl : us.length = 2) : bindArgs (PySem.W.fnOf "_law_take" "_law_take" (defArgs (topS 15)) (defBody (topS 15)) (defScope (topS 15)) .none kV dc pm an cd ct) ⟨us, []⟩ = pure (List.zip (["_law_tin", "_law_top_so"] : List Str) us) := match us, hl with | [_, _], _ => rfl
theorem hw9 {K : PySem.W.Frag} {kV dc pm : Value} {an : Option Addr} {cd ct : Value} (p : Kw) (hp : p ∈ kw) (he : p.f = 7) : KBinds K (PySem.W.fnOf "_law_take" "_law_take" (defArgs (topS 15)) (defBody (topS 15)) (defScope (topS 15)) .none kV dc pm an cd ct) ["_law_tin", "_law_top_so"] p.ks (gP p) (gP p) := by
  simp only [kw, List.mem_cons, List.not_mem_nil, or_false] at hp
  rcases hp with rfl | rfl
  · cases he
  · cases he
theorem hb10 (kV dc pm : Value) (an : Option Addr) (cd ct : Value) (us : List Value) (hl : us.length = 2) : bindArgs (PySem.W.fnOf "_law_cells" "_law_cells" (defArgs (topS 16)) (defBody (topS 16)) (defScope (topS 16)) .none kV dc pm an cd ct) ⟨us, []⟩ = pure (List.zip (["_law_script", "_law_most"] : List Str) us) := match us, hl with | [_, _], _ => rfl
theorem hw10 {K : PySem.W.Frag} {kV dc pm : Value} {an : Option Addr} {cd ct : Value} (p : Kw) (hp : p ∈ kw) (he : p.f = 8) : KBinds K (PySem.W.fnOf "_law_cells" "_law_cells" (defArgs (topS 16)) (defBody (topS 16)) (defScope (topS 16)) .none kV dc pm an cd ct) ["_law_script", "_law_most"] p.ks (gP p) (gP p) := by
  simp only [kw, List.mem_cons, List.not_mem_nil, or_false] at hp
  rcases hp with rfl | rfl
  · cases he
  · cases he
theorem hb11 (kV dc pm : Value) (an : Option Addr) (cd ct : Value) (us : List Value) (hl : us.length = 1) : bindArgs (PySem.W.fnOf "_law_lists" "_law_lists" (defArgs (topS 17)) (defBody (topS 17)) (defScope (topS 17)) .none kV dc pm an cd ct) ⟨us, []⟩ = pure (List.zip (["_law_matter"] : List Str) us) := match us, hl with | [_], _ => rfl
theorem hw11 {K : PySem.W.Frag} {kV dc pm : Value} {an : Option Addr} {cd ct : Value} (p : Kw) (hp : p ∈ kw) (he : p.f = 26) : KBinds K (PySem.W.fnOf "_law_lists" "_law_lists" (defArgs (topS 17)) (defBody (topS 17)) (defScope (topS 17)) .none kV dc pm an cd ct) ["_law_matter"] p.ks (gP p) (gP p) := by
  simp only [kw, List.mem_cons, List.not_mem_nil, or_false] at hp
  rcases hp with rfl | rfl
  · cases he
  · cases he
theorem hb12 (kV dc pm : Value) (an : Option Addr) (cd ct : Value) (us : List Value) (hl : us.length = 2) : bindArgs (PySem.W.fnOf "_law_same" "_law_same" (defArgs (topS 18)) (defBody (topS 18)) (defScope (topS 18)) .none kV dc pm an cd ct) ⟨us, []⟩ = pure (List.zip (["_law_got", "_law_due_here"] : List Str) us) := match us, hl with | [_, _], _ => rfl
theorem hw12 {K : PySem.W.Frag} {kV dc pm : Value} {an : Option Addr} {cd ct : Value} (p : Kw) (hp : p ∈ kw) (he : p.f = 10) : KBinds K (PySem.W.fnOf "_law_same" "_law_same" (defArgs (topS 18)) (defBody (topS 18)) (defScope (topS 18)) .none kV dc pm an cd ct) ["_law_got", "_law_due_here"] p.ks (gP p) (gP p) := by
  simp only [kw, List.mem_cons, List.not_mem_nil, or_false] at hp
  rcases hp with rfl | rfl
  · cases he
  · cases he
theorem hb13 (kV dc pm : Value) (an : Option Addr) (cd ct : Value) (us : List Value) (hl : us.length = 3) : bindArgs (PySem.W.fnOf "_law_goods" "_law_goods" (defArgs (topS 19)) (defBody (topS 19)) (defScope (topS 19)) .none kV dc pm an cd ct) ⟨us, []⟩ = pure (List.zip (["_law_tin", "_law_many", "_law_top"] : List Str) us) := match us, hl with | [_, _, _], _ => rfl
theorem hw13 {K : PySem.W.Frag} {kV dc pm : Value} {an : Option Addr} {cd ct : Value} (p : Kw) (hp : p ∈ kw) (he : p.f = 11) : KBinds K (PySem.W.fnOf "_law_goods" "_law_goods" (defArgs (topS 19)) (defBody (topS 19)) (defScope (topS 19)) .none kV dc pm an cd ct) ["_law_tin", "_law_many", "_law_top"] p.ks (gP p) (gP p) := by
  simp only [kw, List.mem_cons, List.not_mem_nil, or_false] at hp
  rcases hp with rfl | rfl
  · cases he
  · cases he
theorem hb14 (kV dc pm : Value) (an : Option Addr) (cd ct : Value) (us : List Value) (hl : us.length = 2) : bindArgs (PySem.W.fnOf "_law_close" "_law_close" (defArgs (topS 20)) (defBody (topS 20)) (defScope (topS 20)) .none kV dc pm an cd ct) ⟨us, []⟩ = pure (List.zip (["_law_goods_here", "_law_reach"] : List Str) us) := match us, hl with | [_, _], _ => rfl
theorem hw14 {K : PySem.W.Frag} {kV dc pm : Value} {an : Option Addr} {cd ct : Value} (p : Kw) (hp : p ∈ kw) (he : p.f = 27) : KBinds K (PySem.W.fnOf "_law_close" "_law_close" (defArgs (topS 20)) (defBody (topS 20)) (defScope (topS 20)) .none kV dc pm an cd ct) ["_law_goods_here", "_law_reach"] p.ks (gP p) (gP p) := by
  simp only [kw, List.mem_cons, List.not_mem_nil, or_false] at hp
  rcases hp with rfl | rfl
  · cases he
  · cases he
theorem hb15 (kV dc pm : Value) (an : Option Addr) (cd ct : Value) (us : List Value) (hl : us.length = 0) : bindArgs (PySem.W.fnOf "_law_text" "_law_text" (defArgs (topS 21)) (defBody (topS 21)) (defScope (topS 21)) .none kV dc pm an cd ct) ⟨us, []⟩ = pure (List.zip ([] : List Str) us) := match us, hl with | [], _ => rfl
theorem hw15 {K : PySem.W.Frag} {kV dc pm : Value} {an : Option Addr} {cd ct : Value} (p : Kw) (hp : p ∈ kw) (he : p.f = 31) : KBinds K (PySem.W.fnOf "_law_text" "_law_text" (defArgs (topS 21)) (defBody (topS 21)) (defScope (topS 21)) .none kV dc pm an cd ct) [] p.ks (gP p) (gP p) := by
  simp only [kw, List.mem_cons, List.not_mem_nil, or_false] at hp
  rcases hp with rfl | rfl
  · cases he
  · cases he
theorem hb16 (kV dc pm : Value) (an : Option Addr) (cd ct : Value) (us : List Value) (hl : us.length = 4) : bindArgs (PySem.W.fnOf "_law_heard" "_law_heard" (defArgs (topS 22)) (defBody (topS 22)) (defScope (topS 22)) .none kV dc pm an cd ct) ⟨us, []⟩ = pure (List.zip (["_law_door", "_law_goods_here", "_law_reach", "_law_lot"] : List Str) us) := match us, hl with | [_, _, _, _], _ => rfl
theorem hw16 {K : PySem.W.Frag} {kV dc pm : Value} {an : Option Addr} {cd ct : Value} (p : Kw) (hp : p ∈ kw) (he : p.f = 244) : KBinds K (PySem.W.fnOf "_law_heard" "_law_heard" (defArgs (topS 22)) (defBody (topS 22)) (defScope (topS 22)) .none kV dc pm an cd ct) ["_law_door", "_law_goods_here", "_law_reach", "_law_lot"] p.ks (gP p) (gP p) := by
  simp only [kw, List.mem_cons, List.not_mem_nil, or_false] at hp
  rcases hp with rfl | rfl
  · cases he
  · cases he
theorem hb17 (kV dc pm : Value) (an : Option Addr) (cd ct : Value) (us : List Value) (hl : us.length = 3) : bindArgs (PySem.W.fnOf "_law_due" "_law_due" (defArgs (topS 23)) (defBody (topS 23)) (defScope (topS 23)) .none kV dc pm an cd ct) ⟨us, []⟩ = pure (List.zip (["_law_goods_here", "_law_reach", "_law_lot"] : List Str) us) := match us, hl with | [_, _, _], _ => rfl
theorem hw17 {K : PySem.W.Frag} {kV dc pm : Value} {an : Option Addr} {cd ct : Value} (p : Kw) (hp : p ∈ kw) (he : p.f = 245) : KBinds K (PySem.W.fnOf "_law_due" "_law_due" (defArgs (topS 23)) (defBody (topS 23)) (defScope (topS 23)) .none kV dc pm an cd ct) ["_law_goods_here", "_law_reach", "_law_lot"] p.ks (gP p) (gP p) := by
  simp only [kw, List.mem_cons, List.not_mem_nil, or_false] at hp
  rcases hp with rfl | rfl
  · cases he
  · cases he
theorem hb18 (kV dc pm : Value) (an : Option Addr) (cd ct : Value) (us : List Value) (hl : us.length = 0) : bindArgs (PySem.W.fnOf "_law_hand_right" "_law_hand_right" (defArgs (topS 24)) (defBody (topS 24)) (defScope (topS 24)) .none kV dc pm an cd ct) ⟨us, []⟩ = pure (List.zip ([] : List Str) us) := match us, hl with | [], _ => rfl
theorem hw18 {K : PySem.W.Frag} {kV dc pm : Value} {an : Option Addr} {cd ct : Value} (p : Kw) (hp : p ∈ kw) (he : p.f = 246) : KBinds K (PySem.W.fnOf "_law_hand_right" "_law_hand_right" (defArgs (topS 24)) (defBody (topS 24)) (defScope (topS 24)) .none kV dc pm an cd ct) [] p.ks (gP p) (gP p) := by
  simp only [kw, List.mem_cons, List.not_mem_nil, or_false] at hp
  rcases hp with rfl | rfl
  · cases he
  · cases he
theorem hb19 (kV dc pm : Value) (an : Option Addr) (cd ct : Value) (us : List Value) (hl : us.length = 1) : bindArgs (PySem.W.fnOf "_law_case_right" "_law_case_right" (defArgs (topS 25)) (defBody (topS 25)) (defScope (topS 25)) .none kV dc pm an cd ct) ⟨us, []⟩ = pure (List.zip (["_law_tin"] : List Str) us) := match us, hl with | [_], _ => rfl
theorem hw19 {K : PySem.W.Frag} {kV dc pm : Value} {an : Option Addr} {cd ct : Value} (p : Kw) (hp : p ∈ kw) (he : p.f = 247) : KBinds K (PySem.W.fnOf "_law_case_right" "_law_case_right" (defArgs (topS 25)) (defBody (topS 25)) (defScope (topS 25)) .none kV dc pm an cd ct) ["_law_tin"] p.ks (gP p) (gP p) := by
  simp only [kw, List.mem_cons, List.not_mem_nil, or_false] at hp
  rcases hp with rfl | rfl
  · cases he
  · cases he
theorem hb20 (kV dc pm : Value) (an : Option Addr) (cd ct : Value) (us : List Value) (hl : us.length = 1) : bindArgs (PySem.W.fnOf "_law_right" "_law_right" (defArgs (topS 26)) (defBody (topS 26)) (defScope (topS 26)) .none kV dc pm an cd ct) ⟨us, []⟩ = pure (List.zip (["_law_tin"] : List Str) us) := match us, hl with | [_], _ => rfl
theorem hw20 {K : PySem.W.Frag} {kV dc pm : Value} {an : Option Addr} {cd ct : Value} (p : Kw) (hp : p ∈ kw) (he : p.f = 248) : KBinds K (PySem.W.fnOf "_law_right" "_law_right" (defArgs (topS 26)) (defBody (topS 26)) (defScope (topS 26)) .none kV dc pm an cd ct) ["_law_tin"] p.ks (gP p) (gP p) := by
  simp only [kw, List.mem_cons, List.not_mem_nil, or_false] at hp
  rcases hp with rfl | rfl
  · cases he
  · cases he
theorem hb21 (kV dc pm : Value) (an : Option Addr) (cd ct : Value) (us : List Value) (hl : us.length = 1) : bindArgs (PySem.W.fnOf "law" "law" (defArgs (topS 27)) (defBody (topS 27)) (defScope (topS 27)) .none kV dc pm an cd ct) ⟨us, []⟩ = pure (List.zip (["_law_script"] : List Str) us) := match us, hl with | [_], _ => rfl
theorem hw21 {K : PySem.W.Frag} {kV dc pm : Value} {an : Option Addr} {cd ct : Value} (p : Kw) (hp : p ∈ kw) (he : p.f = 249) : KBinds K (PySem.W.fnOf "law" "law" (defArgs (topS 27)) (defBody (topS 27)) (defScope (topS 27)) .none kV dc pm an cd ct) ["_law_script"] p.ks (gP p) (gP p) := by
  simp only [kw, List.mem_cons, List.not_mem_nil, or_false] at hp
  rcases hp with rfl | rfl
  · cases he
  · cases he
theorem all_mk {l : PySem.W.OpenLaw} {w : World} {K : PySem.W.Frag} {h : Heap} {mg : Str → Option Value} {fa f0 f1 f2 f3 f4 f5 f6 f7 f8 f9 f10 f11 f12 f13 f14 f15 f16 f17 f18 f19 f20 f21 : Addr} (X : K.In h) (G : h.Ns mainGlobals mg) (hfa : mg "law" = some (.ref fa))
    {od0 an0 od1 an1 od2 an2 od3 an3 od4 an4 od5 an5 od6 an6 od7 an7 od8 an8 od9 an9 od10 an10 od11 an11 od12 an12 od13 an13 od14 an14 od15 an15 od16 an16 od17 an17 od18 an18 od19 an19 od20 an20 od21 an21 : Option Addr} {sl0 sl1 sl2 sl3 sl4 sl5 sl6 sl7 sl8 sl9 sl10 sl11 sl12 sl13 sl14 sl15 sl16 sl17 sl18 sl19 sl20 sl21 : Array (Option Value)} {oc0 kV0 dc0 pm0 cd0 ct0 oc1 kV1 dc1 pm1 cd1 ct1 oc2 kV2 dc2 pm2 cd2 ct2 oc3 kV3 dc3 pm3 cd3 ct3 oc4 kV4 dc4 pm4 cd4 ct4 oc5 kV5 dc5 pm5 cd5 ct5 oc6 kV6 dc6 pm6 cd6 ct6 oc7 kV7 dc7 pm7 cd7 ct7 oc8 kV8 dc8 pm8 cd8 ct8 oc9 kV9 dc9 pm9 cd9 ct9 oc10 kV10 dc10 pm10 cd10 ct10 oc11 kV11 dc11 pm11 cd11 ct11 oc12 kV12 dc12 pm12 cd12 ct12 oc13 kV13 dc13 pm13 cd13 ct13 oc14 kV14 dc14 pm14 cd14 ct14 oc15 kV15 dc15 pm15 cd15 ct15 oc16 kV16 dc16 pm16 cd16 ct16 oc17 kV17 dc17 pm17 cd17 ct17 oc18 kV18 dc18 pm18 cd18 ct18 oc19 kV19 dc19 pm19 cd19 ct19 oc20 kV20 dc20 pm20 cd20 ct20 oc21 kV21 dc21 pm21 cd21 ct21 : Value}
    (a0 : PySem.W.nsIn K mainGlobals "tupled" = some (some (.ref f0))) (l0 : K.lookup f0 = some ⟨oc0, od0, .func (PySem.W.fnOf "tupled" "tupled" (defArgs (topS 3)) (defBody (topS 3)) (defScope (topS 3)) .none kV0 dc0 pm0 an0 cd0 ct0), sl0⟩) (c0 : PySem.W.codeIn K cd0 "tupled" = true) (k0 : PySem.W.keepIn K (.ref f0) = true)
    (a1 : PySem.W.nsIn K mainGlobals "names_of" = some (some (.ref f1))) (l1 : K.lookup f1 = some ⟨oc1, od1, .func (PySem.W.fnOf "names_of" "names_of" (defArgs (topS 5)) (defBody (topS 5)) (defScope (topS 5)) .none kV1 dc1 pm1 an1 cd1 ct1), sl1⟩) (c1 : PySem.W.codeIn K cd1 "names_of" = true) (k1 : PySem.W.keepIn K (.ref f1) = true)
    (a2 : PySem.W.nsIn K mainGlobals "check_names" = some (some (.ref f2))) (l2 : K.lookup f2 = some ⟨oc2, od2, .func (PySem.W.fnOf "check_names" "check_names" (defArgs (topS 6)) (defBody (topS 6)) (defScope (topS 6)) .none kV2 dc2 pm2 an2 cd2 ct2), sl2⟩) (c2 : PySem.W.codeIn K cd2 "check_names" = true) (k2 : PySem.W.keepIn K (.ref f2) = true)
    (a3 : PySem.W.nsIn K mainGlobals "near_table" = some (some (.ref f3))) (l3 : K.lookup f3 = some ⟨oc3, od3, .func (PySem.W.fnOf "near_table" "near_table" (defArgs (topS 7)) (defBody (topS 7)) (defScope (topS 7)) .none kV3 dc3 pm3 an3 cd3 ct3), sl3⟩) (c3 : PySem.W.codeIn K cd3 "near_table" = true) (k3 : PySem.W.keepIn K (.ref f3) = true)
    (a4 : PySem.W.nsIn K mainGlobals "clash" = some (some (.ref f4))) (l4 : K.lookup f4 = some ⟨oc4, od4, .func (PySem.W.fnOf "clash" "clash" (defArgs (topS 9)) (defBody (topS 9)) (defScope (topS 9)) .none kV4 dc4 pm4 an4 cd4 ct4), sl4⟩) (c4 : PySem.W.codeIn K cd4 "clash" = true) (k4 : PySem.W.keepIn K (.ref f4) = true)
    (a5 : PySem.W.nsIn K mainGlobals "uncovered" = some (some (.ref f5))) (l5 : K.lookup f5 = some ⟨oc5, od5, .func (PySem.W.fnOf "uncovered" "uncovered" (defArgs (topS 10)) (defBody (topS 10)) (defScope (topS 10)) .none kV5 dc5 pm5 an5 cd5 ct5), sl5⟩) (c5 : PySem.W.codeIn K cd5 "uncovered" = true) (k5 : PySem.W.keepIn K (.ref f5) = true)
    (a6 : PySem.W.nsIn K mainGlobals "near_pair" = some (some (.ref f6))) (l6 : K.lookup f6 = some ⟨oc6, od6, .func (PySem.W.fnOf "near_pair" "near_pair" (defArgs (topS 11)) (defBody (topS 11)) (defScope (topS 11)) .none kV6 dc6 pm6 an6 cd6 ct6), sl6⟩) (c6 : PySem.W.codeIn K cd6 "near_pair" = true) (k6 : PySem.W.keepIn K (.ref f6) = true)
    (a7 : PySem.W.nsIn K mainGlobals "missed" = some (some (.ref f7))) (l7 : K.lookup f7 = some ⟨oc7, od7, .func (PySem.W.fnOf "missed" "missed" (defArgs (topS 12)) (defBody (topS 12)) (defScope (topS 12)) .none kV7 dc7 pm7 an7 cd7 ct7), sl7⟩) (c7 : PySem.W.codeIn K cd7 "missed" = true) (k7 : PySem.W.keepIn K (.ref f7) = true)
    (a8 : PySem.W.nsIn K mainGlobals "_law_box" = some (some (.ref f8))) (l8 : K.lookup f8 = some ⟨oc8, od8, .func (PySem.W.fnOf "_law_box" "_law_box" (defArgs (topS 14)) (defBody (topS 14)) (defScope (topS 14)) .none kV8 dc8 pm8 an8 cd8 ct8), sl8⟩) (c8 : PySem.W.codeIn K cd8 "_law_box" = true) (k8 : PySem.W.keepIn K (.ref f8) = true)
    (a9 : PySem.W.nsIn K mainGlobals "_law_take" = some (some (.ref f9))) (l9 : K.lookup f9 = some ⟨oc9, od9, .func (PySem.W.fnOf "_law_take" "_law_take" (defArgs (topS 15)) (defBody (topS 15)) (defScope (topS 15)) .none kV9 dc9 pm9 an9 cd9 ct9), sl9⟩) (c9 : PySem.W.codeIn K cd9 "_law_take" = true) (k9 : PySem.W.keepIn K (.ref f9) = true)
    (a10 : PySem.W.nsIn K mainGlobals "_law_cells" = some (some (.ref f10))) (l10 : K.lookup f10 = some ⟨oc10, od10, .func (PySem.W.fnOf "_law_cells" "_law_cells" (defArgs (topS 16)) (defBody (topS 16)) (defScope (topS 16)) .none kV10 dc10 pm10 an10 cd10 ct10), sl10⟩) (c10 : PySem.W.codeIn K cd10 "_law_cells" = true) (k10 : PySem.W.keepIn K (.ref f10) = true)
    (a11 : PySem.W.nsIn K mainGlobals "_law_lists" = some (some (.ref f11))) (l11 : K.lookup f11 = some ⟨oc11, od11, .func (PySem.W.fnOf "_law_lists" "_law_lists" (defArgs (topS 17)) (defBody (topS 17)) (defScope (topS 17)) .none kV11 dc11 pm11 an11 cd11 ct11), sl11⟩) (c11 : PySem.W.codeIn K cd11 "_law_lists" = true) (k11 : PySem.W.keepIn K (.ref f11) = true)
    (a12 : PySem.W.nsIn K mainGlobals "_law_same" = some (some (.ref f12))) (l12 : K.lookup f12 = some ⟨oc12, od12, .func (PySem.W.fnOf "_law_same" "_law_same" (defArgs (topS 18)) (defBody (topS 18)) (defScope (topS 18)) .none kV12 dc12 pm12 an12 cd12 ct12), sl12⟩) (c12 : PySem.W.codeIn K cd12 "_law_same" = true) (k12 : PySem.W.keepIn K (.ref f12) = true)
    (a13 : PySem.W.nsIn K mainGlobals "_law_goods" = some (some (.ref f13))) (l13 : K.lookup f13 = some ⟨oc13, od13, .func (PySem.W.fnOf "_law_goods" "_law_goods" (defArgs (topS 19)) (defBody (topS 19)) (defScope (topS 19)) .none kV13 dc13 pm13 an13 cd13 ct13), sl13⟩) (c13 : PySem.W.codeIn K cd13 "_law_goods" = true) (k13 : PySem.W.keepIn K (.ref f13) = true)
    (a14 : PySem.W.nsIn K mainGlobals "_law_close" = some (some (.ref f14))) (l14 : K.lookup f14 = some ⟨oc14, od14, .func (PySem.W.fnOf "_law_close" "_law_close" (defArgs (topS 20)) (defBody (topS 20)) (defScope (topS 20)) .none kV14 dc14 pm14 an14 cd14 ct14), sl14⟩) (c14 : PySem.W.codeIn K cd14 "_law_close" = true) (k14 : PySem.W.keepIn K (.ref f14) = true)
    (a15 : PySem.W.nsIn K mainGlobals "_law_text" = some (some (.ref f15))) (l15 : K.lookup f15 = some ⟨oc15, od15, .func (PySem.W.fnOf "_law_text" "_law_text" (defArgs (topS 21)) (defBody (topS 21)) (defScope (topS 21)) .none kV15 dc15 pm15 an15 cd15 ct15), sl15⟩) (c15 : PySem.W.codeIn K cd15 "_law_text" = true) (k15 : PySem.W.keepIn K (.ref f15) = true)
    (a16 : PySem.W.nsIn K mainGlobals "_law_heard" = some (some (.ref f16))) (l16 : K.lookup f16 = some ⟨oc16, od16, .func (PySem.W.fnOf "_law_heard" "_law_heard" (defArgs (topS 22)) (defBody (topS 22)) (defScope (topS 22)) .none kV16 dc16 pm16 an16 cd16 ct16), sl16⟩) (c16 : PySem.W.codeIn K cd16 "_law_heard" = true) (k16 : PySem.W.keepIn K (.ref f16) = true)
    (a17 : PySem.W.nsIn K mainGlobals "_law_due" = some (some (.ref f17))) (l17 : K.lookup f17 = some ⟨oc17, od17, .func (PySem.W.fnOf "_law_due" "_law_due" (defArgs (topS 23)) (defBody (topS 23)) (defScope (topS 23)) .none kV17 dc17 pm17 an17 cd17 ct17), sl17⟩) (c17 : PySem.W.codeIn K cd17 "_law_due" = true) (k17 : PySem.W.keepIn K (.ref f17) = true)
    (a18 : PySem.W.nsIn K mainGlobals "_law_hand_right" = some (some (.ref f18))) (l18 : K.lookup f18 = some ⟨oc18, od18, .func (PySem.W.fnOf "_law_hand_right" "_law_hand_right" (defArgs (topS 24)) (defBody (topS 24)) (defScope (topS 24)) .none kV18 dc18 pm18 an18 cd18 ct18), sl18⟩) (c18 : PySem.W.codeIn K cd18 "_law_hand_right" = true) (k18 : PySem.W.keepIn K (.ref f18) = true)
    (a19 : PySem.W.nsIn K mainGlobals "_law_case_right" = some (some (.ref f19))) (l19 : K.lookup f19 = some ⟨oc19, od19, .func (PySem.W.fnOf "_law_case_right" "_law_case_right" (defArgs (topS 25)) (defBody (topS 25)) (defScope (topS 25)) .none kV19 dc19 pm19 an19 cd19 ct19), sl19⟩) (c19 : PySem.W.codeIn K cd19 "_law_case_right" = true) (k19 : PySem.W.keepIn K (.ref f19) = true)
    (a20 : PySem.W.nsIn K mainGlobals "_law_right" = some (some (.ref f20))) (l20 : K.lookup f20 = some ⟨oc20, od20, .func (PySem.W.fnOf "_law_right" "_law_right" (defArgs (topS 26)) (defBody (topS 26)) (defScope (topS 26)) .none kV20 dc20 pm20 an20 cd20 ct20), sl20⟩) (c20 : PySem.W.codeIn K cd20 "_law_right" = true) (k20 : PySem.W.keepIn K (.ref f20) = true)
    (a21 : PySem.W.nsIn K mainGlobals "law" = some (some (.ref f21))) (l21 : K.lookup f21 = some ⟨oc21, od21, .func (PySem.W.fnOf "law" "law" (defArgs (topS 27)) (defBody (topS 27)) (defScope (topS 27)) .none kV21 dc21 pm21 an21 cd21 ct21), sl21⟩) (c21 : PySem.W.codeIn K cd21 "law" = true) (k21 : PySem.W.keepIn K (.ref f21) = true)
    (z0 : PySem.W.nsIn K mainGlobals "len" = some none)
    (z1 : PySem.W.nsIn K mainGlobals "list" = some none)
    (z2 : PySem.W.nsIn K mainGlobals "tuple" = some none)
    (z3 : PySem.W.nsIn K mainGlobals "int" = some none)
    (z4 : PySem.W.nsIn K mainGlobals "abs" = some none)
    (z5 : PySem.W.nsIn K mainGlobals "sum" = some none)
    (z6 : PySem.W.nsIn K mainGlobals "max" = some none)
    (z7 : PySem.W.nsIn K mainGlobals "min" = some none)
    (z8 : PySem.W.nsIn K mainGlobals "all" = some none)
    (z9 : PySem.W.nsIn K mainGlobals "any" = some none)
    (z10 : PySem.W.nsIn K mainGlobals "sorted" = some none)
    (z11 : PySem.W.nsIn K mainGlobals "isinstance" = some none)
    (z12 : PySem.W.nsIn K mainGlobals "range" = some none)
    (z13 : PySem.W.nsIn K mainGlobals "enumerate" = some none)
    (z14 : PySem.W.nsIn K mainGlobals "zip" = some none)
    (z15 : PySem.W.nsIn K mainGlobals "bool" = some none)
    (z16 : PySem.W.nsIn K mainGlobals "str" = some none)
    (z17 : PySem.W.nsIn K mainGlobals "dict" = some none)
    (z18 : PySem.W.nsIn K mainGlobals "set" = some none)
    (z19 : PySem.W.nsIn K mainGlobals "super" = some none)
    (z20 : PySem.W.nsIn K mainGlobals "LookupError" = some none)
    (z21 : PySem.W.nsIn K mainGlobals "ValueError" = some none)
    {xC0 : Addr} (xa0 : PySem.W.nsIn K mainGlobals "NoName" = some (some (.ref xC0))) (xb0 : xcB K xC0 "LookupError" = true)
    {xF0 xD0 xK0 : Addr} {xo0 xn0 : Option Addr} {xs0 : Array (Option Value)} {xk0 xd0 xp0 xt0 : Value} (xi0 : PySem.W.findIn K (.ref xC0) "__init__" = some (some (.ref xF0)))
    (xl0 : K.lookup xF0 = some ⟨.type "function", xo0, .func (PySem.W.ksFn "__init__" "NoName.__init__" (defArgs (iniS 1)) (defBody (iniS 1)) (defScope (iniS 1)) .none xk0 xd0 xp0 xn0 (.ref xD0) xt0 xK0), xs0⟩)
    (xj0 : inkB K xC0 xD0 xK0 "NoName.__init__" "name" "LookupError" "LookupError.__new__" "LookupError.__init__" [.type "LookupError", .type "Exception", .type "BaseException", .type "object"] l.prog.main.file = true)
    (xx : exmB K [(0, xC0)] = true) (xu : (l.prog.main.scope.names.lookup ("super" : Str)).isSome = false)
    : ∃ fd : FuncData, (∀ (s : Shared) (v : Value), BindsTo s fd ⟨[v], []⟩ [("_law_script", v)]) ∧ ∀ base : Heap, K.In base → base.Ns mainGlobals mg → FnOk l.prog w K mg base CX0 21 fa fd ["_law_script"] (spF K (callF B 21) 249 false false) := by
  have hb : ∀ x ∈ biL, mg x = none := fun x hx => by
    simp only [biL, List.mem_cons, List.not_mem_nil, or_false] at hx
    rcases hx with rfl | rfl | rfl | rfl | rfl | rfl | rfl | rfl | rfl | rfl | rfl | rfl | rfl | rfl | rfl | rfl | rfl | rfl | rfl | rfl | rfl | rfl
    · exact PySem.W.mg_none_of X G z0
    · exact PySem.W.mg_none_of X G z1
    · exact PySem.W.mg_none_of X G z2
    · exact PySem.W.mg_none_of X G z3
    · exact PySem.W.mg_none_of X G z4
    · exact PySem.W.mg_none_of X G z5
    · exact PySem.W.mg_none_of X G z6
    · exact PySem.W.mg_none_of X G z7
    · exact PySem.W.mg_none_of X G z8
    · exact PySem.W.mg_none_of X G z9
    · exact PySem.W.mg_none_of X G z10
    · exact PySem.W.mg_none_of X G z11
    · exact PySem.W.mg_none_of X G z12
    · exact PySem.W.mg_none_of X G z13
    · exact PySem.W.mg_none_of X G z14
    · exact PySem.W.mg_none_of X G z15
    · exact PySem.W.mg_none_of X G z16
    · exact PySem.W.mg_none_of X G z17
    · exact PySem.W.mg_none_of X G z18
    · exact PySem.W.mg_none_of X G z19
    · exact PySem.W.mg_none_of X G z20
    · exact PySem.W.mg_none_of X G z21
  have hg : ∀ p ∈ gl, GlV mg p := fun p hp => by cases hp
  have A0 : FnAt K mg kw 18 t18 (topS 3) := at_mk X G a0 l0 c0 k0 hb0 hw0
  have A1 : FnAt K mg kw 37 t37 (topS 5) := at_mk X G a1 l1 c1 k1 hb1 hw1
  have A2 : FnAt K mg kw 38 t38 (topS 6) := at_mk X G a2 l2 c2 k2 hb2 hw2
  have A3 : FnAt K mg kw 20 t20 (topS 7) := at_mk X G a3 l3 c3 k3 hb3 hw3
  have A4 : FnAt K mg kw 21 t21 (topS 9) := at_mk X G a4 l4 c4 k4 hb4 hw4
  have A5 : FnAt K mg kw 22 t22 (topS 10) := at_mk X G a5 l5 c5 k5 hb5 hw5
  have A6 : FnAt K mg kw 241 t241 (topS 11) := at_mk X G a6 l6 c6 k6 hb6 hw6
  have A7 : FnAt K mg kw 242 t242 (topS 12) := at_mk X G a7 l7 c7 k7 hb7 hw7
  have A8 : FnAt K mg kw 243 t243 (topS 14) := at_mk X G a8 l8 c8 k8 hb8 hw8
  have A9 : FnAt K mg kw 7 t7 (topS 15) := at_mk X G a9 l9 c9 k9 hb9 hw9
  have A10 : FnAt K mg kw 8 t8 (topS 16) := at_mk X G a10 l10 c10 k10 hb10 hw10
  have A11 : FnAt K mg kw 26 t26 (topS 17) := at_mk X G a11 l11 c11 k11 hb11 hw11
  have A12 : FnAt K mg kw 10 t10 (topS 18) := at_mk X G a12 l12 c12 k12 hb12 hw12
  have A13 : FnAt K mg kw 11 t11 (topS 19) := at_mk X G a13 l13 c13 k13 hb13 hw13
  have A14 : FnAt K mg kw 27 t27 (topS 20) := at_mk X G a14 l14 c14 k14 hb14 hw14
  have A15 : FnAt K mg kw 31 t31 (topS 21) := at_mk X G a15 l15 c15 k15 hb15 hw15
  have A16 : FnAt K mg kw 244 t244 (topS 22) := at_mk X G a16 l16 c16 k16 hb16 hw16
  have A17 : FnAt K mg kw 245 t245 (topS 23) := at_mk X G a17 l17 c17 k17 hb17 hw17
  have A18 : FnAt K mg kw 246 t246 (topS 24) := at_mk X G a18 l18 c18 k18 hb18 hw18
  have A19 : FnAt K mg kw 247 t247 (topS 25) := at_mk X G a19 l19 c19 k19 hb19 hw19
  have A20 : FnAt K mg kw 248 t248 (topS 26) := at_mk X G a20 l20 c20 k20 hb20 hw20
  have A21 : FnAt K mg kw 249 t249 (topS 27) := at_mk X G a21 l21 c21 k21 hb21 hw21
  have all : AllAt K mg kw T sts := ⟨A0, A1, A2, A3, A4, A5, A6, A7, A8, A9, A10, A11, A12, A13, A14, A15, A16, A17, A18, A19, A20, A21, trivial⟩
  have X0 : XcOk l.prog K mg ⟨"NoName", some "name", "LookupError"⟩ xC0 := xc_of X G xa0 xb0 (ini_of (y := "name") (sf := "self") PySem.F.excBase_LookupError PySem.W.kxs_LookupError PySem.F.store_LookupError xi0 xl0 hx0 (by decide +kernel) (by decide +kernel) xj0 xu)
  have hxs : XsOk l.prog K mg xs := xs_of [(0, xC0)] (by show ([0] : List Nat).Nodup; decide) xx (fun p hp => by
    simp only [List.mem_cons, List.not_mem_nil, or_false] at hp
    rcases hp with rfl
    · exact ⟨_, rfl, X0⟩)
  exact law_mk (F := t249) (k0 := 21) X G hb hg hB hxs text_ok all hfa rfl rfl rfl rfl rfl rfl a21 l21 c21 k21 hb21 20
end K19
end KN
open PySem PySem.W PyProof.Rows
set_option maxHeartbeats 0 in
theorem PySem.Challenge.cw_keptnear_k19_what_hinders_holds : PySem.Challenge.rw_keptnear_k19_what_hinders.Holds := by
  w_on; o_law; k_head; (case hw => w_witness2)
  k_fill
  refine L2.walk_of (l := PySem.Challenge.rw_keptnear_k19_what_hinders) (n := 63) (k := 21) (x := "_law_script") (CX := fun _ => L2.CX0) (sp := fun w => KN.spF _ (KN.callF KN.K19.B 21) 249 false false) rfl (by decide) rfl ⟨rfl, by decide, by decide⟩ (fun w h Y => PySem.W.kIn_of Y) ?F (fun _ _ a ns hl _ hS => KN.law_sp hS (KN.K19.law_gives hl)) (fun _ _ _ _ _ h => h)
  case F =>
    intro w mg fa h KX G hmg
    refine' KN.K19.all_mk KX G hmg ?a0 ?l0 ?c0 ?k0 ?a1 ?l1 ?c1 ?k1 ?a2 ?l2 ?c2 ?k2 ?a3 ?l3 ?c3 ?k3 ?a4 ?l4 ?c4 ?k4 ?a5 ?l5 ?c5 ?k5 ?a6 ?l6 ?c6 ?k6 ?a7 ?l7 ?c7 ?k7 ?a8 ?l8 ?c8 ?k8 ?a9 ?l9 ?c9 ?k9 ?a10 ?l10 ?c10 ?k10 ?a11 ?l11 ?c11 ?k11 ?a12 ?l12 ?c12 ?k12 ?a13 ?l13 ?c13 ?k13 ?a14 ?l14 ?c14 ?k14 ?a15 ?l15 ?c15 ?k15 ?a16 ?l16 ?c16 ?k16 ?a17 ?l17 ?c17 ?k17 ?a18 ?l18 ?c18 ?k18 ?a19 ?l19 ?c19 ?k19 ?a20 ?l20 ?c20 ?k20 ?a21 ?l21 ?c21 ?k21 ?z0 ?z1 ?z2 ?z3 ?z4 ?z5 ?z6 ?z7 ?z8 ?z9 ?z10 ?z11 ?z12 ?z13 ?z14 ?z15 ?z16 ?z17 ?z18 ?z19 ?z20 ?z21 ?xa0 ?xb0 ?xi0 ?xl0 ?xj0 ?xx ?xu
    (case a0 => k_is); (case l0 => k_is); (case c0 => k_is); (case k0 => k_is); (case a1 => k_is); (case l1 => k_is); (case c1 => k_is); (case k1 => k_is); (case a2 => k_is); (case l2 => k_is); (case c2 => k_is); (case k2 => k_is); (case a3 => k_is); (case l3 => k_is); (case c3 => k_is); (case k3 => k_is); (case a4 => k_is); (case l4 => k_is); (case c4 => k_is); (case k4 => k_is); (case a5 => k_is); (case l5 => k_is); (case c5 => k_is); (case k5 => k_is); (case a6 => k_is); (case l6 => k_is); (case c6 => k_is); (case k6 => k_is); (case a7 => k_is); (case l7 => k_is); (case c7 => k_is); (case k7 => k_is); (case a8 => k_is); (case l8 => k_is); (case c8 => k_is); (case k8 => k_is); (case a9 => k_is); (case l9 => k_is); (case c9 => k_is); (case k9 => k_is); (case a10 => k_is); (case l10 => k_is); (case c10 => k_is); (case k10 => k_is); (case a11 => k_is); (case l11 => k_is); (case c11 => k_is); (case k11 => k_is); (case a12 => k_is); (case l12 => k_is); (case c12 => k_is); (case k12 => k_is); (case a13 => k_is); (case l13 => k_is); (case c13 => k_is); (case k13 => k_is); (case a14 => k_is); (case l14 => k_is); (case c14 => k_is); (case k14 => k_is); (case a15 => k_is); (case l15 => k_is); (case c15 => k_is); (case k15 => k_is); (case a16 => k_is); (case l16 => k_is); (case c16 => k_is); (case k16 => k_is); (case a17 => k_is); (case l17 => k_is); (case c17 => k_is); (case k17 => k_is); (case a18 => k_is); (case l18 => k_is); (case c18 => k_is); (case k18 => k_is); (case a19 => k_is); (case l19 => k_is); (case c19 => k_is); (case k19 => k_is); (case a20 => k_is); (case l20 => k_is); (case c20 => k_is); (case k20 => k_is); (case a21 => k_is); (case l21 => k_is); (case c21 => k_is); (case k21 => k_is); (case z0 => k_is); (case z1 => k_is); (case z2 => k_is); (case z3 => k_is); (case z4 => k_is); (case z5 => k_is); (case z6 => k_is); (case z7 => k_is); (case z8 => k_is); (case z9 => k_is); (case z10 => k_is); (case z11 => k_is); (case z12 => k_is); (case z13 => k_is); (case z14 => k_is); (case z15 => k_is); (case z16 => k_is); (case z17 => k_is); (case z18 => k_is); (case z19 => k_is); (case z20 => k_is); (case z21 => k_is); (case xa0 => k_is); (case xb0 => kernel_rfl); (case xi0 => k_is); (case xl0 => k_is); (case xj0 => kernel_rfl); (case xx => kernel_rfl); (case xu => kernel_rfl)

