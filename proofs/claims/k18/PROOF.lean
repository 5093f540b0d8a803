import PyProof.Rows.All
import Wide.All
import OpenK.AllK
import Wide.FinOn
import HandS.Set
import HandS.SetFor
import HandS.Dict
import HandS.More
import HandS.TupSets
import HandS.Lambda
import KE.KNest
import HandS.ForMost
import HandS.ForExc
import HandS.Walk
import HandS.IsInst
import HandS.StrMore
import HandS.Style
import HandS.Flow
import HandS.ExcCtx
import HandS.HotCalls
import HandS.TupAny
import HandS.Conv
import HandS.SortInts
import HandS.Wide
import KE.GoesEnum
import KE.GoesMore
import PyProof.TupleOfSeq
import PyProof.ListStr
import PyProof.StrBlock2
import HandS.SetBool
import HandS.Iter
import HandS.DictComp
import KE.SortData
import KE.DatumOrd
import PyProof.Rows.TupDisplay
import HandS.ExcIs
import HandS.EndTab
import PySem.Challenge.RW_ibidnotes_k18_whole_written_notes
set_option Elab.async false
set_option linter.all false
set_option maxRecDepth 100000
set_option maxHeartbeats 2000000
/-! Sets of keys (ints, texts), by their members; made of a list or a text, counted, asked, sorted. -/
namespace Ib
open PySem PySem.Spec PyProof.Rows L2

/-- the entry e of a set's table is the key k -/
def EK (w : World) (e : Int × Value) (k : Key) : Prop := RelV (kV k) e.2 ∧ e.1 = keyH w k
/-- entry by entry -/
def EKs (w : World) : List (Int × Value) → List Key → Prop
  | [], ks => ks = []
  | e :: es, ks => ∃ k r, ks = k :: r ∧ EK w e k ∧ EKs w es r
section
variable {w : World}
theorem EKs.mem : ∀ {es : List (Int × Value)} {ks : List Key}, EKs w es ks → ∀ k, k ∈ ks → ∃ e ∈ es, EK w e k
  | [], _, h, k, hk => by
    subst h
    cases hk
  | e :: es, _, h, k, hk => by
    obtain ⟨k0, r, rfl, h1, h2⟩ := h
    rcases List.mem_cons.mp hk with z | z
    · subst z
      exact ⟨e, List.mem_cons_self, h1⟩
    · obtain ⟨e', h3, h4⟩ := h2.mem k z
      exact ⟨e', List.mem_cons_of_mem _ h3, h4⟩
theorem EKs.back : ∀ {es : List (Int × Value)} {ks : List Key}, EKs w es ks → ∀ e, e ∈ es → ∃ k ∈ ks, EK w e k
  | [], _, _, e, he => by cases he
  | e0 :: es, _, h, e, he => by
    obtain ⟨k0, r, rfl, h1, h2⟩ := h
    rcases List.mem_cons.mp he with z | z
    · subst z
      exact ⟨k0, List.mem_cons_self, h1⟩
    · obtain ⟨k', h3, h4⟩ := h2.back e z
      exact ⟨k', List.mem_cons_of_mem _ h3, h4⟩
theorem EKs.len : ∀ {es : List (Int × Value)} {ks : List Key}, EKs w es ks → es.length = ks.length
  | [], _, h => by
    subst h
    rfl
  | e :: es, _, h => by
    obtain ⟨k0, r, rfl, h1, h2⟩ := h
    simp [h2.len]
theorem EKs.perm : ∀ {es es' : List (Int × Value)}, es.Perm es' → ∀ {ks : List Key}, EKs w es ks → ∃ ks', EKs w es' ks' ∧ ks.Perm ks' := by
  intro es es' p
  induction p with
  | nil => exact fun h => ⟨_, h, List.Perm.refl _⟩
  | cons x p ih =>
    intro ks h
    obtain ⟨k0, r, rfl, h1, h2⟩ := h
    obtain ⟨r', h3, h4⟩ := ih h2
    exact ⟨k0 :: r', ⟨k0, r', rfl, h1, h3⟩, h4.cons k0⟩
  | swap x y l =>
    intro ks h
    obtain ⟨k0, r, rfl, h1, k1, r', rfl, h2, h3⟩ := h
    exact ⟨k1 :: k0 :: r', ⟨k1, _, rfl, h2, k0, r', rfl, h1, h3⟩, List.Perm.swap _ _ _⟩
  | trans p1 p2 i1 i2 =>
    intro ks h
    obtain ⟨r1, h1, h2⟩ := i1 h
    obtain ⟨r2, h3, h4⟩ := i2 h1
    exact ⟨r2, h3, h2.trans h4⟩
theorem EKs.vals : ∀ {es : List (Int × Value)} {ks : List Key}, EKs w es ks → Vals (ks.map kV) (es.map (·.2))
  | [], _, h => by
    subst h
    exact .nil
  | e :: es, _, h => by
    obtain ⟨k0, r, rfl, h1, h2⟩ := h
    exact .cons h1.1 h2.vals
theorem EK.is {P : Program} {e : Int × Value} {k : Key} (h : EK w e k) (j : Key) : (mixKind P w).is j e.2 = true ↔ j = k :=
  ⟨fun z => (mixKind P w).inj _ _ _ z (kV_is h.1), fun z => by rw [z]; exact kV_is h.1⟩
theorem rel_scan {k : Key} {u : Value} (r : RelV (kV k) u) : u.scannable = true := by
  cases k with
  | inl i =>
    obtain ⟨t, e⟩ := r
    rw [e]
    rfl
  | inr x =>
    obtain ⟨t, e⟩ := r
    rw [e]
    rfl
theorem EKs.elems {P : Program} {es : List (Int × Value)} {ks : List Key} (h : EKs w es ks) : ElemsOf (mixKind P w) es := fun e he => by
  obtain ⟨k, _, h1⟩ := h.back e he
  exact ⟨⟨k, kV_is h1.1, h1.2⟩, rel_scan h1.1⟩
end

instance memK (k : Key) : (S : List Key) → Decidable (k ∈ S)
  | [] => .isFalse (fun z => nomatch z)
  | x :: r => if e : k = x then .isTrue (by rw [e]; exact List.mem_cons_self) else match memK k r with
    | .isTrue h => .isTrue (List.mem_cons_of_mem _ h)
    | .isFalse h => .isFalse fun z => (List.mem_cons.mp z).elim e h
/-- one more member -/
def insK (S : List Key) (k : Key) : List Key := if k ∈ S then S else k :: S
/-- the members of a row, each once -/
def unqK (ks : List Key) : List Key := ks.foldl insK []
theorem mem_insK {S : List Key} {k j : Key} : j ∈ insK S k ↔ j = k ∨ j ∈ S := by
  unfold insK
  split
  · rename_i h
    exact ⟨.inr, fun z => z.elim (fun e => by rw [e]; exact h) id⟩
  · exact List.mem_cons
theorem nodup_insK {S : List Key} {k : Key} (h : S.Nodup) : (insK S k).Nodup := by
  unfold insK
  split
  · exact h
  · rename_i n
    exact List.nodup_cons.mpr ⟨n, h⟩
theorem foldK_mem {j : Key} : ∀ (ks S : List Key), j ∈ ks.foldl insK S ↔ j ∈ ks ∨ j ∈ S
  | [], S => by simp
  | k :: ks, S => by
    rw [List.foldl_cons, foldK_mem ks, mem_insK, List.mem_cons]
    exact ⟨fun z => z.elim (fun z => .inl (.inr z)) fun z => z.elim (fun z => .inl (.inl z)) .inr, fun z => z.elim (fun z => z.elim (fun z => .inr (.inl z)) .inl) fun z => .inr (.inr z)⟩
theorem foldK_nodup : ∀ (ks S : List Key), S.Nodup → (ks.foldl insK S).Nodup
  | [], _, h => h
  | k :: ks, S, h => foldK_nodup ks _ (nodup_insK h)
theorem foldK_len : ∀ (ks S : List Key), (ks.foldl insK S).length ≤ ks.length + S.length
  | [], S => by simp
  | k :: ks, S => by
    rw [List.foldl_cons, List.length_cons]
    have h1 := foldK_len ks (insK S k)
    have h2 : (insK S k).length ≤ S.length + 1 := by
      unfold insK
      split
      · exact Nat.le_succ _
      · exact Nat.le_refl _
    omega
theorem mem_unqK {ks : List Key} {j : Key} : j ∈ unqK ks ↔ j ∈ ks := by
  unfold unqK
  rw [foldK_mem]
  simp
theorem nodup_unqK (ks : List Key) : (unqK ks).Nodup := foldK_nodup ks [] List.nodup_nil
theorem len_unqK (ks : List Key) : (unqK ks).length ≤ ks.length := foldK_len ks []

/-- the set at a has the members S -/
def SetQ (w : World) (h : Heap) (a : Addr) (S : List Key) : Prop :=
  ∃ o es ep t ks, h.get? a = some o ∧ o.ExactSet ∧ o.data = .set es ep t ∧ EKs w es.toList ks ∧ ks.Perm S ∧ S.Nodup ∧ es.size < scanBound ∧ t.fits es.size = true ∧ Ris t.place.toList ∧
    (w.params.followText "set-order" = true ∨ t.led = true)
section
variable {P : Program} {w : World} {h h' : Heap} {a : Addr} {S : List Key}
theorem SetQ.at (R : SetQ w h a S) (k : ∀ o, h.get? a = some o → h'.get? a = some o) : SetQ w h' a S := by
  obtain ⟨o, es, ep, t, ks, ho, r⟩ := R
  exact ⟨o, es, ep, t, ks, k o ho, r⟩
theorem SetQ.has (R : SetQ w h a S) : ∃ o, h.get? a = some o := by
  obtain ⟨o, es, ep, t, ks, ho, r⟩ := R
  exact ⟨o, ho⟩
theorem SetQ.nodup (R : SetQ w h a S) : S.Nodup := by
  obtain ⟨o, es, ep, t, ks, _, _, _, _, _, n, _⟩ := R
  exact n
theorem SetQ.setOf (R : SetQ w h a S) : h.SetOf (mixKind P w) a (fun k => decide (k ∈ S)) S.length := by
  obtain ⟨o, es, ep, t, ks, ho, hx, hd, he, hp, nd, hb, hf, hr, hl⟩ := R
  refine ⟨o, es, ep, t, ho, hx, hd, he.elems, fun k => ?_, hb, hf, ?_⟩
  · rw [decide_eq_true_eq, ← hp.mem_iff]
    exact ⟨fun z => (he.mem k z).imp fun e q => ⟨q.1, (q.2.is k).mpr rfl⟩, fun ⟨e, z, q⟩ => by
      obtain ⟨j, h1, h2⟩ := he.back e z
      rw [(h2.is k).mp q]
      exact h1⟩
  · rw [← Array.length_toList, he.len, hp.length_eq]
theorem setQ_fresh {o : Obj} {led : Bool} (ho : h.get? a = some o) (hx : o.ExactSet) (hd : o.data = .set #[] 0 (.fresh 0 0 led)) (hl : led = !w.params.followText "set-order") : SetQ w h a [] := by
  refine ⟨o, #[], 0, _, [], ho, hx, hd, rfl, List.Perm.refl _, List.nodup_nil, by decide, by rfl, List.Pairwise.nil, ?_⟩
  subst hl
  cases w.params.followText "set-order"
  · exact .inr rfl
  · exact .inl rfl
end

section
variable {P : Program} {w : World} {A : Around} {E : Value → Shared → Prop} {s : Shared} {a : Addr} {S : List Key}
theorem setQ_tail {g : Bool → Sem Unit} (hg : ∀ (b : Bool) (z : Shared) (Q' : Unit → Shared → Prop), Q' () z → wpAny (model P w) A (g b) Q' E z)
    {o : Obj} {es : Array (Int × Value)} {ep : Nat} {t : SetTable} (ho : s.heap.get? a = some o) (hx : o.ExactSet) (hd : o.data = .set es ep t)
    {fs : Array (Int × Value)} {t2 : SetTable} {S' ks : List Key} (he : EKs w fs.toList ks) (hp : ks.Perm S') (nd : S'.Nodup)
    (hb : fs.size < scanBound) (hf : t2.fits fs.size = true) (hr : Ris t2.place.toList) (hl : w.params.followText "set-order" = true ∨ t2.led = true) {dm : Bool} {R : Option Bool → Shared → Prop}
    (hR : ∀ h', Heap.SameBut a s.heap h' → SetQ w h' a S' → R (some true) { s with heap := h' }) :
    wpAny (model P w) A (storeSet a fs t2 >>= fun _ => if (!dm && t2.tooFull) = true then
        (g (relayAll t2 fs (SetTable.grown fs.size)).2.2 >>= fun _ => storeSet a (relayAll t2 fs (SetTable.grown fs.size)).1 (relayAll t2 fs (SetTable.grown fs.size)).2.1 >>= fun _ => pure (some true))
        else pure (some true)) R E s := by
  refine wpAny_bind (wpAny_storeSet_of ho hd ?_ (fits_of_scanBound hb))
  have q1 := store_at (es' := fs) (t' := t2) ho hd
  have sb := Heap.SameBut.update s.heap a (Obj.putSet fs t2)
  split
  · have pm := relayAll_perm t2 fs (SetTable.grown fs.size)
    have z1 := relayAll_fits t2 fs (SetTable.grown fs.size)
    have z2 := relayAll_ris t2 fs (SetTable.grown fs.size)
    have z3 := relayAll_led t2 fs (SetTable.grown fs.size)
    generalize relayAll t2 fs (SetTable.grown fs.size) = Z at pm z1 z2 z3 ⊢
    obtain ⟨gs, t3, gave⟩ := Z
    have pm : gs.toList.Perm fs.toList := pm
    have z1 : t3.fits gs.size = true := z1
    have z2 : Ris t3.place.toList := z2
    have z3 : t3.led = t2.led := z3
    have hsz : gs.size = fs.size := by rw [← Array.length_toList, pm.length_eq, Array.length_toList]
    refine wpAny_bind (hg _ _ _ ?_)
    refine wpAny_bind (wpAny_storeSet_of q1 rfl ?_ (fits_of_scanBound (by rw [hsz]; exact hb)))
    have q2 := store_at (es' := gs) (t' := t3) q1 rfl
    refine wpAny_pure (hR _ (sb.trans (Heap.SameBut.update _ a _)) ?_)
    obtain ⟨ks', e1, e2⟩ := he.perm pm.symm
    exact ⟨_, gs, _, t3, ks', q2, hx, rfl, e1, e2.symm.trans hp, nd, by rw [hsz]; exact hb, z1, z2, hl.imp id fun z => z3.trans z⟩
  · exact wpAny_pure (hR _ sb ⟨_, fs, _, t2, ks, q1, hx, rfl, he, hp, nd, hb, hf, hr, hl⟩)

theorem setQ_add_hashed {k : Key} {u : Value} {Q : Bool → Shared → Prop} (ru : RelV (kV k) u) (R : SetQ w s.heap a S) (room : S.length + 1 < scanBound)
    (hQ : ∀ b h', Heap.SameBut a s.heap h' → SetQ w h' a (insK S k) → Q b { s with heap := h' }) : wpAny (model P w) A (setAddHashed a u (keyH w k)) Q E s := by
  have hkey : (mixKind P w).is k u = true := kV_is ru
  have R0 := R
  obtain ⟨o, es, ep, t, ks, ho, hx, hd, he, hp, nd, hb, hf, hr, hl⟩ := R
  have hsc := rel_scan ru
  have hel : ElemsOf (mixKind P w) es.toList := he.elems
  unfold setAddHashed setAddHashedIn
  refine wpAny_holding (wpAny_bind (wpAny_setState_of ho hd hf ?_))
  dsimp only
  rw [byScan_of hsc hb hel]
  simp only [↓reduceIte]
  unfold setAddByScan
  refine wpAny_bind ?_
  refine wpAny_bind (wpAny_rule ?_)
  refine wpAny_bind (wpAny_setScan_of hkey ho hd hf hel ?_)
  cases hfi : List.findIdx? (fun e => (mixKind P w).is k e.2) es.toList with
  | some j =>
    dsimp only
    obtain ⟨hj, pj, _⟩ := List.findIdx?_eq_some_iff_getElem.mp hfi
    obtain ⟨k2, m1, m2⟩ := he.back _ (List.getElem_mem hj)
    have ek : k = k2 := (m2.is k).mp pj
    have hS : k ∈ S := hp.mem_iff.mp (by rw [ek]; exact m1)
    refine wpAny_pure (wpAny_pure (hQ _ s.heap (Heap.SameBut.refl a s.heap) ?_))
    have ei : insK S k = S := if_pos hS
    rw [ei]
    exact R0
  | none =>
    dsimp only
    have hS : k ∉ S := fun z => by
      obtain ⟨e, h1, h2⟩ := he.mem k (hp.mem_iff.mpr z)
      have c := List.findIdx?_eq_none_iff.mp hfi e h1
      rw [(h2.is k).mpr rfl] at c
      cases c
    have ei : insK S k = k :: S := if_neg hS
    have gw : ∀ (b : Bool) {z : Shared} {Q' : Unit → Shared → Prop}, Q' () z → wpAny (model P w) A (match b with | true => rule "set.scan.the-table-gave-way" | false => pure ()) Q' E z :=
      fun b z Q' q => by cases b <;> first | exact wpAny_pure q | exact wpAny_rule q
    have pm := layNew_perm t es (keyH w k) u
    have z1 := layNew_fits t es (keyH w k) u
    have z2 := layNew_ris t es (keyH w k) u hr
    have z3 := layNew_led t es (keyH w k) u
    have eh : (mixKind P w).hash k = keyH w k := rfl
    generalize layNew t es (keyH w k) u = Z at pm z1 z2 z3 ⊢
    obtain ⟨fs, t1, dm, gave⟩ := Z
    have z1 : t1.fits fs.size = true := z1
    have z2 : Ris t1.place.toList := z2
    have z3 : t1.led = t.led := z3
    have pm : fs.toList.Perm (es.push (keyH w k, u)).toList := pm
    rw [Array.toList_push] at pm
    have pc : ((keyH w k, u) :: es.toList).Perm fs.toList := (List.perm_append_singleton _ _).symm.trans pm.symm
    obtain ⟨ks', e1, e2⟩ := EKs.perm (w := w) pc (ks := k :: ks) ⟨k, ks, rfl, ⟨ru, rfl⟩, he⟩
    have hp' : ks'.Perm (insK S k) := by
      rw [ei]
      exact e2.symm.trans (hp.cons k)
    have hsz : fs.size = S.length + 1 := by
      rw [← Array.length_toList, e1.len, hp'.length_eq, ei, List.length_cons]
    have hb1 : fs.size < scanBound := by rw [hsz]; exact room
    have hld : w.params.followText "set-order" = true ∨ t1.led = true := hl.imp id fun z => z3.trans z
    dsimp only
    refine wpAny_bind (gw _ ?_)
    split
    · refine wpAny_bind ?_
      rw [hashByValue_scannable 8 hsc]
      refine wpAny_pure ?_
      refine setQ_tail ?_ ho hx hd e1 hp' (nodup_insK nd) hb1 ?_ ?_ ?_ ?_
      · intro b z Q' q; cases b <;> first | exact wpAny_pure q | exact wpAny_rule q
      · first | (split <;> first | exact z1 | exact SetTable.fits_plain_off z1) | exact z1
      · first | (split <;> exact z2) | exact z2
      · first | (split <;> exact hld) | exact hld
      · intro h' sb r; exact wpAny_pure (hQ _ h' sb r)
    · refine wpAny_bind (wpAny_pure ?_)
      simp only [↓reduceIte]
      refine setQ_tail ?_ ho hx hd e1 hp' (nodup_insK nd) hb1 z1 z2 hld ?_
      · intro b z Q' q; cases b <;> first | exact wpAny_pure q | exact wpAny_rule q
      · intro h' sb r; exact wpAny_pure (hQ _ h' sb r)
end

/-! ### set(row) -/
section
variable {P : Program} {w : World} {A : Around}
/-- the loop behind set(row): every item is a key -/
theorem setQ_loop {I : Addr} {fp wr : List Addr} {G : Array GenState → Array GenState → Prop} {n : Nat} {Pv : Nat → Value → Prop} {St : Nat → Shared → Prop} {R : Result → Shared → Prop}
    (W : WalksS P w A.in1 I fp wr G n Pv St) (a : Addr) (haf : a ∉ fp) (ks : List Key) (hn : n = ks.length) (hb : ks.length + 1 < scanBound) (hv : ∀ i v, Pv i v → ∃ k, ks[i]? = some k ∧ RelV (kV k) v) :
    ∀ (m i : Nat) (s : Shared), n - i = m → i ≤ n → St i s → SetQ w s.heap a ((ks.take i).foldl insK []) →
      (∀ s', Moved (a :: wr) G s s' → SetQ w s'.heap a (unqK ks) → R (.ok (.ret .none)) s') → codeAny (model P w) A (.builtin "set.update.loop" ⟨[.ref a, .ref I], []⟩) R s := by
  have haw : a ∉ wr := fun z => haf (W.sub _ z)
  have sub : ∀ b ∈ wr, b ∈ a :: wr := fun b z => List.mem_cons_of_mem _ z
  intro m
  induction m with
  | zero =>
    intro i s hm hi hst hS hR
    have e : i = n := by omega
    subst e
    refine codeAny_builtin F.entry_set_update_loop ?_
    rw [Around.under_plainId F.plain_set_update_loop _]
    show wpAny _ A.in1 (pyNext (.ref I) >>= _) _ _ s
    refine wpAny_bind (W.done s _ _ hst fun s' mv => ?_)
    show wpAny _ A.in1 (ret Value.none) _ _ s'
    refine wpAny_pure (hR s' (mv.mono sub) ?_)
    rw [hn, List.take_length] at hS
    exact hS.at fun o e => mv.heap a o haw e
  | succ m ih =>
    intro i s hm hi hst hS hR
    have hlt : i < n := by omega
    refine codeAny_builtin F.entry_set_update_loop ?_
    rw [Around.under_plainId F.plain_set_update_loop _]
    show wpAny _ A.in1 (pyNext (.ref I) >>= _) _ _ s
    refine wpAny_bind (W.item i s _ _ hlt hst fun v s' hP hst' mv => ?_)
    obtain ⟨k, hk, rv⟩ := hv i v hP
    have hS' : SetQ w s'.heap a ((ks.take i).foldl insK []) := hS.at fun o e => mv.heap a o haw e
    show wpAny _ A.in1 (holding [v] (setAdd a v) >>= _) _ _ s'
    refine wpAny_bind (wpAny_holding ?_)
    unfold setAdd
    refine wpAny_holding ?_
    refine wpAny_bind ((mixKind P w).pyHash (k := k) (kV_is rv) ?_)
    have hl : ((ks.take i).foldl insK []).length ≤ ks.length := by
      have z := foldK_len (ks.take i) []
      have z2 := List.length_take_le i ks
      have z3 : (List.take i ks).length ≤ ks.length := List.length_take_le' i ks
      simp only [List.length_nil, Nat.add_zero] at z
      omega
    refine setQ_add_hashed (s := { s' with toks := s'.toks + 1 }) rv hS' (by omega) fun b h' sb S2 => ?_
    have et : ks.take (i + 1) = ks.take i ++ [k] := by
      rw [List.take_add_one, hk]
      rfl
    have S3 : SetQ w h' a ((ks.take (i + 1)).foldl insK []) := by
      rw [et, List.foldl_append]
      exact S2
    refine wpAny_pure ⟨plainId_quiet F.plain_set_update_loop _, ih (i + 1) _ (by omega) hlt (W.frame _ s' _ _ hst' (Nat.le_succ _) fun b hb o e => ?_) S3 fun s'' mv2 S4 => ?_⟩
    · rw [sb.2 b (fun z : b = a => haf (by rw [← z]; exact hb))]
      exact e
    · refine hR s'' (Moved.trans W.gtrans ((mv.mono sub).then_heap (Nat.le_succ _) fun b o hb e => ?_) mv2) S4
      rw [sb.2 b (fun z : b = a => hb (by rw [z]; exact List.mem_cons_self))]
      exact e

variable {E : Value → Shared → Prop} {s : Shared}
abbrev newSetO (w : World) : Obj := { cls := .type "set", dict := none, data := .set #[] 0 (.fresh 0 0 (!w.params.followText "set-order")) }
set_option maxHeartbeats 3200000 in
/-- set(x), by what the filling does -/
theorem call_setQ {x : Value} {S : List Key} {Q : Value → Shared → Prop} (hh : A.handled = none)
    (hup : ∀ (A' : Around) (s1 : Shared) (E' : Value → Shared → Prop) (Q' : Unit → Shared → Prop), A'.handled = none → s1 = { s with heap := s.heap.push (newSetO w) } →
      (∀ h' tk, SetQ w h' s.heap.objs.size S → (∀ b o, s.heap.get? b = some o → h'.get? b = some o) → Q' () { s with heap := h', toks := tk }) →
      wpAny (model P w) A' (Builtin.Frozenset.updateFrom "set.__init__" s.heap.objs.size x) Q' E' s1)
    (h : ∀ h' tk, SetQ w h' s.heap.objs.size S → (∀ b o, s.heap.get? b = some o → h'.get? b = some o) → Q (.ref s.heap.objs.size) { s with heap := h', toks := tk }) :
    wpAny (model P w) A (call (.type "set") [x]) Q E s := by
  obtain ⟨c, tl, hmro⟩ := F.called_set.mro
  have hmade := F.called_set.made
  have hsub := F.called_set.sub
  refine wpAny_call (codeAny_of_tree ?_)
  show wpAny _ _ (callAny (.type "set") _) _ _ _
  refine wpAny_pure ⟨Code.quiet_builtin _ (by decide +kernel), codeAny_builtin F.entry_type_call ?_⟩
  rw [Around.under_plain (weight_type_call_type "set" [x] []) rfl]
  have h1 := F.called_set.notType
  have h2 := F.called_set.canCreate
  have hct := F.typeCall_set_1 x
  repeat (any_goals (first | assumption | wp_step))
  refine codeAny_mono (code_set_led1 x (E := E) (Q₁ := fun obj z => obj = .ref s.heap.objs.size ∧ z = { s with heap := s.heap.push (newSetO w) }) ⟨rfl, rfl⟩) fun r z hr => ?_
  cases r with
  | error e => exact hr
  | ok fl =>
    cases fl with
    | ret obj =>
      obtain ⟨rfl, rfl⟩ := hr
      have hS : (s.heap.push (newSetO w)).get? s.heap.objs.size = some (newSetO w) := Heap.get?_push_size _ rfl
      have hT : Shared.TypeIs { s with heap := s.heap.push (newSetO w) } (.ref s.heap.objs.size) "set" := ⟨_, hS, rfl⟩
      have hli := F.called_set.init.lookup
      have hbi := F.called_set.init.bind (.ref s.heap.objs.size)
      repeat (any_goals (first | assumption | wp_step))
      refine codeAny_mono (codeAny_call_builtin (R := wants (fun r z => r = .none ∧ ∃ h' tk, z = { s with heap := h', toks := tk } ∧ SetQ w h' s.heap.objs.size S ∧ (∀ b o, s.heap.get? b = some o → h'.get? b = some o)) E)
        F.called_set.init.plain F.entry_set_init (check_set_init_1 hT ?_)) fun r2 z2 hr2 => ?_
      · unfold Builtin.«set.__init__» noKeywords
        generalize hU : Builtin.Frozenset.updateFrom = U
        wp_walk
        subst hU
        refine hup _ _ _ _ (by simp [hh]) rfl fun h' tk a1 a2 => ?_
        show wpAny _ _ (ret Value.none) _ _ _
        exact wpAny_pure ⟨rfl, h', tk, rfl, a1, a2⟩
      · cases r2 with
        | error e => exact hr2
        | ok fl2 =>
          cases fl2 with
          | ret r =>
            obtain ⟨rfl, h', tk, rfl, a1, a2⟩ := hr2
            repeat (any_goals (first | assumption | wp_step))
            exact h _ _ a1 a2
          | _ => exact hr2.elim
    | _ => exact hr.elim
end
/-- the set at a, as a tracked thing -/
def SetQO (w : World) (a : Addr) (S : List Key) : HO := .ext fun h => SetQ w h a S
theorem setQO_new {P : Program} {w : World} {H : Hp} {h : Heap} {a : Addr} {S : List Key} (R : SetQ w h a S) : ObjOk P w H h a (SetQO w a S) :=
  ⟨R, R.has, fun _ _ p k => p.at k⟩
theorem setQO_get {X : Cx} {pins : List (Addr × Obj)} {σ : L2.St} {H : Hp} {s : Shared} {a : Addr} {S : List Key} (I : Inv X pins σ H s) (ha : H a = some (SetQO X.w a S)) : SetQ X.w s.heap a S := (I.hok a _ ha).1
/-! ### what fills a set -/
section
variable {P : Program} {w : World} {s : Shared} {ks : List Key}
theorem upd_of {I : Addr} {fp wr : List Addr} {n : Nat} {Pv : Nat → Value → Prop} {A' : Around} {h1 : Heap} {E' : Value → Shared → Prop} {Q' : Unit → Shared → Prop} {St : Nat → Heap → Prop}
    (W : Walks P w A'.in1 I fp wr n Pv St) (haf : s.heap.objs.size ∉ fp) (hwr : ∀ b ∈ wr, s.heap.objs.size < b) (hn : n = ks.length) (hb : ks.length + 1 < scanBound) (hv : ∀ i v, Pv i v → ∃ k, ks[i]? = some k ∧ RelV (kV k) v)
    (k1 : ∀ b o, (s.heap.push (newSetO w)).get? b = some o → h1.get? b = some o) (st : St 0 h1)
    (h : ∀ h' tk, SetQ w h' s.heap.objs.size (unqK ks) → (∀ b o, s.heap.get? b = some o → h'.get? b = some o) → Q' () { s with heap := h', toks := tk }) :
    wpAny (model P w) A' (runValue (.builtin "set.update.loop" ⟨[.ref s.heap.objs.size, .ref I], []⟩) >>= fun _ => pure ()) Q' E' { s with heap := h1 } := by
  have hS : (s.heap.push (newSetO w)).get? s.heap.objs.size = some (newSetO w) := Heap.get?_push_size _ rfl
  refine wpAny_bind (wpAny_runValue ?_)
  refine setQ_loop W.toS s.heap.objs.size haf ks hn hb hv (n - 0) 0 _ rfl (Nat.zero_le _) st (setQ_fresh (k1 _ _ hS) ⟨rfl, rfl, rfl⟩ rfl rfl) fun s' mv R => ?_
  obtain ⟨h', g', d', tk', os'⟩ := s'
  have eg : g' = s.gens := mv.gens
  have ed : d' = s.drawn := mv.drawn
  have eo : os' = s.os := mv.os
  subst eg
  subst ed
  subst eo
  refine wpAny_pure (h h' tk' R fun b o e => ?_)
  have hb0 : b < s.heap.objs.size := Heap.lt_size e
  refine mv.heap b o (fun z => ?_) (k1 b o (Heap.get?_push_of_some _ e))
  rcases List.mem_cons.mp z with z | z
  · exact absurd hb0 (by rw [z]; exact Nat.lt_irrefl _)
  · exact Nat.lt_asymm hb0 (hwr b z)
theorem upd_list {l : Addr} {items : Array Value} (hl : s.heap.IsList l items) (hi : Vals (ks.map kV) items.toList) (hb : ks.length + 1 < scanBound) :
    ∀ (A' : Around) (s1 : Shared) (E' : Value → Shared → Prop) (Q' : Unit → Shared → Prop), A'.handled = none → s1 = { s with heap := s.heap.push (newSetO w) } →
      (∀ h' tk, SetQ w h' s.heap.objs.size (unqK ks) → (∀ b o, s.heap.get? b = some o → h'.get? b = some o) → Q' () { s with heap := h', toks := tk }) →
      wpAny (model P w) A' (Builtin.Frozenset.updateFrom "set.__init__" s.heap.objs.size (.ref l)) Q' E' s1 := by
  intro A' s1 E' Q' hh e h
  subst e
  obtain ⟨ol, hol, hcl, nl, hdl⟩ := hl
  obtain ⟨ocls, odict, odata, oslots⟩ := ol
  simp only at hcl hdl
  subst hcl
  subst hdl
  have hol' : (s.heap.push (newSetO w)).get? l = some { cls := .type "list", dict := odict, data := .seq items nl, slots := oslots } := Heap.get?_push_of_some _ hol
  have hsls := F.sub_list_set
  have hslf := F.sub_list_frozenset
  have hne : (Value.type "list" == Value.type "dict") = false := by decide
  have hl1 : (s.heap.push (newSetO w)).IsList l items := ⟨_, hol', rfl, nl, rfl⟩
  have hlt : l < s.heap.objs.size := Heap.lt_size hol
  unfold Builtin.Frozenset.updateFrom
  generalize hPI : pyIter = PI
  generalize hRV : runValue = RV
  wp_walk
  subst hPI
  refine wpAny_pyIter_list hl1 ?_
  subst hRV
  have sz : (s.heap.push (newSetO w)).objs.size = s.heap.objs.size + 1 := Heap.size_push ..
  have len : items.size = ks.length := by
    rw [← Array.length_toList, ← hi.length, List.length_map]
  refine upd_of (ks := ks) (Walks.list (by simp [hh]) _ l (by rw [sz]; exact Nat.ne_of_lt (Nat.lt_succ_of_lt hlt)) items) ?_ ?_ len hb (fun i v hv => ?_) (fun b o q => Heap.get?_push_of_some _ q) ⟨⟨_, Heap.get?_push_size _ rfl, rfl, rfl⟩, hl1.push _⟩ h
  · simp only [List.mem_cons, List.not_mem_nil, or_false, not_or]
    rw [sz]
    exact ⟨Nat.ne_of_lt (Nat.lt_succ_self _), Nat.ne_of_gt hlt⟩
  · intro b z
    rw [List.mem_singleton.mp z, sz]
    exact Nat.lt_succ_self _
  · have q : items.toList[i]? = some v := by
      rw [Array.getElem?_toList]
      exact hv
    have hlt2 : i < ks.length := by
      rw [← len]
      exact (Array.getElem?_eq_some_iff.mp hv).1
    obtain ⟨u, h1, h2⟩ := hi.get (i := i) (x := kV ks[i]) (by rw [List.getElem?_map, List.getElem?_eq_getElem hlt2]; rfl)
    rw [q] at h1
    cases h1
    exact ⟨ks[i], List.getElem?_eq_getElem hlt2, h2⟩
theorem upd_str {x : Str} {t : Tok} (hk : ks = x.cps.toList.map fun c => .inr ⟨#[c]⟩) (hb : ks.length + 1 < scanBound) :
    ∀ (A' : Around) (s1 : Shared) (E' : Value → Shared → Prop) (Q' : Unit → Shared → Prop), A'.handled = none → s1 = { s with heap := s.heap.push (newSetO w) } →
      (∀ h' tk, SetQ w h' s.heap.objs.size (unqK ks) → (∀ b o, s.heap.get? b = some o → h'.get? b = some o) → Q' () { s with heap := h', toks := tk }) →
      wpAny (model P w) A' (Builtin.Frozenset.updateFrom "set.__init__" s.heap.objs.size (.str x t)) Q' E' s1 := by
  intro A' s1 E' Q' hh e h
  subst e
  have hsls := F.sub_str_set
  have hslf := F.sub_str_frozenset
  have hne : (Value.type "str" == Value.type "dict") = false := by decide
  unfold Builtin.Frozenset.updateFrom
  generalize hPI : pyIter = PI
  generalize hRV : runValue = RV
  wp_walk
  subst hPI
  refine wpAny_pyIter_str fun o St W st => ?_
  subst hRV
  have sz : (s.heap.push (newSetO w)).objs.size = s.heap.objs.size + 1 := Heap.size_push ..
  have len : x.cps.size = ks.length := by rw [hk, List.length_map, Array.length_toList]
  refine upd_of (ks := ks) (W A'.in1 (by simp [hh])) ?_ ?_ len hb (fun i v hv => ?_) (fun b o q => Heap.get?_push_of_some _ q) st h
  · simp only [List.mem_cons, List.not_mem_nil, or_false]
    rw [sz]
    exact Nat.ne_of_lt (Nat.lt_succ_self _)
  · intro b z
    rw [List.mem_singleton.mp z, sz]
    exact Nat.lt_succ_self _
  · obtain ⟨c, u, h1, h2⟩ := hv
    refine ⟨.inr ⟨#[c]⟩, ?_, u, h2⟩
    rw [hk, List.getElem?_map, Array.getElem?_toList, h1]
    rfl
end
end Ib

set_option Elab.async false
set_option linter.all false
set_option maxRecDepth 100000
namespace Ib
open PySem
/-- the defs that make a lambda -/
def LAMS : List Str := ["law"]
end Ib

set_option Elab.async false
set_option linter.all false
set_option maxRecDepth 100000
set_option maxHeartbeats 2000000
/-! The J layer, part A: data, cells, what stands for what. -/
namespace Ib
open PySem PySem.Spec PyProof.Rows L2

/-- a datum: a tree, or the k-th mutable cell -/
inductive D where
  | non | bl (b : Bool) | int (i : Int) | str (x : List Nat) | ty (n : String) | gl (x : Str)
  | lst (xs : List D) | tup (xs : List D)
  | dk (ks : List Key) (xs : List D) | dt (ks : List (List Key)) (xs : List D)
  | st (ks : List Key) | adr (a : Addr) | tn (xs : List D)
  | cel (k : Nat)
  deriving Inhabited

/-- a mutable cell -/
inductive MO where
  | lst (xs : List D)
  | dk (ks : List Key) (xs : List D) | dt (ks : List (List Key)) (xs : List D)
  | st (ks : List Key)
  | frz (d : D)
  deriving Inhabited
abbrev Cells := List MO
/-- what a run of an expression comes to -/
inductive Out (α : Type) where
  | ok (a : α) (ce : Cells) | ex (x : Str) (ce : Cells) | bad
def Out.bind {α β : Type} (r : Out α) (f : α → Cells → Out β) : Out β := match r with
  | .ok a ce => f a ce
  | .ex x ce => .ex x ce
  | .bad => .bad
abbrev SEnv := List (Option D)
abbrev EDen := SEnv → Cells → Out D
/-- what a run of statements comes to -/
inductive SOut where
  | nx (sl : SEnv) (ce : Cells) | rt (d : D) (ce : Cells) | bk (sl : SEnv) (ce : Cells) | ct (sl : SEnv) (ce : Cells) | ex (x : Str) (sl : SEnv) (ce : Cells) | bad
abbrev SDen := SEnv → Cells → SOut
abbrev FDen := List D → Cells → Out D

/-- what all contexts of a law share -/
structure Cfg where
  P : Program
  w : World
  K : PySem.W.Frag
  mg : Str → Option Value
def cfg (X : Cx) : Cfg := ⟨X.prog, X.w, X.K, X.mg⟩
/-- the tables of the defs that make a lambda, with the lambda's name -/
def tbls (c : Cfg) : List (Addr × Str) := LAMS.filterMap fun x => (PySem.W.tabIn c.K x).map fun p => (p.2, (x ++ ".<locals>.") ++ "<lambda>")

theorem setQO_ne_code {w : World} {a : Addr} {S : List Key} (x : Addr) (q : Str) : SetQO w a S ≠ LamX.CodeO x q := fun z => by
  unfold SetQO LamX.CodeO at z
  have e := HO.ext.inj z
  obtain ⟨ob, hob⟩ : ∃ ob : Obj, ob = { cls := .none, data := .fields #[.none, .str q default] } := ⟨_, rfl⟩
  have hd0 : ob.data = .fields #[.none, .str q default] := by rw [hob]
  have g : ∀ b, ({ objs := Array.replicate (x + 1) ob } : Heap).get? b = if b < x + 1 then some ob else none := fun b => by
    unfold Heap.get?
    by_cases hb : b < x + 1
    · have : (Array.replicate (x + 1) ob)[b]? = some ob := by simp [Array.getElem?_replicate, hb]
      rw [if_pos hb]
      show (match (Array.replicate (x + 1) ob)[b]? with | some ⟨_, _, .freed, _⟩ => none | r => r) = _
      rw [this, hob]
    · have : (Array.replicate (x + 1) ob)[b]? = none := by simp [Array.getElem?_replicate, hb]
      rw [if_neg hb]
      show (match (Array.replicate (x + 1) ob)[b]? with | some ⟨_, _, .freed, _⟩ => none | r => r) = _
      rw [this]
  have e1 := congrFun e { objs := Array.replicate (x + 1) ob }
  have h1 : SetQ w { objs := Array.replicate (x + 1) ob } a S := by
    rw [e1]
    exact ⟨ob, _, default, by rw [g, if_pos (Nat.lt_succ_self x)], hd0, rfl⟩
  obtain ⟨o, es, ep, t, ks, ho, _, hd, _⟩ := h1
  rw [g] at ho
  split at ho
  · cases ho
    rw [hd0] at hd
    cases hd
  · cases ho
/-! ### trees -/
def LstO (c : Cfg) (O : List Addr) (H : Hp) (p : Addr) (vs : List V) : Prop := (p ∉ O ∧ Rd H p (.lst vs)) ∨
    ∃ (o : Obj) (its : Array Value) (n : Nat), c.K.lookup p = some o ∧ o.cls = .type "list" ∧ o.dict = none ∧ o.data = .seq its n ∧ its.size ≤ sizeLine ∧ Vals vs its.toList
def TupO (c : Cfg) (O : List Addr) (H : Hp) (p : Addr) (vs : List V) : Prop := p ∉ O ∧ H p = some (.tup vs)
theorem LstO.sq {c : Cfg} {O : List Addr} {H : Hp} {p : Addr} {vs : List V} (h : LstO c O H p vs) : SqL c.K H p vs := h.elim (fun z => .inl z.2) .inr
theorem TupO.sq {c : Cfg} {O : List Addr} {H : Hp} {p : Addr} {vs : List V} (h : TupO c O H p vs) : SqT c.K H p vs := .inl (.inl h.2)

/-- the texts met here: of signs below 128, not long -/
def okS (x : List Nat) : Prop := x.length ≤ 1000000 ∧ ∀ c ∈ x, c < 128
theorem okS_by {l : List Nat} (h : (decide (l.length ≤ 1000000) && l.all fun c => decide (c < 128)) = true) : okS l := by simpa [okS] using h
def okK : Key → Prop
  | .inl _ => True
  | .inr x => okS x.cps.toList
mutual
/-- the value v is the tree d; nothing tracked in it stands at an address of O -/
def RepT (c : Cfg) (O : List Addr) (H : Hp) : D → V → Prop
  | .non, v => v = .non
  | .bl b, v => v = .bl b
  | .int i, v => v = .int i
  | .str x, v => v = .str ⟨x.toArray⟩ ∧ okS x
  | .ty n, v => v = .ty n
  | .gl x, v => ∃ u, c.mg x = some u ∧ RelV v u
  | .lst xs, v => ∃ p vs, v = .ref p ∧ LstO c O H p vs ∧ RepTs c O H xs vs
  | .tup xs, v => ∃ p vs, v = .ref p ∧ TupO c O H p vs ∧ RepTs c O H xs vs
  | .dk ks xs, v => ∃ p vs, v = .ref p ∧ p ∉ O ∧ H p = some (.dK (ks.zip vs)) ∧ ks.length = vs.length ∧ RepTs c O H xs vs
  | .dt ks xs, v => ∃ p vs, v = .ref p ∧ p ∉ O ∧ Rd H p (.dT (ks.zip vs)) ∧ ks.length = vs.length ∧ (∀ k ∈ ks, ∀ x ∈ k, okK x) ∧ RepTs c O H xs vs
  | .st ks, v => ∃ p, v = .ref p ∧ p ∉ O ∧ H p = some (SetQO c.w p ks) ∧ ∀ k ∈ ks, okK k
  | .adr a, v => v = .ref a
  | .tn xs, v => ∃ p vs o, v = .ref p ∧ p ∉ O ∧ H p = some (.frz o (.tup vs)) ∧ o.dict = none ∧ o.cls = .type "tuple" ∧ RepTs c O H xs vs
  | .cel _, _ => False
def RepTs (c : Cfg) (O : List Addr) (H : Hp) : List D → List V → Prop
  | [], vs => vs = []
  | d :: ds, vs => ∃ v r, vs = v :: r ∧ RepT c O H d v ∧ RepTs c O H ds r
end

/-- the ghost grows: what stands outside O stays; cells are added -/
structure Ext (τ O : List Addr) (H : Hp) (τ' O' : List Addr) (H' : Hp) : Prop where
  heap : ∀ a o, a ∉ O → H a = some o → H' a = some o ∨ ∃ ob kvs, o = .dT kvs ∧ H' a = some (.frz ob o)
  pre : ∀ (k : Nat) a, τ[k]? = some a → τ'[k]? = some a
  avoid : ∀ a ∈ O', a ∈ O ∨ H a = none
section
variable {τ τ' τ'' O O' O'' : List Addr} {H H' H'' : Hp}
theorem Ext.refl : Ext τ O H τ O H := ⟨fun _ _ _ h => .inl h, fun _ _ h => h, fun _ h => .inl h⟩
theorem Ext.not (e : Ext τ O H τ' O' H') {a : Addr} {o : HO} (h : a ∉ O) (q : H a = some o) : a ∉ O' := fun z => (e.avoid a z).elim h fun n => by rw [n] at q; cases q
theorem Ext.trans (a : Ext τ O H τ' O' H') (b : Ext τ' O' H' τ'' O'' H'') : Ext τ O H τ'' O'' H'' where
  heap := fun x o h q => by
    rcases a.heap x o h q with z | ⟨ob, kvs, rfl, z⟩
    · exact b.heap x o (a.not h q) z
    · rcases b.heap x _ (a.not h q) z with y | ⟨ob2, kvs2, y, _⟩
      · exact .inr ⟨ob, kvs, rfl, y⟩
      · cases y
  pre := fun k x h => b.pre k x (a.pre k x h)
  avoid := fun x h => by
    by_cases hO : x ∈ O
    · exact .inl hO
    · cases q : H x with
      | none => exact .inr rfl
      | some o =>
        have h1 := a.not hO q
        have h2 := a.heap x o hO q
        rcases b.avoid x h with z | z
        · exact absurd z h1
        · rw [z] at h2
          rcases h2 with h2 | ⟨_, _, _, h2⟩
          · cases h2
          · cases h2
theorem Ext.keep (e : Ext τ O H τ' O' H') {a : Addr} {o : HO} (h : a ∉ O) (q : H a = some o) (n : ∀ kvs, o ≠ .dT kvs := by intro _ z; cases z) : H' a = some o := by
  rcases e.heap a o h q with z | ⟨_, kvs, z, _⟩
  · exact z
  · exact absurd z (n kvs)
theorem Ext.dT (e : Ext τ O H τ' O' H') {a : Addr} {kvs : List (List Key × V)} (h : a ∉ O) (q : Rd H a (.dT kvs)) : Rd H' a (.dT kvs) := by
  rcases q with q | ⟨ob, q⟩
  · rcases e.heap a _ h q with z | ⟨ob, _, _, z⟩
    · exact .inl z
    · exact .inr ⟨ob, z⟩
  · exact .inr ⟨ob, e.keep h q⟩
theorem Ext.notR (e : Ext τ O H τ' O' H') {a : Addr} {o : HO} (h : a ∉ O) (q : Rd H a o) : a ∉ O' := q.elim (fun q => e.not h q) fun ⟨_, q⟩ => e.not h q
theorem Ext.lock {p : Addr} {ob : Obj} {kvs : List (List Key × V)} (h : H p = some (.dT kvs)) : Ext τ O H τ O (upd H p (.frz ob (.dT kvs))) :=
  ⟨fun a o _ q => by
    by_cases e : a = p
    · subst e
      rw [h] at q
      cases q
      exact .inr ⟨ob, kvs, rfl, upd_same⟩
    · exact .inl (by rw [upd_ne e]; exact q), fun _ _ h => h, fun _ h => .inl h⟩
theorem Ext.same (s : Same H H') : Ext τ O H τ O H' := ⟨fun a o _ h => .inl (s a o h), fun _ _ h => h, fun _ h => .inl h⟩
theorem same_upd {H : Hp} {p : Addr} {o : HO} (h : H p = none) : Same H (upd H p o) := fun b x e => by
  rw [upd_ne (ne_of_none e h)]
  exact e
theorem Ext.new {p : Addr} {o : HO} (h : H p = none) : Ext τ O H τ O (upd H p o) := .same (same_upd h)
theorem Ext.mut {p : Addr} {o : HO} (h : p ∈ O) : Ext τ O H τ O (upd H p o) :=
  ⟨fun a u h1 h2 => .inl (by rw [upd_ne (show a ≠ p from fun e => h1 (by rw [e]; exact h))]; exact h2), fun _ _ h => h, fun _ h => .inl h⟩
theorem Ext.cell {p : Addr} {o : HO} (h : H p = none) : Ext τ O H (τ ++ [p]) (p :: O) (upd H p o) :=
  ⟨fun a u h1 h2 => .inl (same_upd h a u h2), fun k a h1 => by rw [List.getElem?_append_left (List.getElem?_eq_some_iff.mp h1).1]; exact h1, fun a h1 => by
    rcases List.mem_cons.mp h1 with e | e
    · subst e; exact .inr h
    · exact .inl e⟩
theorem Ext.fewer (h : ∀ a ∈ O', a ∈ O) : Ext τ O H τ O' H := ⟨fun _ _ _ h => .inl h, fun _ _ h => h, fun a q => .inl (h a q)⟩

variable {c : Cfg}
theorem LstO.ext {p : Addr} {vs : List V} (e : Ext τ O H τ' O' H') (h : LstO c O H p vs) : LstO c O' H' p vs := by
  rcases h with ⟨h1, h2⟩ | h
  · rcases h2 with h2 | ⟨o, h2⟩
    · exact .inl ⟨e.not h1 h2, .inl (e.keep h1 h2)⟩
    · exact .inl ⟨e.not h1 h2, .inr ⟨o, e.keep h1 h2⟩⟩
  · exact .inr h
theorem TupO.ext {p : Addr} {vs : List V} (e : Ext τ O H τ' O' H') (h : TupO c O H p vs) : TupO c O' H' p vs := by
  obtain ⟨h1, h2⟩ := h
  exact ⟨e.not h1 h2, e.keep h1 h2⟩
mutual
theorem RepT.ext (e : Ext τ O H τ' O' H') : ∀ (d : D) (v : V), RepT c O H d v → RepT c O' H' d v
  | .non, _, h => by rw [RepT] at h ⊢; exact h
  | .bl _, _, h => by rw [RepT] at h ⊢; exact h
  | .int _, _, h => by rw [RepT] at h ⊢; exact h
  | .str _, _, h => by rw [RepT] at h ⊢; exact h
  | .ty _, _, h => by rw [RepT] at h ⊢; exact h
  | .gl _, _, h => by rw [RepT] at h ⊢; exact h
  | .lst xs, _, h => by
    rw [RepT] at h ⊢
    obtain ⟨p, vs, h1, h2, h3⟩ := h
    exact ⟨p, vs, h1, h2.ext e, RepTs.ext e xs vs h3⟩
  | .tup xs, _, h => by
    rw [RepT] at h ⊢
    obtain ⟨p, vs, h1, h2, h3⟩ := h
    exact ⟨p, vs, h1, h2.ext e, RepTs.ext e xs vs h3⟩
  | .dk ks xs, _, h => by
    rw [RepT] at h ⊢
    obtain ⟨p, vs, h1, h2, h3, h4, h5⟩ := h
    exact ⟨p, vs, h1, e.not h2 h3, e.keep h2 h3, h4, RepTs.ext e xs vs h5⟩
  | .dt ks xs, _, h => by
    rw [RepT] at h ⊢
    obtain ⟨p, vs, h1, h2, h3, h4, hk, h5⟩ := h
    exact ⟨p, vs, h1, e.notR h2 h3, e.dT h2 h3, h4, hk, RepTs.ext e xs vs h5⟩
  | .st ks, _, h => by
    rw [RepT] at h ⊢
    obtain ⟨p, h1, h2, h3, h4⟩ := h
    exact ⟨p, h1, e.not h2 h3, e.keep h2 h3, h4⟩
  | .adr _, _, h => by rw [RepT] at h ⊢; exact h
  | .tn xs, _, h => by
    rw [RepT] at h ⊢
    obtain ⟨p, vs, o, h1, h2, h3, h4, h5, h6⟩ := h
    exact ⟨p, vs, o, h1, e.not h2 h3, e.keep h2 h3, h4, h5, RepTs.ext e xs vs h6⟩
  | .cel _, _, h => by rw [RepT] at h; exact h.elim
theorem RepTs.ext (e : Ext τ O H τ' O' H') : ∀ (ds : List D) (vs : List V), RepTs c O H ds vs → RepTs c O' H' ds vs
  | [], _, h => by rw [RepTs] at h ⊢; exact h
  | d :: ds, _, h => by
    rw [RepTs] at h ⊢
    obtain ⟨v, r, h1, h2, h3⟩ := h
    exact ⟨v, r, h1, RepT.ext e d v h2, RepTs.ext e ds r h3⟩
end
end

section
variable {c : Cfg} {O : List Addr} {H : Hp} {v : V}
@[simp] theorem repT_non : RepT c O H .non v ↔ v = .non := by rw [RepT]
@[simp] theorem repT_bl {b : Bool} : RepT c O H (.bl b) v ↔ v = .bl b := by rw [RepT]
@[simp] theorem repT_int {i : Int} : RepT c O H (.int i) v ↔ v = .int i := by rw [RepT]
@[simp] theorem repT_str {x : List Nat} : RepT c O H (.str x) v ↔ v = .str ⟨x.toArray⟩ ∧ okS x := by rw [RepT]
@[simp] theorem repT_ty {n : String} : RepT c O H (.ty n) v ↔ v = .ty n := by rw [RepT]
@[simp] theorem repT_cel {k : Nat} : RepT c O H (.cel k) v ↔ False := by rw [RepT]
theorem repT_gl {x : Str} : RepT c O H (.gl x) v ↔ ∃ u, c.mg x = some u ∧ RelV v u := by rw [RepT]
theorem repT_lst {xs : List D} : RepT c O H (.lst xs) v ↔ ∃ p vs, v = .ref p ∧ LstO c O H p vs ∧ RepTs c O H xs vs := by rw [RepT]
theorem repT_tup {xs : List D} : RepT c O H (.tup xs) v ↔ ∃ p vs, v = .ref p ∧ TupO c O H p vs ∧ RepTs c O H xs vs := by rw [RepT]
theorem repT_dk {ks : List Key} {xs : List D} : RepT c O H (.dk ks xs) v ↔ ∃ p vs, v = .ref p ∧ p ∉ O ∧ H p = some (.dK (ks.zip vs)) ∧ ks.length = vs.length ∧ RepTs c O H xs vs := by rw [RepT]
theorem repT_dt {ks : List (List Key)} {xs : List D} : RepT c O H (.dt ks xs) v ↔ ∃ p vs, v = .ref p ∧ p ∉ O ∧ Rd H p (.dT (ks.zip vs)) ∧ ks.length = vs.length ∧ (∀ k ∈ ks, ∀ x ∈ k, okK x) ∧ RepTs c O H xs vs := by rw [RepT]
theorem repT_tn {xs : List D} : RepT c O H (.tn xs) v ↔ ∃ p vs o, v = .ref p ∧ p ∉ O ∧ H p = some (.frz o (.tup vs)) ∧ o.dict = none ∧ o.cls = .type "tuple" ∧ RepTs c O H xs vs := by rw [RepT]
theorem repT_adr {a : Addr} : RepT c O H (.adr a) v ↔ v = .ref a := by rw [RepT]
theorem repT_st {ks : List Key} : RepT c O H (.st ks) v ↔ ∃ p, v = .ref p ∧ p ∉ O ∧ H p = some (SetQO c.w p ks) ∧ ∀ k ∈ ks, okK k := by rw [RepT]
@[simp] theorem repTs_nil {vs : List V} : RepTs c O H [] vs ↔ vs = [] := by rw [RepTs]
theorem repTs_cons {d : D} {ds : List D} {vs : List V} : RepTs c O H (d :: ds) vs ↔ ∃ v r, vs = v :: r ∧ RepT c O H d v ∧ RepTs c O H ds r := by rw [RepTs]
theorem RepTs.length : ∀ {ds : List D} {vs : List V}, RepTs c O H ds vs → ds.length = vs.length
  | [], _, h => by rw [repTs_nil] at h; subst h; rfl
  | d :: ds, _, h => by
    rw [repTs_cons] at h
    obtain ⟨v, r, rfl, _, h⟩ := h
    simp [RepTs.length h]
theorem RepTs.get : ∀ {ds : List D} {vs : List V} {i : Nat} {d : D}, RepTs c O H ds vs → ds[i]? = some d → ∃ v, vs[i]? = some v ∧ RepT c O H d v
  | [], _, _, _, _, e => by simp at e
  | d :: ds, _, i, d', h, e => by
    rw [repTs_cons] at h
    obtain ⟨v, r, rfl, h1, h2⟩ := h
    cases i with
    | zero => simp at e; subst e; exact ⟨v, rfl, h1⟩
    | succ i =>
      have e : ds[i]? = some d' := by simpa using e
      obtain ⟨w, q1, q2⟩ := RepTs.get h2 e
      exact ⟨w, by simpa using q1, q2⟩
theorem RepTs.getV {ds : List D} {vs : List V} {i : Nat} {v : V} (h : RepTs c O H ds vs) (e : vs[i]? = some v) : ∃ d, ds[i]? = some d ∧ RepT c O H d v := by
  have hl := h.length
  have hi : i < ds.length := by rw [hl]; exact (List.getElem?_eq_some_iff.mp e).1
  obtain ⟨v', e', r⟩ := h.get (List.getElem?_eq_getElem hi)
  rw [e] at e'; cases e'
  exact ⟨_, List.getElem?_eq_getElem hi, r⟩
theorem RepTs.append : ∀ {ds es : List D} {vs ws : List V}, RepTs c O H ds vs → RepTs c O H es ws → RepTs c O H (ds ++ es) (vs ++ ws)
  | [], _, _, _, h, h' => by rw [repTs_nil] at h; subst h; exact h'
  | d :: ds, es, _, ws, h, h' => by
    rw [repTs_cons] at h
    obtain ⟨v, r, rfl, h1, h2⟩ := h
    exact repTs_cons.mpr ⟨v, r ++ ws, rfl, h1, RepTs.append h2 h'⟩
theorem RepTs.one {d : D} (h : RepT c O H d v) : RepTs c O H [d] [v] := repTs_cons.mpr ⟨v, [], rfl, h, repTs_nil.mpr rfl⟩
theorem RepTs.take : ∀ {ds : List D} {vs : List V} (n : Nat), RepTs c O H ds vs → RepTs c O H (ds.take n) (vs.take n)
  | [], _, n, h => by rw [repTs_nil] at h; subst h; simp
  | d :: ds, _, 0, h => by simp
  | d :: ds, _, n + 1, h => by
    rw [repTs_cons] at h
    obtain ⟨v, r, rfl, h1, h2⟩ := h
    exact repTs_cons.mpr ⟨v, r.take n, rfl, h1, RepTs.take n h2⟩
theorem RepTs.drop : ∀ {ds : List D} {vs : List V} (n : Nat), RepTs c O H ds vs → RepTs c O H (ds.drop n) (vs.drop n)
  | [], _, n, h => by rw [repTs_nil] at h; subst h; simp
  | d :: ds, _, 0, h => h
  | d :: ds, _, n + 1, h => by
    rw [repTs_cons] at h
    obtain ⟨v, r, rfl, h1, h2⟩ := h
    exact RepTs.drop n h2
theorem RepTs.set : ∀ {ds : List D} {vs : List V} {d : D} (i : Nat), RepTs c O H ds vs → RepT c O H d v → RepTs c O H (ds.set i d) (vs.set i v)
  | [], _, _, i, h, _ => by rw [repTs_nil] at h; subst h; simp
  | d :: ds, _, d', 0, h, h' => by
    rw [repTs_cons] at h
    obtain ⟨v1, r, rfl, h1, h2⟩ := h
    exact repTs_cons.mpr ⟨v, r, rfl, h', h2⟩
  | d :: ds, _, d', i + 1, h, h' => by
    rw [repTs_cons] at h
    obtain ⟨v1, r, rfl, h1, h2⟩ := h
    exact repTs_cons.mpr ⟨v1, r.set i v, rfl, h1, RepTs.set i h2 h'⟩
theorem RepTs.eraseIdx : ∀ {ds : List D} {vs : List V} (i : Nat), RepTs c O H ds vs → RepTs c O H (ds.eraseIdx i) (vs.eraseIdx i)
  | [], _, i, h => by rw [repTs_nil] at h; subst h; simp
  | d :: ds, _, 0, h => by
    rw [repTs_cons] at h
    obtain ⟨v1, r, rfl, h1, h2⟩ := h
    exact h2
  | d :: ds, _, i + 1, h => by
    rw [repTs_cons] at h
    obtain ⟨v1, r, rfl, h1, h2⟩ := h
    exact repTs_cons.mpr ⟨v1, r.eraseIdx i, rfl, h1, RepTs.eraseIdx i h2⟩
theorem RepTs.ints : ∀ {ns : List Int} {vs : List V}, RepTs c O H (ns.map D.int) vs → vs = ns.map V.int
  | [], _, h => repTs_nil.mp h
  | n :: ns, _, h => by
    obtain ⟨v, r, rfl, h1, h2⟩ := repTs_cons.mp h
    rw [repT_int.mp h1, RepTs.ints h2]; rfl
theorem RepTs.bls : ∀ {bs : List Bool} {vs : List V}, RepTs c O H (bs.map D.bl) vs → vs = bs.map V.bl
  | [], _, h => repTs_nil.mp h
  | n :: ns, _, h => by
    obtain ⟨v, r, rfl, h1, h2⟩ := repTs_cons.mp h
    rw [repT_bl.mp h1, RepTs.bls h2]; rfl
def toStr (x : List Nat) : Str := ⟨x.toArray⟩
theorem RepTs.strs : ∀ {xs : List (List Nat)} {vs : List V}, RepTs c O H (xs.map D.str) vs → vs = xs.map fun x => V.str (toStr x)
  | [], _, h => repTs_nil.mp h
  | n :: ns, _, h => by
    obtain ⟨v, r, rfl, h1, h2⟩ := repTs_cons.mp h
    rw [(repT_str.mp h1).1, RepTs.strs h2]; rfl
theorem RepTs.okS : ∀ {xs : List (List Nat)} {vs : List V}, RepTs c O H (xs.map D.str) vs → ∀ x ∈ xs, Ib.okS x
  | [], _, h, x, hx => by cases hx
  | n :: ns, _, h, x, hx => by
    obtain ⟨v, r, rfl, h1, h2⟩ := repTs_cons.mp h
    rcases List.mem_cons.mp hx with rfl | hx
    · exact (repT_str.mp h1).2
    · exact RepTs.okS h2 x hx
theorem RepTs.ofInts : ∀ (ns : List Int), RepTs c O H (ns.map D.int) (ns.map V.int)
  | [] => repTs_nil.mpr rfl
  | n :: ns => repTs_cons.mpr ⟨_, _, rfl, repT_int.mpr rfl, RepTs.ofInts ns⟩
theorem RepTs.ofStrs : ∀ (xs : List (List Nat)), (∀ x ∈ xs, Ib.okS x) → RepTs c O H (xs.map D.str) (xs.map fun x => V.str (toStr x))
  | [], _ => repTs_nil.mpr rfl
  | n :: ns, h => repTs_cons.mpr ⟨_, _, rfl, repT_str.mpr ⟨rfl, h n List.mem_cons_self⟩, RepTs.ofStrs ns fun x hx => h x (List.mem_cons_of_mem _ hx)⟩
end

/-! ### cells, slots -/
/-- a value as it stands in a slot: a tree or a cell -/
def Rep (c : Cfg) (τ O : List Addr) (H : Hp) (d : D) (v : V) : Prop := match d with
  | .cel k => ∃ a, τ[k]? = some a ∧ v = .ref a
  | d => RepT c O H d v
def Reps (c : Cfg) (τ O : List Addr) (H : Hp) : List D → List V → Prop
  | [], vs => vs = []
  | d :: ds, vs => ∃ v r, vs = v :: r ∧ Rep c τ O H d v ∧ Reps c τ O H ds r
def CellOk (c : Cfg) (O : List Addr) (H : Hp) (a : Addr) : MO → Prop
  | .lst xs => a ∈ O ∧ ∃ vs, H a = some (.lst vs) ∧ RepTs c O H xs vs
  | .dk ks xs => a ∈ O ∧ ∃ vs, H a = some (.dK (ks.zip vs)) ∧ ks.length = vs.length ∧ RepTs c O H xs vs
  | .dt ks xs => a ∈ O ∧ ∃ vs, H a = some (.dT (ks.zip vs)) ∧ ks.length = vs.length ∧ (∀ k ∈ ks, ∀ x ∈ k, okK x) ∧ RepTs c O H xs vs
  | .st ks => a ∈ O ∧ H a = some (SetQO c.w a ks) ∧ ∀ k ∈ ks, okK k
  | .frz d => RepT c O H d (.ref a) ∧ H a ≠ none
structure WFh (c : Cfg) (τ O : List Addr) (ce : Cells) (H : Hp) : Prop where
  len : τ.length = ce.length
  trk : ∀ a ∈ O, H a ≠ none
  nd : τ.Nodup
  cell : ∀ (k : Nat) a m, τ[k]? = some a → ce[k]? = some m → CellOk c O H a m
  nx : ∀ a ∈ O, ∀ x q, H a ≠ some (LamX.CodeO x q)
  tab : ∀ p ∈ tbls c, p.1 ∈ O ∧ p.1 ∉ τ ∧ LamX.TabS H p.1 p.2
  nt : ∀ a ∈ O, ∀ xs, H a ≠ some (.tup xs)
structure SRep (c : Cfg) (τ O : List Addr) (H : Hp) (sl : SEnv) (σ : L2.St) : Prop where
  len : sl.length = σ.length
  at_ : ∀ (i : Nat) d, sl[i]? = some (some d) → ∃ v, σ[i]? = some (some v) ∧ Rep c τ O H d v

section
variable {c : Cfg} {τ τ' O O' : List Addr} {H H' : Hp} {ce ce' : Cells} {sl : SEnv} {σ : L2.St} {v : V} {d : D}
theorem Rep.ext (e : Ext τ O H τ' O' H') (h : Rep c τ O H d v) : Rep c τ' O' H' d v := by
  cases d with
  | cel k => obtain ⟨a, h1, h2⟩ := h; exact ⟨a, e.pre k a h1, h2⟩
  | _ => exact RepT.ext e _ _ h
theorem Reps.ext (e : Ext τ O H τ' O' H') : ∀ {ds : List D} {vs : List V}, Reps c τ O H ds vs → Reps c τ' O' H' ds vs
  | [], _, h => h
  | _ :: _, _, h => by obtain ⟨v, r, h1, h2, h3⟩ := h; exact ⟨v, r, h1, h2.ext e, Reps.ext e h3⟩
theorem RepT.rep (h : RepT c O H d v) : Rep c τ O H d v := by
  cases d with
  | cel k => rw [repT_cel] at h; exact h.elim
  | _ => exact h
theorem RepTs.reps : ∀ {ds : List D} {vs : List V}, RepTs c O H ds vs → Reps c τ O H ds vs
  | [], _, h => repTs_nil.mp h
  | _ :: _, _, h => by
    obtain ⟨v, r, h1, h2, h3⟩ := repTs_cons.mp h
    exact ⟨v, r, h1, h2.rep, RepTs.reps h3⟩
theorem SRep.ext (e : Ext τ O H τ' O' H') (h : SRep c τ O H sl σ) : SRep c τ' O' H' sl σ :=
  ⟨h.len, fun i d q => let ⟨v, a, b⟩ := h.at_ i d q; ⟨v, a, b.ext e⟩⟩
theorem CellOk.there {a : Addr} {m : MO} (h : CellOk c O H a m) : H a ≠ none := by
  cases m with
  | lst xs => obtain ⟨_, vs, e, _⟩ := h; rw [e]; exact fun z => by cases z
  | dk ks xs => obtain ⟨_, vs, e, _⟩ := h; rw [e]; exact fun z => by cases z
  | dt ks xs => obtain ⟨_, vs, e, _⟩ := h; rw [e]; exact fun z => by cases z
  | st ks => rw [h.2.1]; exact fun z => by cases z
  | frz d => exact h.2
theorem WFh.there (W : WFh c τ O ce H) {k : Nat} {a : Addr} (h : τ[k]? = some a) : H a ≠ none := by
  have hk : k < ce.length := by rw [← W.len]; exact (List.getElem?_eq_some_iff.mp h).1
  exact (W.cell k a _ h (List.getElem?_eq_getElem hk)).there
theorem WFh.notin (W : WFh c τ O ce H) {p : Addr} (h : H p = none) : p ∉ τ := fun z => by
  obtain ⟨k, hk⟩ := List.getElem?_of_mem z
  exact W.there hk h
/-- nothing tracked has changed -/
theorem CellOk.same (s : Same H H') {a : Addr} {m : MO} (h : CellOk c O H a m) : CellOk c O H' a m := by
  have e : Ext [] O H [] O H' := .same s
  cases m with
  | lst xs => obtain ⟨h1, vs, h2, h3⟩ := h; exact ⟨h1, vs, s _ _ h2, h3.ext e⟩
  | dk ks xs => obtain ⟨h1, vs, h2, h3, h4⟩ := h; exact ⟨h1, vs, s _ _ h2, h3, h4.ext e⟩
  | dt ks xs => obtain ⟨h1, vs, h2, h3, hk, h4⟩ := h; exact ⟨h1, vs, s _ _ h2, h3, hk, h4.ext e⟩
  | st ks => exact ⟨h.1, s _ _ h.2.1, h.2.2⟩
  | frz d =>
    refine ⟨h.1.ext e, fun z => ?_⟩
    cases q : H a with
    | none => exact h.2 q
    | some o => rw [s _ _ q] at z; cases z
theorem some_ne {α : Type} {x : α} {o : Option α} (h : o = some x) : o ≠ none := fun z => by rw [h] at z; cases z
theorem WFh.same (W : WFh c τ O ce H) (s : Same H H') : WFh c τ O ce H' :=
  ⟨W.len, fun a h => by
    cases q : H a with
    | none => exact absurd q (W.trk a h)
    | some o => exact some_ne (s _ _ q), W.nd, fun k a m h1 h2 => (W.cell k a m h1 h2).same s, fun a h x y z => by
    cases q : H a with
    | none => exact W.trk a h q
    | some o =>
      have := s _ _ q
      rw [z] at this
      cases this
      exact W.nx a h x y q, fun p hp => let ⟨h1, h2, h3⟩ := W.tab p hp; ⟨h1, h2, h3.ext s⟩, fun a h x z => by
    cases q : H a with
    | none => exact W.trk a h q
    | some o =>
      have := s _ _ q
      rw [z] at this
      cases this
      exact W.nt a h x q⟩
theorem CellOk.extL (e : Ext τ O H τ' O' H') {a : Addr} {m : MO} (h : CellOk c O H a m) (ha : a ∈ O → a ∈ O') (hs : ∀ o, H a = some o → H' a = some o) : CellOk c O' H' a m := by
  cases m with
  | lst xs => obtain ⟨h1, vs, h2, h3⟩ := h; exact ⟨ha h1, vs, hs _ h2, h3.ext e⟩
  | dk ks xs => obtain ⟨h1, vs, h2, h3, h4⟩ := h; exact ⟨ha h1, vs, hs _ h2, h3, h4.ext e⟩
  | dt ks xs => obtain ⟨h1, vs, h2, h3, hk, h4⟩ := h; exact ⟨ha h1, vs, hs _ h2, h3, hk, h4.ext e⟩
  | st ks => exact ⟨ha h.1, hs _ h.2.1, h.2.2⟩
  | frz d =>
    refine ⟨h.1.ext e, ?_⟩
    cases q : H a with
    | none => exact absurd q h.2
    | some o => exact some_ne (hs _ q)
/-- a new cell -/
theorem WFh.push (W : WFh c τ O ce H) {p : Addr} {o : HO} {m : MO} (hp : H p = none) (hm : CellOk c (p :: O) (upd H p o) p m) (ho : ∀ x q, o ≠ LamX.CodeO x q := by intro _ _ z; unfold LamX.CodeO at z; cases z) (ht : ∀ xs, o ≠ .tup xs := by intro _ z; cases z) : WFh c (τ ++ [p]) (p :: O) (ce ++ [m]) (upd H p o) := by
  have s := same_upd (o := o) hp
  refine ⟨by simp [W.len], fun a h => ?_, ?_, fun k a m' h1 h2 => ?_, fun a h x1 x2 z => ?_, fun q hq => ?_, fun a h x1 z => ?_⟩
  · rcases List.mem_cons.mp h with rfl | h
    · rw [upd_same]; exact fun z => by cases z
    · cases q : H a with
      | none => exact absurd q (W.trk a h)
      | some o => exact some_ne (s _ _ q)
  · rw [List.nodup_append]
    refine ⟨W.nd, by simp, fun a ha b hb => ?_⟩
    have : b = p := by simpa using hb
    subst this
    exact fun e => W.notin hp (e ▸ ha)
  · by_cases hk : k < τ.length
    · rw [List.getElem?_append_left hk] at h1
      rw [List.getElem?_append_left (by rw [← W.len]; exact hk)] at h2
      exact (W.cell k a m' h1 h2).extL (τ' := τ ++ [p]) (Ext.cell hp) (fun z => List.mem_cons_of_mem _ z) fun o q => s _ _ q
    · have hk' : k = τ.length := by
        have := (List.getElem?_eq_some_iff.mp h1).1
        simp at this
        omega
      subst hk'
      rw [List.getElem?_append_right (Nat.le_refl _)] at h1
      rw [W.len, List.getElem?_append_right (Nat.le_refl _)] at h2
      simp at h1 h2
      subst h1 h2
      exact hm
  · rcases List.mem_cons.mp h with e | h
    · rw [e, upd_same] at z
      exact ho x1 x2 (Option.some.inj z)
    · cases q : H a with
      | none => exact W.trk a h q
      | some u =>
        have := s _ _ q
        rw [z] at this
        cases this
        exact W.nx a h x1 x2 q
  · obtain ⟨h1, h2, h3⟩ := W.tab q hq
    refine ⟨List.mem_cons_of_mem _ h1, fun z => ?_, h3.ext s⟩
    rcases List.mem_append.mp z with z | z
    · exact h2 z
    · have e : q.1 = p := by simpa using z
      exact W.trk q.1 h1 (by rw [e]; exact hp)
  · rcases List.mem_cons.mp h with e | h
    · rw [e, upd_same] at z
      exact ht x1 (Option.some.inj z)
    · cases q : H a with
      | none => exact W.trk a h q
      | some u =>
        have := s _ _ q
        rw [z] at this
        cases this
        exact W.nt a h x1 q
/-- a cell is written -/
theorem WFh.set (W : WFh c τ O ce H) {k : Nat} {a : Addr} {o : HO} {m : MO} (hk : τ[k]? = some a) (ha : a ∈ O) (hm : CellOk c O (upd H a o) a m) (ho : ∀ x q, o ≠ LamX.CodeO x q := by intro _ _ z; unfold LamX.CodeO at z; cases z) (ht : ∀ xs, o ≠ .tup xs := by intro _ z; cases z) : WFh c τ O (ce.set k m) (upd H a o) := by
  refine ⟨by simp [W.len], fun b h => ?_, W.nd, fun j b m' h1 h2 => ?_, fun b h x1 x2 z => ?_, fun q hq => ?_, fun b h x1 z => ?_⟩
  · by_cases e : b = a
    · subst e; rw [upd_same]; exact fun z => by cases z
    · rw [upd_ne e]; exact W.trk b h
  · by_cases hj : j = k
    · subst hj
      rw [hk] at h1; cases h1
      have : j < ce.length := by rw [← W.len]; exact (List.getElem?_eq_some_iff.mp hk).1
      rw [List.getElem?_set_self this] at h2
      cases h2
      exact hm
    · rw [List.getElem?_set_ne (Ne.symm hj)] at h2
      have ne : b ≠ a := fun e => by
        subst e
        obtain ⟨h3, h4⟩ := List.getElem?_eq_some_iff.mp h1
        obtain ⟨h5, h6⟩ := List.getElem?_eq_some_iff.mp hk
        exact hj ((List.getElem_inj W.nd).mp (h4.trans h6.symm))
      exact (W.cell j b m' h1 h2).extL (Ext.mut (τ := τ) ha) (fun z => z) fun o q => by rw [upd_ne ne]; exact q
  · by_cases e : b = a
    · rw [e, upd_same] at z
      exact ho x1 x2 (Option.some.inj z)
    · rw [upd_ne e] at z
      exact W.nx b h x1 x2 z
  · obtain ⟨h1, h2, ps, h3, h4, h5⟩ := W.tab q hq
    have ne : q.1 ≠ a := fun e => h2 (by rw [e]; exact List.mem_of_getElem? hk)
    refine ⟨h1, h2, ps, by rw [upd_ne ne]; exact h3, h4, fun pos cv hc => ?_⟩
    obtain ⟨c', e1, e2⟩ := h5 pos cv hc
    exact ⟨c', e1, by rw [upd_ne (fun e => W.nx a ha _ _ (by rw [← e]; exact e2))]; exact e2⟩
  · by_cases e : b = a
    · rw [e, upd_same] at z
      exact ht x1 (Option.some.inj z)
    · rw [upd_ne e] at z
      exact W.nt b h x1 z
/-- only the first n cells are kept -/
theorem WFh.cut (W : WFh c τ O ce H) (n : Nat) : ∃ O', WFh c (τ.take n) O' (ce.take n) H ∧ (∀ a ∈ O', a ∈ O) ∧ (∀ a ∈ O, a ∉ τ.drop n → a ∈ O') ∧ ∀ a ∈ O', a ∉ τ.drop n := by
  refine ⟨O.filter fun a => decide (a ∉ τ.drop n), ?_, fun a h => (List.mem_filter.mp h).1, fun a h1 h2 => List.mem_filter.mpr ⟨h1, by simpa using h2⟩, fun a h => by simpa using (List.mem_filter.mp h).2⟩
  have sub : ∀ a ∈ O.filter (fun a => decide (a ∉ τ.drop n)), a ∈ O := fun a h => (List.mem_filter.mp h).1
  refine ⟨by simp [W.len], fun a h => W.trk a (sub a h), W.nd.sublist (List.take_sublist _ _), fun k a m h1 h2 => ?_, fun a h => W.nx a (sub a h), fun p hp => ?_, fun a h => W.nt a (sub a h)⟩
  rotate_left
  · obtain ⟨h1, h2, h3⟩ := W.tab p hp
    exact ⟨List.mem_filter.mpr ⟨h1, by simpa using fun z => h2 (List.mem_of_mem_drop z)⟩, fun z => h2 (List.mem_of_mem_take z), h3⟩
  have hk : k < n := by
    have := (List.getElem?_eq_some_iff.mp h1).1
    simp at this; omega
  rw [List.getElem?_take_of_lt hk] at h1 h2
  refine (W.cell k a m h1 h2).extL (Ext.fewer (τ := τ) sub) (fun z => List.mem_filter.mpr ⟨z, ?_⟩) fun _ q => q
  have : a ∉ τ.drop n := fun hm => by
    obtain ⟨j, hj⟩ := List.getElem?_of_mem hm
    rw [List.getElem?_drop] at hj
    obtain ⟨h3, h4⟩ := List.getElem?_eq_some_iff.mp h1
    obtain ⟨h5, h6⟩ := List.getElem?_eq_some_iff.mp hj
    have := (List.getElem_inj W.nd).mp (h4.trans h6.symm)
    omega
  simpa using this
/-- a dict of tuples, no cell any more, is locked for good -/
theorem WFh.lock (W : WFh c τ O ce H) {p : Addr} {ob : Obj} {kvs : List (List Key × V)} (hp : p ∉ O) (h : H p = some (.dT kvs)) : WFh c τ O ce (upd H p (.frz ob (.dT kvs))) := by
  have ne : ∀ a ∈ O, a ≠ p := fun a ha e => hp (e ▸ ha)
  have ex : Ext τ O H τ O (upd H p (.frz ob (.dT kvs))) := .lock h
  refine ⟨W.len, fun a ha => ?_, W.nd, fun k a m h1 h2 => ?_, fun a ha x q => ?_, fun q hq => ?_, fun a ha x => ?_⟩
  · rw [upd_ne (ne a ha)]; exact W.trk a ha
  · have z := W.cell k a m h1 h2
    cases m with
    | frz d =>
      refine ⟨z.1.ext ex, ?_⟩
      by_cases e : a = p
      · subst e; rw [upd_same]; exact fun z => by cases z
      · rw [upd_ne e]; exact z.2
    | lst xs => exact z.extL ex (fun z => z) fun o q => by rw [upd_ne (ne a z.1)]; exact q
    | dk ks xs => exact z.extL ex (fun z => z) fun o q => by rw [upd_ne (ne a z.1)]; exact q
    | dt ks xs => exact z.extL ex (fun z => z) fun o q => by rw [upd_ne (ne a z.1)]; exact q
    | st ks => exact z.extL ex (fun z => z) fun o q => by rw [upd_ne (ne a z.1)]; exact q
  · rw [upd_ne (ne a ha)]; exact W.nx a ha x q
  · obtain ⟨h1, h2, ps, h3, h4, h5⟩ := W.tab q hq
    refine ⟨h1, h2, ps, by rw [upd_ne (ne _ h1)]; exact h3, h4, fun pos cv hc => ?_⟩
    obtain ⟨c', e1, e2⟩ := h5 pos cv hc
    refine ⟨c', e1, ?_⟩
    rw [upd_ne (fun e => by rw [e, h] at e2; unfold LamX.CodeO at e2; cases e2)]
    exact e2
  · rw [upd_ne (ne a ha)]; exact W.nt a ha x
/-- a cell is frozen -/
theorem WFh.freeze (W : WFh c τ O ce H) {k : Nat} {a : Addr} {d : D} (hk : τ[k]? = some a) (hd : RepT c (O.filter fun b => decide (b ≠ a)) H d (.ref a)) : WFh c τ (O.filter fun b => decide (b ≠ a)) (ce.set k (.frz d)) H := by
  have sub : ∀ b ∈ O.filter (fun b => decide (b ≠ a)), b ∈ O := fun b h => (List.mem_filter.mp h).1
  refine ⟨by simp [W.len], fun b h => W.trk b (sub b h), W.nd, fun j b m h1 h2 => ?_, fun b h => W.nx b (sub b h), fun p hp => ?_, fun b h => W.nt b (sub b h)⟩
  rotate_left
  · obtain ⟨h1, h2, h3⟩ := W.tab p hp
    exact ⟨List.mem_filter.mpr ⟨h1, by simpa using fun e => h2 (by rw [e]; exact List.mem_of_getElem? hk)⟩, h2, h3⟩
  by_cases hj : j = k
  · subst hj
    rw [hk] at h1; cases h1
    have : j < ce.length := by rw [← W.len]; exact (List.getElem?_eq_some_iff.mp hk).1
    rw [List.getElem?_set_self this] at h2
    cases h2
    exact ⟨hd, W.there hk⟩
  · rw [List.getElem?_set_ne (Ne.symm hj)] at h2
    have ne : b ≠ a := fun e => by
      subst e
      obtain ⟨h3, h4⟩ := List.getElem?_eq_some_iff.mp h1
      obtain ⟨h5, h6⟩ := List.getElem?_eq_some_iff.mp hk
      exact hj ((List.getElem_inj W.nd).mp (h4.trans h6.symm))
    exact (W.cell j b m h1 h2).extL (Ext.fewer (τ := τ) sub) (fun z => List.mem_filter.mpr ⟨z, by simpa using ne⟩) fun _ q => q
end
end Ib

set_option Elab.async false
set_option linter.all false
set_option maxRecDepth 100000
set_option maxHeartbeats 2000000
/-! The J layer, part B: the judgements and the rules for names, operators, tests, statements. -/
namespace Ib
open PySem PySem.Spec PyProof.Rows L2

/-! ### looking at a value -/
def look (ce : Cells) (d : D) : D := match d with
  | .cel k => match ce[k]? with
    | some (.lst xs) => .lst xs
    | some (.dk ks xs) => .dk ks xs
    | some (.dt ks xs) => .dt ks xs
    | some (.st ks) => .st ks
    | some (.frz d) => d
    | none => .non
  | d => d
/-- what is known of a value that is only read -/
def RepV (c : Cfg) (O : List Addr) (H : Hp) (d : D) (v : V) : Prop := match d with
  | .lst xs => ∃ p vs, v = .ref p ∧ SqL c.K H p vs ∧ RepTs c O H xs vs
  | .dk ks xs => ∃ p vs, v = .ref p ∧ H p = some (.dK (ks.zip vs)) ∧ ks.length = vs.length ∧ RepTs c O H xs vs
  | .dt ks xs => ∃ p vs, v = .ref p ∧ Rd H p (.dT (ks.zip vs)) ∧ ks.length = vs.length ∧ (∀ k ∈ ks, ∀ x ∈ k, okK x) ∧ RepTs c O H xs vs
  | .st ks => ∃ p, v = .ref p ∧ H p = some (SetQO c.w p ks) ∧ ∀ k ∈ ks, okK k
  | d => RepT c O H d v
def RepVs (c : Cfg) (O : List Addr) (H : Hp) : List D → List V → Prop
  | [], vs => vs = []
  | d :: ds, vs => ∃ v r, vs = v :: r ∧ RepV c O H d v ∧ RepVs c O H ds r
section
variable {c : Cfg} {τ O : List Addr} {H : Hp} {ce : Cells} {d : D} {v : V}
theorem RepT.view (h : RepT c O H d v) : RepV c O H d v := by
  cases d with
  | lst xs => obtain ⟨p, vs, h1, h2, h3⟩ := repT_lst.mp h; exact ⟨p, vs, h1, h2.sq, h3⟩
  | dk ks xs => obtain ⟨p, vs, h1, h2, h3, h4⟩ := repT_dk.mp h; exact ⟨p, vs, h1, h3, h4⟩
  | dt ks xs => obtain ⟨p, vs, h1, h2, h3, h4⟩ := repT_dt.mp h; exact ⟨p, vs, h1, h3, h4⟩
  | st ks => obtain ⟨p, h1, h2, h3, h4⟩ := repT_st.mp h; exact ⟨p, h1, h3, h4⟩
  | _ => exact h
theorem Rep.view (W : WFh c τ O ce H) (h : Rep c τ O H d v) : RepV c O H (look ce d) v := by
  cases d with
  | cel k =>
    obtain ⟨a, h1, rfl⟩ := h
    have hk : k < ce.length := by rw [← W.len]; exact (List.getElem?_eq_some_iff.mp h1).1
    have q := List.getElem?_eq_getElem hk
    have z := W.cell k a _ h1 q
    unfold look
    simp only [q]
    revert z
    cases ce[k] with
    | lst xs => exact fun ⟨_, vs, e, r⟩ => ⟨a, vs, rfl, .of e, r⟩
    | dk ks xs => exact fun ⟨_, vs, e, r⟩ => ⟨a, vs, rfl, e, r⟩
    | dt ks xs => exact fun ⟨_, vs, e, r⟩ => ⟨a, vs, rfl, .inl e, r⟩
    | st ks => exact fun ⟨_, e, r⟩ => ⟨a, rfl, e, r⟩
    | frz d => exact fun z => z.1.view
  | _ => exact RepT.view h
theorem Reps.view (W : WFh c τ O ce H) : ∀ {ds : List D} {vs : List V}, Reps c τ O H ds vs → RepVs c O H (ds.map (look ce)) vs
  | [], _, h => h
  | _ :: _, _, h => by obtain ⟨v, r, h1, h2, h3⟩ := h; exact ⟨v, r, h1, h2.view W, Reps.view W h3⟩
end

theorem Rep.toBl {c : Cfg} {τ O : List Addr} {H : Hp} {b : Bool} {v : V} (h : Rep c τ O H (.bl b) v) : v = .bl b := repT_bl.mp (show RepT c O H (.bl b) v from h)
theorem Rep.ofBl {c : Cfg} {τ O : List Addr} {H : Hp} {b : Bool} : Rep c τ O H (.bl b) (.bl b) := show RepT c O H (.bl b) (.bl b) from repT_bl.mpr rfl
/-! ### readings by a denotation -/
section
variable (c : Cfg) (W : WX)
/-- what must hold so that a run that comes to r gives what is wanted -/
def PostG {α : Type} (τ O : List Addr) (H : Hp) (σ : L2.St) (r : Out α) (K : List Addr → List Addr → Cells → Hp → α → Prop) : Prop := match r with
  | .ok a ce => ∀ τ' O' H', Ext τ O H τ' O' H' → WFh c τ' O' ce H' → K τ' O' ce H' a
  | .ex x ce => ∀ τ' O' H', Ext τ O H τ' O' H' → WFh c τ' O' ce H' → ∀ cls, c.mg x = some cls → W cls none σ H'
  | .bad => False
def tE (g : EDen) : TE := fun σ H Q => ∃ τ O sl ce, WFh c τ O ce H ∧ SRep c τ O H sl σ ∧ PostG c W τ O H σ (g sl ce) fun τ' O' ce' H' d => ∀ v, Rep c τ' O' H' d v → Q v H'
def tT (g : SEnv → Cells → Out Bool) : TT := fun σ H Q => ∃ τ O sl ce, WFh c τ O ce H ∧ SRep c τ O H sl σ ∧ PostG c W τ O H σ (g sl ce) fun τ' O' ce' H' b => Q b H'
def tA (g : SEnv → Cells → Out (List D)) : TA := fun σ H Q => ∃ τ O sl ce, WFh c τ O ce H ∧ SRep c τ O H sl σ ∧ PostG c W τ O H σ (g sl ce) fun τ' O' ce' H' ds => ∀ vs, Reps c τ' O' H' ds vs → Q vs H'
def PostS (τ O : List Addr) (H : Hp) (r : SOut) (D : Ends) : Prop := match r with
  | .nx sl ce => ∀ τ' O' σ' H', Ext τ O H τ' O' H' → WFh c τ' O' ce H' → SRep c τ' O' H' sl σ' → D.nx σ' H'
  | .bk sl ce => ∀ τ' O' σ' H', Ext τ O H τ' O' H' → WFh c τ' O' ce H' → SRep c τ' O' H' sl σ' → D.bk σ' H'
  | .ct sl ce => ∀ τ' O' σ' H', Ext τ O H τ' O' H' → WFh c τ' O' ce H' → SRep c τ' O' H' sl σ' → D.ct σ' H'
  | .rt d ce => ∀ τ' O' v H', Ext τ O H τ' O' H' → WFh c τ' O' ce H' → Rep c τ' O' H' d v → D.rt v H'
  | .ex x sl ce => ∀ τ' O' σ' H', Ext τ O H τ' O' H' → WFh c τ' O' ce H' → SRep c τ' O' H' sl σ' → ∀ cls, c.mg x = some cls → W cls none σ' H'
  | .bad => False
def tS (g : SDen) : TS := fun D σ H => ∃ τ O sl ce, WFh c τ O ce H ∧ SRep c τ O H sl σ ∧ PostS c W τ O H (g sl ce) D
end
def JE (X : Cx) (W : WX) (e : Expr) (g : EDen) : Prop := PE X e (tE (cfg X) W g)
def JT (X : Cx) (W : WX) (e : Expr) (g : SEnv → Cells → Out Bool) : Prop := PT X e (tT (cfg X) W g)
def JW (X : Cx) (W : WX) (e : Expr) (g : SEnv → Cells → Out Bool) : Prop := PW X e (tT (cfg X) W g)
def JA (X : Cx) (W : WX) (es : List Expr) (g : SEnv → Cells → Out (List D)) : Prop := PA X es (tA (cfg X) W g)
def JS (X : Cx) (W : WX) (st : Stmt) (g : SDen) : Prop := PS X st (tS (cfg X) W g)
def JSs (X : Cx) (W : WX) (st : List Stmt) (g : SDen) : Prop := PSs X st (tS (cfg X) W g)

section
variable {c : Cfg} {W : WX} {α β : Type} {τ τ' O O' : List Addr} {H H' : Hp} {σ : L2.St} {K : List Addr → List Addr → Cells → Hp → α → Prop}
theorem PostG.ext {r : Out α} (e : Ext τ O H τ' O' H') (h : PostG c W τ O H σ r K) : PostG c W τ' O' H' σ r K := by
  cases r with
  | ok a ce => exact fun t o h' e' w => h t o h' (e.trans e') w
  | ex x ce => exact fun t o h' e' w => h t o h' (e.trans e') w
  | bad => exact h
theorem PostG.bind {r : Out β} {f : β → Cells → Out α} (h : PostG c W τ O H σ (r.bind f) K) : PostG c W τ O H σ r fun τ1 O1 ce1 H1 b => PostG c W τ1 O1 H1 σ (f b ce1) K := by
  cases r with
  | ok a ce => exact fun t o h' e w => PostG.ext e h
  | ex x ce => exact h
  | bad => exact h
theorem PostG.mono {r : Out α} {K' : List Addr → List Addr → Cells → Hp → α → Prop} (h : PostG c W τ O H σ r K) (m : ∀ τ' O' ce H' a, Ext τ O H τ' O' H' → WFh c τ' O' ce H' → K τ' O' ce H' a → K' τ' O' ce H' a) : PostG c W τ O H σ r K' := by
  cases r with
  | ok a ce => exact fun t o h' e w => m _ _ _ _ _ e w (h t o h' e w)
  | ex x ce => exact h
  | bad => exact h
theorem PostG.done {a : α} {ce : Cells} (w : WFh c τ O ce H) (h : PostG c W τ O H σ (.ok a ce) K) : K τ O ce H a := h τ O H .refl w
theorem PostS.ext {r : SOut} {D : Ends} (e : Ext τ O H τ' O' H') (h : PostS c W τ O H r D) : PostS c W τ' O' H' r D := by
  cases r with
  | nx sl ce => exact fun t o s h' e' w => h t o s h' (e.trans e') w
  | bk sl ce => exact fun t o s h' e' w => h t o s h' (e.trans e') w
  | ct sl ce => exact fun t o s h' e' w => h t o s h' (e.trans e') w
  | rt d ce => exact fun t o v h' e' w => h t o v h' (e.trans e') w
  | ex x sl ce => exact fun t o s h' e' w => h t o s h' (e.trans e') w
  | bad => exact h
/-- an expression within a statement -/
def Out.st (r : Out α) (sl : SEnv) (f : α → Cells → SOut) : SOut := match r with
  | .ok a ce => f a ce
  | .ex x ce => .ex x sl ce
  | .bad => .bad
theorem PostS.st {r : Out α} {sl : SEnv} {f : α → Cells → SOut} {D : Ends} (s : SRep c τ O H sl σ) (h : PostS c W τ O H (r.st sl f) D) : PostG c W τ O H σ r fun τ1 O1 ce1 H1 a => PostS c W τ1 O1 H1 (f a ce1) D := by
  cases r with
  | ok a ce => exact fun t o h' e w => PostS.ext e h
  | ex x ce => exact fun t o h' e w cls q => h t o σ h' e w (s.ext e) cls q
  | bad => exact h
end
theorem PE.weak {X : Cx} {e : Expr} {t t' : TE} (h : PE X e t) (w : ∀ σ H Q, t' σ H Q → t σ H Q) : PE X e t' := ⟨fun pins s σ H Q I q => h.run pins s σ H Q I (w σ H Q q)⟩
theorem PT.weak {X : Cx} {e : Expr} {t t' : TT} (h : PT X e t) (w : ∀ σ H Q, t' σ H Q → t σ H Q) : PT X e t' := ⟨fun pins s σ H Q I q => h.run pins s σ H Q I (w σ H Q q)⟩
theorem PW.weak {X : Cx} {e : Expr} {t t' : TT} (h : PW X e t) (w : ∀ σ H Q, t' σ H Q → t σ H Q) : PW X e t' := ⟨fun wh pins s σ H Q I q => h.run wh pins s σ H Q I (w σ H Q q)⟩
theorem PA.weak {X : Cx} {e : List Expr} {t t' : TA} (h : PA X e t) (w : ∀ σ H Q, t' σ H Q → t σ H Q) : PA X e t' := ⟨fun pos pins s σ H Q I q => h.run pos pins s σ H Q I (w σ H Q q)⟩
theorem PS.weak {X : Cx} {e : Stmt} {t t' : TS} (h : PS X e t) (w : ∀ D σ H, t' D σ H → t D σ H) : PS X e t' := ⟨fun pins s σ H D I q => h.run pins s σ H D I (w D σ H q)⟩
theorem PSs.weak {X : Cx} {e : List Stmt} {t t' : TS} (h : PSs X e t) (w : ∀ D σ H, t' D σ H → t D σ H) : PSs X e t' := ⟨fun pins s σ H D I q => h.run pins s σ H D I (w D σ H q)⟩

/-! ### names, constants -/
def eVar (i : Nat) : EDen := fun sl ce => match sl[i]? with
  | some (some d) => .ok d ce
  | _ => .bad
def eC (d : D) : EDen := fun _ ce => .ok d ce
section
variable {X : Cx} {W : WX} {pos : Pos}
theorem je_var (i : Nat) {x : Str} (hN : X.N[i]? = some x) (hv : Vis X.env.scope x) (hd : (x == ("__debug__" : Str)) = false) (hcd : (x == ("__classdict__" : Str)) = false) : JE X W (.Name x pos) (eVar i) := by
  refine PE.weak (pe_var (i := i) hN hv hd hcd) fun σ H Q h => ?_
  obtain ⟨τ, O, sl, ce, w, s, h⟩ := h
  unfold eVar at h
  split at h
  · rename_i d e
    obtain ⟨v, e1, r⟩ := s.at_ i d e
    exact ⟨v, e1, h.done w v r⟩
  · exact h.elim
theorem je_c {e : Expr} {d : D} {v : V} (h : PE X e (tC v)) (hr : ∀ O H, RepT (cfg X) O H d v) : JE X W e (eC d) := by
  refine PE.weak h fun σ H Q h => ?_
  obtain ⟨τ, O, sl, ce, w, s, h⟩ := h
  exact h.done w v (hr O H).rep
theorem je_int {i : Int} {j} : JE X W (.Constant (.int i) j pos) (eC (.int i)) := je_c pe_int fun _ _ => repT_int.mpr rfl
theorem je_bl {b : Bool} {j} : JE X W (.Constant (.bool b) j pos) (eC (.bl b)) := je_c pe_bl fun _ _ => repT_bl.mpr rfl
theorem je_non {j} : JE X W (.Constant .none j pos) (eC .non) := je_c pe_non fun _ _ => repT_non.mpr rfl
theorem je_str {x : Str} {j} (l : List Nat) (h : x = toStr l) (hl : (decide (l.length ≤ 1000000) && l.all fun c => decide (c < 128)) = true) : JE X W (.Constant (.str x) j pos) (eC (.str l)) := je_c pe_str fun _ _ => repT_str.mpr ⟨by rw [h]; rfl, by simpa [okS] using hl⟩
theorem je_ty {x : Str} (n : String) (hg : Gl X x) (hm : X.mg x = none) (hv : bootBuiltins x = some (.type n)) (hn : x ≠ "__name__") (hd : (x == ("__debug__" : Str)) = false) : JE X W (.Name x pos) (eC (.ty n)) :=
  je_c (pe_bltn (v := .ty n) hg hm hv rfl hn hd) fun _ _ => repT_ty.mpr rfl
theorem je_gl {x : Str} {v : V} {u : Value} (hg : Gl X x) (hm : X.mg x = some u) (r : RelV v u) (hd : (x == ("__debug__" : Str)) = false) : JE X W (.Name x pos) (eC (.gl x)) :=
  je_c (pe_glob hg hm r hd) fun _ _ => repT_gl.mpr ⟨u, hm, r⟩
/-- a constant of the module, by its value -/
theorem je_glC {x : Str} {v : V} {u : Value} {d : D} (hg : Gl X x) (hm : X.mg x = some u) (r : RelV v u) (hd : (x == ("__debug__" : Str)) = false) (hr : ∀ O H, RepT (cfg X) O H d v) : JE X W (.Name x pos) (eC d) :=
  je_c (pe_glob hg hm r hd) hr
end

/-! ### operators by values -/
def liftO (r : Option D) (ce : Cells) : Out D := match r with
  | some d => .ok d ce
  | none => .bad
/-- two values read, a tree made -/
def rJ (c : Cfg) (g : D → D → Option D) : R2 := fun x y H Q => ∃ O dx dy d, (∀ a ∈ O, H a ≠ none) ∧ RepV c O H dx x ∧ RepV c O H dy y ∧ g dx dy = some d ∧ ∀ v H', Same H H' → RepT c O H' d v → Q v H'
def rJs (c : Cfg) (g : List D → Option D) : List V → Hp → VK → Prop := fun xs H Q => ∃ O ds d, (∀ a ∈ O, H a ≠ none) ∧ RepVs c O H ds xs ∧ g ds = some d ∧ ∀ v H', Same H H' → RepT c O H' d v → Q v H'
def rJm (c : Cfg) (g : D → List D → Option D) : V → List V → Hp → VK → Prop := fun x xs H Q => ∃ O dx ds d, (∀ a ∈ O, H a ≠ none) ∧ RepV c O H dx x ∧ RepVs c O H ds xs ∧ g dx ds = some d ∧ ∀ v H', Same H H' → RepT c O H' d v → Q v H'
def rJ1 (c : Cfg) (g : D → Option D) : V → Hp → VK → Prop := fun x H Q => ∃ O dx d, (∀ a ∈ O, H a ≠ none) ∧ RepV c O H dx x ∧ g dx = some d ∧ ∀ v H', Same H H' → RepT c O H' d v → Q v H'
def OpJ (X : Cx) (f : Value → Value → Sem Value) (g : D → D → Option D) : Prop := OpR X f (rJ (cfg X) g)
def IxJ (X : Cx) (g : D → D → Option D) : Prop := IxR X (rJ (cfg X) g)
def CallJ (X : Cx) (f : Value) (g : List D → Option D) : Prop := CallR X f (rJs (cfg X) g)
def MtJ (X : Cx) (id : String) (g : D → List D → Option D) : Prop := MtR X id (rJm (cfg X) g)
def UnJ (X : Cx) (f : Value → Sem Value) (g : D → Option D) : Prop := UnR X f (rJ1 (cfg X) g)
def eBin (g : D → D → Option D) (ga gb : EDen) : EDen := fun sl ce => (ga sl ce).bind fun x ce1 => (gb sl ce1).bind fun y ce2 => liftO (g (look ce2 x) (look ce2 y)) ce2
def eUn (g : D → Option D) (ga : EDen) : EDen := fun sl ce => (ga sl ce).bind fun x ce1 => liftO (g (look ce1 x)) ce1
section
variable {c : Cfg} {W : WX} {τ O : List Addr} {H : Hp} {σ : L2.St} {ce : Cells}
/-- the end of a pure step -/
theorem post_lift {r : Option D} {Q : VK} (w : WFh c τ O ce H) (h : PostG c W τ O H σ (liftO r ce) fun τ' O' ce' H' d => ∀ v, Rep c τ' O' H' d v → Q v H') : ∃ d, r = some d ∧ ∀ v H', Same H H' → RepT c O H' d v → Q v H' := by
  cases r with
  | none => exact h.elim
  | some d => exact ⟨d, rfl, fun v H' s r => h τ O H' (.same s) (w.same s) v r.rep⟩
variable {X : Cx} {a b : Expr} {ga gb : EDen} {pos : Pos}
theorem bin_t {g : D → D → Option D} : ∀ σ H Q, tE (cfg X) W (eBin g ga gb) σ H Q → tOp (rJ (cfg X) g) (tE (cfg X) W ga) (tE (cfg X) W gb) σ H Q := by
  intro σ H Q h
  obtain ⟨τ, O, sl, ce, w, s, h⟩ := h
  refine ⟨τ, O, sl, ce, w, s, (PostG.bind h).mono fun τ1 O1 ce1 H1 x e1 w1 h1 v r => ?_⟩
  refine ⟨τ1, O1, sl, ce1, w1, s.ext e1, (PostG.bind h1).mono fun τ2 O2 ce2 H2 y e2 w2 h2 u r2 => ?_⟩
  obtain ⟨d, e, q⟩ := post_lift w2 h2
  exact ⟨O2, _, _, d, w2.trk, (r.ext e2).view w2, r2.view w2, e, q⟩
theorem je_bin {op : Operator} {g : D → D → Option D} (o : OpJ X (binaryOp op) g) (ha : JE X W a ga) (hb : JE X W b gb) : JE X W (.BinOp a op b pos) (eBin g ga gb) :=
  PE.weak (pe_op o ha hb) bin_t
theorem je_cmp {op : CmpOp} {g : D → D → Option D} (o : OpJ X (compareOp op) g) (ha : JE X W a ga) (hb : JE X W b gb) (hm : behindInMarks op b = false) : JE X W (.Compare a [op] [b] pos) (eBin g ga gb) :=
  PE.weak (pe_cmpR o ha hb hm) bin_t
theorem je_ix {g : D → D → Option D} (o : IxJ X g) (ha : JE X W a ga) (hb : JE X W b gb) (hs : PlainIx b) : JE X W (.Subscript a b pos) (eBin g ga gb) :=
  PE.weak (pe_ix o ha hb hs) bin_t
theorem je_un {op : UnaryOp} {g : D → Option D} (o : UnJ X (unaryOp op) g) (ha : JE X W a ga) : JE X W (.UnaryOp op a pos) (eUn g ga) := by
  refine PE.weak (pe_un o ha) fun σ H Q h => ?_
  obtain ⟨τ, O, sl, ce, w, s, h⟩ := h
  refine ⟨τ, O, sl, ce, w, s, (PostG.bind h).mono fun τ1 O1 ce1 H1 x e1 w1 h1 v r => ?_⟩
  obtain ⟨d, e, q⟩ := post_lift w1 h1
  exact ⟨O1, _, d, w1.trk, r.view w1, e, q⟩

/-! ### tests -/
def asB (d : D) (ce : Cells) : Out Bool := match d with
  | .bl b => .ok b ce
  | _ => .bad
def tOf (ga : EDen) : SEnv → Cells → Out Bool := fun sl ce => (ga sl ce).bind asB
theorem tst_t {t : TT} : ∀ σ H Q, tT (cfg X) W (tOf ga) σ H Q → tE (cfg X) W ga σ H fun x H1 => ∃ b, x = .bl b ∧ Q b H1 := by
  intro σ H Q h
  obtain ⟨τ, O, sl, ce, w, s, h⟩ := h
  refine ⟨τ, O, sl, ce, w, s, (PostG.bind h).mono fun τ1 O1 ce1 H1 x e1 w1 h1 v r => ?_⟩
  cases x with
  | bl b => exact ⟨b, r.toBl, h1.done w1⟩
  | _ => exact h1.elim
theorem jt_val (ha : JE X W a ga) (he : ∀ whole, isTrue a X.env whole = (do let v ← whole; standAt a.pos; holding [v] (truthy v))) : JT X W a (tOf ga) :=
  PT.weak (pt_val ha he) (tst_t (t := fun _ _ _ => True))
theorem jt_cmp {op : CmpOp} {g : D → D → Option D} (o : OpJ X (compareOp op) g) (ha : JE X W a ga) (hb : JE X W b gb) (hm : behindInMarks op b = false) : JT X W (.Compare a [op] [b] pos) (tOf (eBin g ga gb)) :=
  PT.weak (pt_cmpR o ha hb hm) fun σ H Q h => bin_t σ H _ (tst_t (t := fun _ _ _ => True) σ H Q h)
def tNotD (g : SEnv → Cells → Out Bool) : SEnv → Cells → Out Bool := fun sl ce => (g sl ce).bind fun b ce1 => .ok (!b) ce1
def tAndD (g g' : SEnv → Cells → Out Bool) : SEnv → Cells → Out Bool := fun sl ce => (g sl ce).bind fun b ce1 => if b = true then g' sl ce1 else .ok false ce1
def tOrD (g g' : SEnv → Cells → Out Bool) : SEnv → Cells → Out Bool := fun sl ce => (g sl ce).bind fun b ce1 => if b = true then .ok true ce1 else g' sl ce1
variable {gt gt' : SEnv → Cells → Out Bool} {rest : List Expr}
theorem jt_not (ha : JT X W a gt) : JT X W (.UnaryOp .Not a pos) (tNotD gt) := by
  refine PT.weak (pt_not ha) fun σ H Q h => ?_
  obtain ⟨τ, O, sl, ce, w, s, h⟩ := h
  exact ⟨τ, O, sl, ce, w, s, (PostG.bind h).mono fun τ1 O1 ce1 H1 x e1 w1 h1 => h1.done w1⟩
theorem jw_and1 (ha : JT X W a gt) : JW X W (.BoolOp .And [a] pos) gt := pw_and1 ha
theorem jw_or1 (ha : JT X W a gt) : JW X W (.BoolOp .Or [a] pos) gt := pw_or1 ha
theorem jw_and (ha : JT X W a gt) (hb : JW X W (.BoolOp .And (b :: rest) pos) gt') : JW X W (.BoolOp .And (a :: b :: rest) pos) (tAndD gt gt') := by
  refine PW.weak (pw_and ha hb) fun σ H Q h => ?_
  obtain ⟨τ, O, sl, ce, w, s, h⟩ := h
  refine ⟨τ, O, sl, ce, w, s, (PostG.bind h).mono fun τ1 O1 ce1 H1 x e1 w1 h1 => ?_⟩
  cases x with
  | true => exact ⟨τ1, O1, sl, ce1, w1, s.ext e1, h1⟩
  | false => exact h1.done w1
theorem jw_or (ha : JT X W a gt) (hb : JW X W (.BoolOp .Or (b :: rest) pos) gt') : JW X W (.BoolOp .Or (a :: b :: rest) pos) (tOrD gt gt') := by
  refine PW.weak (pw_or ha hb) fun σ H Q h => ?_
  obtain ⟨τ, O, sl, ce, w, s, h⟩ := h
  refine ⟨τ, O, sl, ce, w, s, (PostG.bind h).mono fun τ1 O1 ce1 H1 x e1 w1 h1 => ?_⟩
  cases x with
  | true => exact h1.done w1
  | false => exact ⟨τ1, O1, sl, ce1, w1, s.ext e1, h1⟩
theorem jw_pt (h : JW X W a gt) : JT X W a gt := PW.pt h
/-! .. as values -/
def eOfT (g : SEnv → Cells → Out Bool) : EDen := fun sl ce => (g sl ce).bind fun b ce1 => .ok (.bl b) ce1
theorem je_one {op} (ha : JE X W a ga) : JE X W (.BoolOp op [a] pos) ga := pe_one ha
/-- a value whose truth is asked: only a bool -/
def eAnd (ga gb : EDen) : EDen := fun sl ce => (ga sl ce).bind fun x ce1 => match x with
  | .bl true => gb sl ce1
  | .bl false => .ok (.bl false) ce1
  | _ => .bad
def eOr (ga gb : EDen) : EDen := fun sl ce => (ga sl ce).bind fun x ce1 => match x with
  | .bl true => .ok (.bl true) ce1
  | .bl false => gb sl ce1
  | _ => .bad
def eNot (ga : EDen) : EDen := fun sl ce => (ga sl ce).bind fun x ce1 => match x with
  | .bl b => .ok (.bl (!b)) ce1
  | _ => .bad
theorem je_and (ha : JE X W a ga) (hb : JE X W (.BoolOp .And (b :: rest) pos) gb) : JE X W (.BoolOp .And (a :: b :: rest) pos) (eAnd ga gb) := by
  refine PE.weak (pe_and ha hb) fun σ H Q h => ?_
  obtain ⟨τ, O, sl, ce, w, s, h⟩ := h
  refine ⟨τ, O, sl, ce, w, s, (PostG.bind h).mono fun τ1 O1 ce1 H1 x e1 w1 h1 v r => ?_⟩
  cases x with
  | bl k =>
    refine ⟨k, r.toBl, ?_⟩
    cases k with
    | true => exact ⟨τ1, O1, sl, ce1, w1, s.ext e1, h1⟩
    | false => exact h1.done w1 _ .ofBl
  | _ => exact h1.elim
theorem je_or (ha : JE X W a ga) (hb : JE X W (.BoolOp .Or (b :: rest) pos) gb) : JE X W (.BoolOp .Or (a :: b :: rest) pos) (eOr ga gb) := by
  refine PE.weak (pe_or ha hb) fun σ H Q h => ?_
  obtain ⟨τ, O, sl, ce, w, s, h⟩ := h
  refine ⟨τ, O, sl, ce, w, s, (PostG.bind h).mono fun τ1 O1 ce1 H1 x e1 w1 h1 v r => ?_⟩
  cases x with
  | bl k =>
    refine ⟨k, r.toBl, ?_⟩
    cases k with
    | true => exact h1.done w1 _ .ofBl
    | false => exact ⟨τ1, O1, sl, ce1, w1, s.ext e1, h1⟩
  | _ => exact h1.elim
theorem je_not (ha : JE X W a ga) : JE X W (.UnaryOp .Not a pos) (eNot ga) := by
  refine PE.weak (pe_not ha) fun σ H Q h => ?_
  obtain ⟨τ, O, sl, ce, w, s, h⟩ := h
  refine ⟨τ, O, sl, ce, w, s, (PostG.bind h).mono fun τ1 O1 ce1 H1 x e1 w1 h1 v r => ?_⟩
  cases x with
  | bl k => exact ⟨k, r.toBl, h1.done w1 _ .ofBl⟩
  | _ => exact h1.elim
def eIf (gt : SEnv → Cells → Out Bool) (ga gb : EDen) : EDen := fun sl ce => (gt sl ce).bind fun b ce1 => if b = true then ga sl ce1 else gb sl ce1
theorem je_if {t : Expr} (ht : JT X W t gt) (ha : JE X W a ga) (hb : JE X W b gb) : JE X W (.IfExp t a b pos) (eIf gt ga gb) := by
  refine PE.weak (pe_ifExp ht ha hb) fun σ H Q h => ?_
  obtain ⟨τ, O, sl, ce, w, s, h⟩ := h
  refine ⟨τ, O, sl, ce, w, s, (PostG.bind h).mono fun τ1 O1 ce1 H1 x e1 w1 h1 => ?_⟩
  cases x with
  | true => exact ⟨τ1, O1, sl, ce1, w1, s.ext e1, h1⟩
  | false => exact ⟨τ1, O1, sl, ce1, w1, s.ext e1, h1⟩
/-- a < b < c -/
def eChain (g g' : D → D → Option D) (ga gb gc : EDen) : EDen := fun sl ce => (ga sl ce).bind fun x ce1 => (gb sl ce1).bind fun y ce2 => match g (look ce2 x) (look ce2 y) with
  | some (.bl true) => (gc sl ce2).bind fun z ce3 => liftO (g' (look ce3 y) (look ce3 z)) ce3
  | some (.bl false) => .ok (.bl false) ce2
  | _ => .bad
end

/-! ### arguments, displays -/
def aNil : SEnv → Cells → Out (List D) := fun _ ce => .ok [] ce
def aCons (ga : EDen) (gr : SEnv → Cells → Out (List D)) : SEnv → Cells → Out (List D) := fun sl ce => (ga sl ce).bind fun x ce1 => (gr sl ce1).bind fun xs ce2 => .ok (x :: xs) ce2
section
variable {X : Cx} {W : WX} {e : Expr} {es : List Expr} {ga : EDen} {gr : SEnv → Cells → Out (List D)} {pos : Pos}
theorem ja_nil : JA X W [] aNil := by
  refine PA.weak pa_nil fun σ H Q h => ?_
  obtain ⟨τ, O, sl, ce, w, s, h⟩ := h
  exact h.done w [] rfl
theorem ja_cons (ha : JE X W e ga) (hr : JA X W es gr) (hs : starEach (e :: es) X.env = (false, eval e X.env) :: starEach es X.env) : JA X W (e :: es) (aCons ga gr) := by
  refine PA.weak (pa_cons ha hr hs) fun σ H Q h => ?_
  obtain ⟨τ, O, sl, ce, w, s, h⟩ := h
  refine ⟨τ, O, sl, ce, w, s, (PostG.bind h).mono fun τ1 O1 ce1 H1 x e1 w1 h1 v r => ?_⟩
  refine ⟨τ1, O1, sl, ce1, w1, s.ext e1, (PostG.bind h1).mono fun τ2 O2 ce2 H2 xs e2 w2 h2 vs rs => ?_⟩
  exact h2.done w2 (v :: vs) ⟨v, vs, rfl, r.ext e2, rs⟩
end

/-! ### freezing: a cell becomes a tree -/
def MO.tree : MO → D
  | .lst xs => .lst xs
  | .dk ks xs => .dk ks xs
  | .dt ks xs => .dt ks xs
  | .st ks => .st ks
  | .frz d => d
def frz (ce : Cells) (d : D) : D × Cells := match d with
  | .cel k => match ce[k]? with
    | some m => (m.tree, ce.set k (.frz m.tree))
    | none => (.non, ce)
  | d => (d, ce)
def frzs (ce : Cells) : List D → List D × Cells
  | [] => ([], ce)
  | d :: ds => let r := frz ce d; let q := frzs r.2 ds; (r.1 :: q.1, q.2)
section
variable {c : Cfg} {τ O : List Addr} {H : Hp} {ce : Cells}
theorem filter_id {l : List Addr} {a : Addr} (h : a ∉ l) : (l.filter fun b => decide (b ≠ a)) = l := List.filter_eq_self.mpr fun b hb => by simpa using fun e : b = a => h (e ▸ hb)
theorem frz_ok {d : D} {v : V} (w : WFh c τ O ce H) (r : Rep c τ O H d v) : ∃ O', Ext τ O H τ O' H ∧ WFh c τ O' (frz ce d).2 H ∧ RepT c O' H (frz ce d).1 v := by
  cases d with
  | cel k =>
    obtain ⟨a, h1, rfl⟩ := r
    have hk : k < ce.length := by rw [← w.len]; exact (List.getElem?_eq_some_iff.mp h1).1
    have q := List.getElem?_eq_getElem hk
    have z := w.cell k a _ h1 q
    unfold frz
    simp only [q]
    have sub : ∀ b ∈ O.filter (fun b => decide (b ≠ a)), b ∈ O := fun b h => (List.mem_filter.mp h).1
    have e : Ext τ O H τ (O.filter fun b => decide (b ≠ a)) H := .fewer sub
    have na : a ∉ O.filter fun b => decide (b ≠ a) := fun h => by simpa using (List.mem_filter.mp h).2
    have key : RepT c (O.filter fun b => decide (b ≠ a)) H (ce[k].tree) (.ref a) := by
      revert z
      cases ce[k] with
      | lst xs => exact fun ⟨_, vs, e1, r⟩ => repT_lst.mpr ⟨a, vs, rfl, .inl ⟨na, .inl e1⟩, r.ext e⟩
      | dk ks xs => exact fun ⟨_, vs, e1, l, r⟩ => repT_dk.mpr ⟨a, vs, rfl, na, e1, l, r.ext e⟩
      | dt ks xs => exact fun ⟨_, vs, e1, l, hk, r⟩ => repT_dt.mpr ⟨a, vs, rfl, na, .inl e1, l, hk, r.ext e⟩
      | st ks => exact fun ⟨_, e1, r⟩ => repT_st.mpr ⟨a, rfl, na, e1, r⟩
      | frz d => exact fun z => z.1.ext e
    exact ⟨_, e, w.freeze h1 key, key⟩
  | _ => exact ⟨O, .refl, w, r⟩
theorem frzs_ok : ∀ {ds : List D} {vs : List V} {O : List Addr} {ce : Cells}, WFh c τ O ce H → Reps c τ O H ds vs → ∃ O', Ext τ O H τ O' H ∧ WFh c τ O' (frzs ce ds).2 H ∧ RepTs c O' H (frzs ce ds).1 vs
  | [], _, O, ce, w, r => ⟨O, .refl, w, repTs_nil.mpr r⟩
  | d :: ds, _, O, ce, w, r => by
    obtain ⟨v, vs, rfl, r1, r2⟩ := r
    obtain ⟨O1, e1, w1, q1⟩ := frz_ok w r1
    obtain ⟨O2, e2, w2, q2⟩ := frzs_ok (ds := ds) w1 (r2.ext e1)
    exact ⟨O2, e1.trans e2, w2, repTs_cons.mpr ⟨v, vs, rfl, q1.ext e2, q2⟩⟩
end
def eTup (g : SEnv → Cells → Out (List D)) : EDen := fun sl ce => (g sl ce).bind fun xs ce1 => if xs.length ≤ 1000 then .ok (.tup (frzs ce1 xs).1) (frzs ce1 xs).2 else .bad
def eLst (g : SEnv → Cells → Out (List D)) : EDen := fun sl ce => (g sl ce).bind fun xs ce1 => if xs.length ≤ 1000 then .ok (.lst (frzs ce1 xs).1) (frzs ce1 xs).2 else .bad
/-- a list display that makes a cell -/
def eLstC (g : SEnv → Cells → Out (List D)) : EDen := fun sl ce => (g sl ce).bind fun xs ce1 => if xs.length ≤ 1000 then .ok (.cel ce1.length) ((frzs ce1 xs).2 ++ [.lst (frzs ce1 xs).1]) else .bad
theorem frz_len (ce : Cells) (d : D) : (frz ce d).2.length = ce.length := by
  unfold frz
  split
  · split <;> simp
  · rfl
theorem frzs_len : ∀ (ds : List D) (ce : Cells), (frzs ce ds).2.length = ce.length
  | [], _ => rfl
  | d :: ds, ce => by show (frzs (frz ce d).2 ds).2.length = _; rw [frzs_len ds, frz_len]
section
variable {X : Cx} {W : WX} {es : List Expr} {gr : SEnv → Cells → Out (List D)} {pos : Pos}
theorem le1000 {n : Nat} (h : n ≤ 1000) : n ≤ sizeLine := Nat.le_of_lt (small1000 h)
theorem Reps.length {c : Cfg} {τ O : List Addr} {H : Hp} : ∀ {ds : List D} {vs : List V}, Reps c τ O H ds vs → ds.length = vs.length
  | [], _, h => by rw [show _ = [] from h]; rfl
  | d :: ds, _, h => by
    obtain ⟨v, r, rfl, _, h⟩ := h
    simp [Reps.length h]
theorem je_tup {k} (h : JA X W es gr) : JE X W (.Tuple es k pos) (eTup gr) := by
  refine PE.weak (pe_tup h) fun σ H Q h => ?_
  obtain ⟨τ, O, sl, ce, w, s, h⟩ := h
  refine ⟨τ, O, sl, ce, w, s, (PostG.bind h).mono fun τ1 O1 ce1 H1 xs e1 w1 h1 vs r => ?_⟩
  split at h1
  · rename_i hl
    obtain ⟨O2, e2, w2, q2⟩ := frzs_ok w1 r
    refine ⟨by rw [← r.length]; exact le1000 hl, fun p hp => ?_⟩
    have sm := same_upd (o := .tup vs) hp
    refine h1 τ1 O2 _ (e2.trans (.same sm)) (w2.same sm) _ (RepT.rep (repT_tup.mpr ⟨p, vs, rfl, ⟨fun z => w2.trk p z hp, upd_same⟩, q2.ext (.same (τ := τ1) sm)⟩))
  · exact h1.elim
theorem je_lst (h : JA X W es gr) : JE X W (.List es pos) (eLst gr) := by
  refine PE.weak (pe_lst h) fun σ H Q h => ?_
  obtain ⟨τ, O, sl, ce, w, s, h⟩ := h
  refine ⟨τ, O, sl, ce, w, s, (PostG.bind h).mono fun τ1 O1 ce1 H1 xs e1 w1 h1 vs r => ?_⟩
  split at h1
  · rename_i hl
    obtain ⟨O2, e2, w2, q2⟩ := frzs_ok w1 r
    refine ⟨by rw [← r.length]; exact le1000 hl, fun p hp => ?_⟩
    have sm := same_upd (o := .lst vs) hp
    refine h1 τ1 O2 _ (e2.trans (.same sm)) (w2.same sm) _ (RepT.rep (repT_lst.mpr ⟨p, vs, rfl, .inl ⟨fun z => w2.trk p z hp, .inl upd_same⟩, q2.ext (.same (τ := τ1) sm)⟩))
  · exact h1.elim
theorem je_lstC (h : JA X W es gr) : JE X W (.List es pos) (eLstC gr) := by
  refine PE.weak (pe_lst h) fun σ H Q h => ?_
  obtain ⟨τ, O, sl, ce, w, s, h⟩ := h
  refine ⟨τ, O, sl, ce, w, s, (PostG.bind h).mono fun τ1 O1 ce1 H1 xs e1 w1 h1 vs r => ?_⟩
  split at h1
  · rename_i hl
    obtain ⟨O2, e2, w2, q2⟩ := frzs_ok w1 r
    refine ⟨by rw [← r.length]; exact le1000 hl, fun p hp => ?_⟩
    have ex : Ext τ1 O2 H1 (τ1 ++ [p]) (p :: O2) (upd H1 p (.lst vs)) := .cell hp
    refine h1 (τ1 ++ [p]) (p :: O2) _ (e2.trans ex) (w2.push hp ⟨List.mem_cons_self, vs, upd_same, q2.ext ex⟩) _ ⟨p, ?_, rfl⟩
    rw [← w1.len, List.getElem?_append_right (Nat.le_refl _)]
    simp
  · exact h1.elim
end

/-! ### built-in calls, methods that read -/
def eCall (g : List D → Option D) (ga : SEnv → Cells → Out (List D)) : EDen := fun sl ce => (ga sl ce).bind fun xs ce1 => liftO (g (xs.map (look ce1))) ce1
def eMeth (g : D → List D → Option D) (go : EDen) (ga : SEnv → Cells → Out (List D)) : EDen := fun sl ce => (go sl ce).bind fun x ce1 => (ga sl ce1).bind fun xs ce2 => liftO (g (look ce2 x) (xs.map (look ce2))) ce2
section
variable {X : Cx} {W : WX} {x : Str} {e o : Expr} {es : List Expr} {go : EDen} {ga : SEnv → Cells → Out (List D)} {id T : String} {g : List D → Option D} {gm : D → List D → Option D} {p pos apos cpos : Pos} {name : Str}
theorem call_t : ∀ σ H Q, tE (cfg X) W (eCall g ga) σ H Q → tCB (rJs (cfg X) g) (tA (cfg X) W ga) σ H Q := by
  intro σ H Q h
  obtain ⟨τ, O, sl, ce, w, s, h⟩ := h
  refine ⟨τ, O, sl, ce, w, s, (PostG.bind h).mono fun τ1 O1 ce1 H1 xs e1 w1 h1 vs r => ?_⟩
  obtain ⟨d, e, q⟩ := post_lift w1 h1
  exact ⟨O1, _, d, w1.trk, r.view w1, e, q⟩
theorem je_callB (hc : CallJ X (.builtin id) g) (hg : Gl X x) (hm : X.mg x = none) (hv : bootBuiltins x = some (.builtin id)) (ha : JA X W (e :: es) ga) (hn : x ≠ "__name__") (hdb : (x == ("__debug__" : Str)) = false)
    (he : starEach (e :: es) X.env = (false, eval e X.env) :: starEach es X.env) (hpl : (backTo pos (starEach es X.env)).any (·.1) = false) : JE X W (.Call (.Name x p) (e :: es) [] pos) (eCall g ga) :=
  PE.weak (pe_callB hc hg hm hv ha hn hdb he hpl) call_t
theorem je_callTy (hc : CallJ X (.type T) g) (hg : Gl X x) (hm : X.mg x = none) (hv : bootBuiltins x = some (.type T)) (ha : JA X W (e :: es) ga) (hn : x ≠ "__name__") (hdb : (x == ("__debug__" : Str)) = false)
    (he : starEach (e :: es) X.env = (false, eval e X.env) :: starEach es X.env) (hpl : (backTo pos (starEach es X.env)).any (·.1) = false) : JE X W (.Call (.Name x p) (e :: es) [] pos) (eCall g ga) :=
  PE.weak (pe_callTy hc hg hm hv ha hn hdb he hpl) call_t
end

/-! ### slots -/
section
variable {c : Cfg} {τ O : List Addr} {H : Hp} {sl : SEnv} {σ : L2.St}
theorem SRep.set {d : D} {v : V} (s : SRep c τ O H sl σ) (i : Nat) (r : Rep c τ O H d v) : SRep c τ O H (sl.set i (some d)) (σ.set i (some v)) := by
  refine ⟨by simp [s.len], fun j d' h => ?_⟩
  by_cases hj : i = j
  · subst hj
    have hi : i < sl.length := by
      have := (List.getElem?_eq_some_iff.mp h).1
      simpa using this
    rw [List.getElem?_set_self hi] at h
    cases h
    exact ⟨v, List.getElem?_set_self (by rw [← s.len]; exact hi), r⟩
  · rw [List.getElem?_set_ne hj] at h ⊢
    exact s.at_ j d' h
theorem SRep.start {ds : List D} {vs : List V} (N : List Str) (r : Reps c τ O H ds vs) : SRep c τ O H (ds.map some ++ List.replicate (N.length - ds.length) none) (L2.start N vs) := by
  have hl := r.length
  refine ⟨by unfold L2.start; simp [hl], fun i d h => ?_⟩
  have get : ∀ {ds : List D} {vs : List V} {i : Nat} {d : D}, Reps c τ O H ds vs → ds[i]? = some d → ∃ v, vs[i]? = some v ∧ Rep c τ O H d v := by
    intro ds
    induction ds with
    | nil => intro _ _ _ _ e; simp at e
    | cons d0 ds ih =>
      intro vs i d h e
      obtain ⟨v, r, rfl, h1, h2⟩ := h
      cases i with
      | zero => simp at e; subst e; exact ⟨v, rfl, h1⟩
      | succ i => exact (ih h2 (by simpa using e)).imp fun w q => ⟨by simpa using q.1, q.2⟩
  by_cases hi : i < ds.length
  · rw [List.getElem?_append_left (by simpa using hi), List.getElem?_map] at h
    cases q : ds[i]? with
    | none => rw [q] at h; simp at h
    | some d' =>
      rw [q] at h
      have e : d' = d := by simpa using h
      subst e
      obtain ⟨v, e1, e2⟩ := get r q
      refine ⟨v, ?_, e2⟩
      unfold L2.start
      rw [List.getElem?_append_left (by simpa using (List.getElem?_eq_some_iff.mp e1).1), List.getElem?_map, e1]
      rfl
  · rw [List.getElem?_append_right (by simpa using hi), List.getElem?_replicate] at h
    split at h <;> cases h
end

/-! ### statements -/
def sNil : SDen := fun sl ce => .nx sl ce
def sSeq (g g' : SDen) : SDen := fun sl ce => match g sl ce with
  | .nx sl1 ce1 => g' sl1 ce1
  | r => r
def sSet (i : Nat) (g : EDen) : SDen := fun sl ce => (g sl ce).st sl fun d ce1 => .nx (sl.set i (some d)) ce1
def sRet (g : EDen) : SDen := fun sl ce => (g sl ce).st sl fun d ce1 => .rt d ce1
/-- a cell that is handed back as a tree -/
def sRetF (g : EDen) : SDen := fun sl ce => (g sl ce).st sl fun d ce1 => .rt (frz ce1 d).1 (frz ce1 d).2
def sRetN : SDen := fun _ ce => .rt .non ce
def sExpr (g : EDen) : SDen := fun sl ce => (g sl ce).st sl fun _ ce1 => .nx sl ce1
def sIf (gt : SEnv → Cells → Out Bool) (g g' : SDen) : SDen := fun sl ce => (gt sl ce).st sl fun b ce1 => if b = true then g sl ce1 else g' sl ce1
section
variable {X : Cx} {W : WX} {st : Stmt} {rest sts sts' : List Stmt} {g g' : SDen} {e : Expr} {ge : EDen} {gt : SEnv → Cells → Out Bool} {pos pos' : Pos}
theorem js_nil : JSs X W [] sNil := by
  refine PSs.weak pss_nil fun D σ H h => ?_
  obtain ⟨τ, O, sl, ce, w, s, h⟩ := h
  exact h τ O σ H .refl w s
theorem seq_t : ∀ D σ H, tS (cfg X) W (sSeq g g') D σ H → tSeq (tS (cfg X) W g) (tS (cfg X) W g') D σ H := by
  intro D σ H h
  obtain ⟨τ, O, sl, ce, w, s, h⟩ := h
  refine ⟨τ, O, sl, ce, w, s, ?_⟩
  unfold sSeq at h
  cases q : g sl ce with
  | nx sl1 ce1 =>
    rw [q] at h
    exact fun τ1 O1 σ1 H1 e1 w1 s1 => ⟨τ1, O1, sl1, ce1, w1, s1, PostS.ext e1 h⟩
  | bk sl1 ce1 => rw [q] at h; exact h
  | ct sl1 ce1 => rw [q] at h; exact h
  | rt d ce1 => rw [q] at h; exact h
  | ex x sl1 ce1 => rw [q] at h; exact h
  | bad => rw [q] at h; exact h
theorem js_cons (h1 : JS X W st g) (h2 : JSs X W rest g') : JSs X W (st :: rest) (sSeq g g') := PSs.weak (pss_cons h1 h2) seq_t
theorem js_one (h1 : JS X W st g) : JSs X W [st] g := pss_one h1
theorem js_set (i : Nat) {x : Str} (hN : X.N.Nodup) (hi : X.N[i]? = some x) (hx : Loc X.env.scope x) (he : JE X W e ge) (hs : swapsWith e (some (.Name x pos')) pos.line X.env = pure false) (hf : X.fn x = true ∨ X.env.scope.names.lookup x = some .local) :
    JS X W (.Assign [.Name x pos'] e pos) (sSet i ge) := by
  refine PS.weak (ps_set hN hi hx he hs hf) fun D σ H h => ?_
  obtain ⟨τ, O, sl, ce, w, s, h⟩ := h
  refine ⟨τ, O, sl, ce, w, s, (PostS.st s h).mono fun τ1 O1 ce1 H1 d e1 w1 h1 v r => ?_⟩
  exact h1 τ1 O1 _ H1 .refl w1 ((s.ext e1).set i r)
theorem js_ret (he : JE X W e ge) : JS X W (.Return (some e) pos) (sRet ge) := by
  refine PS.weak (ps_ret he) fun D σ H h => ?_
  obtain ⟨τ, O, sl, ce, w, s, h⟩ := h
  exact ⟨τ, O, sl, ce, w, s, (PostS.st s h).mono fun τ1 O1 ce1 H1 d e1 w1 h1 v r => h1 τ1 O1 v H1 .refl w1 r⟩
theorem js_retF (he : JE X W e ge) : JS X W (.Return (some e) pos) (sRetF ge) := by
  refine PS.weak (ps_ret he) fun D σ H h => ?_
  obtain ⟨τ, O, sl, ce, w, s, h⟩ := h
  refine ⟨τ, O, sl, ce, w, s, (PostS.st s h).mono fun τ1 O1 ce1 H1 d e1 w1 h1 v r => ?_⟩
  obtain ⟨O2, e2, w2, q2⟩ := frz_ok w1 r
  exact h1 τ1 O2 v H1 e2 w2 q2.rep
theorem js_retN : JS X W (.Return none pos) sRetN := by
  refine PS.weak ps_retN fun D σ H h => ?_
  obtain ⟨τ, O, sl, ce, w, s, h⟩ := h
  exact h τ O .non H .refl w (RepT.rep (repT_non.mpr rfl))
theorem js_expr (he : JE X W e ge) (hs : swapsWith e none pos.line X.env = pure false) : JS X W (.Expr e pos) (sExpr ge) := by
  refine PS.weak (ps_expr he hs) fun D σ H h => ?_
  obtain ⟨τ, O, sl, ce, w, s, h⟩ := h
  exact ⟨τ, O, sl, ce, w, s, (PostS.st s h).mono fun τ1 O1 ce1 H1 d e1 w1 h1 v r => h1 τ1 O1 σ H1 .refl w1 (s.ext e1)⟩
theorem js_if {t : Expr} (ht : JT X W t gt) (ha : JSs X W sts g) (hb : JSs X W sts' g') : JS X W (.If t sts sts' pos) (sIf gt g g') := by
  refine PS.weak (ps_if ht ha hb) fun D σ H h => ?_
  obtain ⟨τ, O, sl, ce, w, s, h⟩ := h
  refine ⟨τ, O, sl, ce, w, s, (PostS.st s h).mono fun τ1 O1 ce1 H1 b e1 w1 h1 => ?_⟩
  cases b with
  | true => exact ⟨τ1, O1, sl, ce1, w1, s.ext e1, h1⟩
  | false => exact ⟨τ1, O1, sl, ce1, w1, s.ext e1, h1⟩
def sBreak : SDen := fun sl ce => .bk sl ce
def sCont : SDen := fun sl ce => .ct sl ce
theorem js_break : JS X W (.Break pos) sBreak := by
  refine PS.weak ps_break fun D σ H h => ?_
  obtain ⟨τ, O, sl, ce, w, s, h⟩ := h
  exact h τ O σ H .refl w s
theorem js_cont : JS X W (.Continue pos) sCont := by
  refine PS.weak ps_continue fun D σ H h => ?_
  obtain ⟨τ, O, sl, ce, w, s, h⟩ := h
  exact h τ O σ H .refl w s
/-- code that no run comes to -/
def sNever : SDen := fun _ _ => .bad
theorem js_never : JS X W st sNever := PS.weak ps_never fun D σ H h => by obtain ⟨τ, O, sl, ce, w, s, h⟩ := h; exact h
end
end Ib

set_option Elab.async false
set_option linter.all false
set_option maxRecDepth 100000
set_option maxHeartbeats 2000000
/-! The J layer, part C: targets, walks, loops, comprehensions, defs and their calls. -/
namespace Ib
open PySem PySem.Spec PyProof.Rows L2

/-! ### targets -/
abbrev GDen := D → SEnv → Option SEnv
abbrev GsDen := List D → SEnv → Option SEnv
def tG (c : Cfg) (us : List Nat) (gt : GDen) : TG := fun v σ H Q => ∃ τ O sl d sl', SRep c τ O H sl σ ∧ RepT c O H d v ∧ gt d sl = some sl' ∧ ∀ σ', SRep c τ O H sl' σ' → wipe σ' us = wipe σ us → Q σ' H
def tGs (c : Cfg) (us : List Nat) (gt : GsDen) : TGs := fun vs σ H Q => ∃ τ O sl ds sl', SRep c τ O H sl σ ∧ Reps c τ O H ds vs ∧ gt ds sl = some sl' ∧ ∀ σ', SRep c τ O H sl' σ' → wipe σ' us = wipe σ us → Q σ' H
def JG (X : Cx) (tg : Expr) (us : List Nat) (gt : GDen) : Prop := PG X tg (tG (cfg X) us gt)
def JGs (X : Cx) (tgs : List Expr) (us : List Nat) (gt : GsDen) : Prop := PGs X tgs (tGs (cfg X) us gt)
def gN (i : Nat) : GDen := fun d sl => some (sl.set i (some d))
def gsN : List Nat → GsDen
  | [], [], sl => some sl
  | i :: is, d :: ds, sl => gsN is ds (sl.set i (some d))
  | _, _, _ => none
def gT (gs : GsDen) (n : Nat) : GDen := fun d sl => match d with
  | .tup ds => if ds.length = n then gs ds sl else none
  | _ => none
theorem wipe_get {σ : L2.St} : ∀ (us : List Nat) (i : Nat), (wipe σ us)[i]? = if i ∈ us ∧ i < σ.length then some none else σ[i]?
  | [], i => by simp [wipe]
  | u :: us, i => by
    unfold wipe
    by_cases h : u = i
    · subst h
      by_cases hl : u < σ.length
      · rw [List.getElem?_set_self (by rw [wipe_length]; exact hl), if_pos ⟨List.mem_cons_self, hl⟩]
      · rw [if_neg (fun z => hl z.2), List.getElem?_eq_none (by simpa [wipe_length] using hl), List.getElem?_eq_none (by simpa using hl)]
    · rw [List.getElem?_set_ne h, wipe_get us i]
      have : (i ∈ u :: us) ↔ i ∈ us := by
        rw [List.mem_cons]
        exact ⟨fun z => z.elim (fun e => absurd e.symm h) id, .inr⟩
      simp only [this]
theorem wipe_ext {σ σ' : L2.St} {us : List Nat} (hl : σ.length = σ'.length) (h : ∀ i, i ∉ us → σ[i]? = σ'[i]?) : wipe σ us = wipe σ' us := by
  apply List.ext_getElem?
  intro i
  rw [wipe_get, wipe_get, hl]
  by_cases hi : i ∈ us
  · by_cases hj : i < σ'.length
    · rw [if_pos ⟨hi, hj⟩, if_pos ⟨hi, hj⟩]
    · rw [if_neg (fun z => hj z.2), if_neg (fun z => hj z.2), List.getElem?_eq_none (by omega), List.getElem?_eq_none (by omega)]
  · rw [if_neg (fun z => hi z.1), if_neg (fun z => hi z.1), h i hi]
theorem wipe_of {σ σ' : L2.St} {us : List Nat} (h : wipe σ us = wipe σ' us) : σ.length = σ'.length ∧ ∀ i, i ∉ us → σ[i]? = σ'[i]? := by
  refine ⟨by rw [← wipe_length σ us, h, wipe_length], fun i hi => ?_⟩
  have q : (wipe σ us)[i]? = (wipe σ' us)[i]? := by rw [h]
  rw [wipe_get, wipe_get, if_neg (fun z => hi z.1), if_neg (fun z => hi z.1)] at q
  exact q
theorem wipe_set {σ : L2.St} {us : List Nat} {i : Nat} {o : Option V} (h : i ∈ us) : wipe (σ.set i o) us = wipe σ us := by
  refine wipe_ext (by simp) fun j hj => ?_
  rw [List.getElem?_set_ne (show i ≠ j from fun e => hj (by rw [← e]; exact h))]
theorem wipe_sub {σ σ' : L2.St} {us vs : List Nat} (h : wipe σ us = wipe σ' us) (s : ∀ i ∈ us, i ∈ vs) : wipe σ vs = wipe σ' vs := by
  obtain ⟨h1, h2⟩ := wipe_of h
  exact wipe_ext h1 fun i hi => h2 i fun z => hi (s i z)
theorem wipe_wipe {σ : L2.St} {us : List Nat} : wipe (wipe σ us) us = wipe σ us := by
  refine wipe_ext (wipe_length _ _) fun i hi => ?_
  rw [wipe_get, if_neg (fun z => hi z.1)]
def wipeD (sl : SEnv) : List Nat → SEnv
  | [] => sl
  | u :: us => (wipeD sl us).set u none
theorem wipeD_length (sl : SEnv) : ∀ us, (wipeD sl us).length = sl.length
  | [] => rfl
  | u :: us => by unfold wipeD; rw [List.length_set, wipeD_length sl us]
theorem wipeD_some {sl : SEnv} {i : Nat} {x : D} : ∀ {us : List Nat}, (wipeD sl us)[i]? = some (some x) → sl[i]? = some (some x) ∧ i ∉ us
  | [], h => ⟨h, by simp⟩
  | v :: vs, h => by
    unfold wipeD at h
    by_cases hi : v = i
    · subst hi
      by_cases hv : v < (wipeD sl vs).length
      · rw [List.getElem?_set_self hv] at h; cases h
      · rw [List.getElem?_eq_none (by simpa using hv)] at h; cases h
    · rw [List.getElem?_set_ne hi] at h
      obtain ⟨h1, h2⟩ := wipeD_some h
      exact ⟨h1, by simp only [List.mem_cons, not_or]; exact ⟨fun e => hi e.symm, h2⟩⟩
theorem SRep.wipe {c : Cfg} {τ O : List Addr} {H : Hp} {sl : SEnv} {σ : L2.St} (s : SRep c τ O H sl σ) (us : List Nat) : SRep c τ O H (wipeD sl us) (L2.wipe σ us) := by
  refine ⟨by rw [wipeD_length, wipe_length, s.len], fun i d h => ?_⟩
  obtain ⟨h1, h2⟩ := wipeD_some h
  obtain ⟨v, e, r⟩ := s.at_ i d h1
  exact ⟨v, by rw [wipe_get, if_neg (fun z => h2 z.1)]; exact e, r⟩
section
variable {X : Cx} {pos : Pos}
theorem jg_name (i : Nat) {x : Str} (hN : X.N.Nodup) (hi : X.N[i]? = some x) (hx : Loc X.env.scope x) (hf : X.fn x = true ∨ X.env.scope.names.lookup x = some .local) : JG X (.Name x pos) [i] (gN i) := by
  refine ⟨fun pins s σ H v u Q I r h => ?_⟩
  obtain ⟨τ, O, sl, d, sl', sr, rd, e, q⟩ := h
  cases e
  exact (pg_name hN hi hx hf).run pins s σ H v u Q I r (q _ (sr.set i rd.rep) (wipe_set (by simp)))
theorem jgs_nil : JGs X [] [] (gsN []) := by
  refine ⟨fun pins s σ H vs us Q I r h => ?_⟩
  obtain ⟨τ, O, sl, ds, sl', sr, rd, e, q⟩ := h
  cases ds with
  | nil =>
    cases e
    exact pgs_nil.run pins s σ H vs us Q I r ⟨rd, q σ sr rfl⟩
  | cons d ds => cases e
theorem jgs_cons (i : Nat) {x : Str} {es : List Expr} {is : List Nat} (hN : X.N.Nodup) (hi : X.N[i]? = some x) (hx : Loc X.env.scope x) (hf : X.fn x = true ∨ X.env.scope.names.lookup x = some .local) (hr : JGs X es is (gsN is))
    (hs : (assignEach (.Name x pos :: es) X.env).map (·.2) = assign (.Name x pos) X.env :: (assignEach es X.env).map (·.2)) : JGs X (.Name x pos :: es) (i :: is) (gsN (i :: is)) := by
  refine ⟨fun pins s σ H vs us Q I r h => ?_⟩
  obtain ⟨τ, O, sl, ds, sl', sr, rd, e, q⟩ := h
  cases ds with
  | nil => cases e
  | cons d ds =>
    obtain ⟨v, vr, ev, r1, r2⟩ := rd
    refine (pgs_cons (pg_name (i := i) hN hi hx hf) hr hs).run pins s σ H vs us Q I r ⟨v, vr, ev, ?_⟩
    refine ⟨τ, O, _, ds, sl', sr.set i r1, r2, e, fun σ' s' w' => q σ' s' ?_⟩
    have h1 : wipe σ' (i :: is) = wipe (σ.set i (some v)) (i :: is) := wipe_sub w' fun j hj => List.mem_cons_of_mem _ hj
    exact h1.trans (wipe_set (by simp))
theorem jg_tup {es : List Expr} {k : Nat} {us : List Nat} {gs : GsDen} {n : Nat} (hc : X.calm = true) (h : JGs X es us gs) (hn : (assignEach es X.env).length = n) (hst : (assignEach es X.env).findIdx? (·.1) = none) :
    JG X (.Tuple es k pos) us (gT gs n) := by
  refine ⟨fun pins s σ H v u Q I r hw => ?_⟩
  obtain ⟨τ, O, sl, d, sl', sr, rd, e, q⟩ := hw
  cases d with
  | tup ds =>
    obtain ⟨p, vs, rfl, h1, h2⟩ := repT_tup.mp rd
    unfold gT at e
    simp only at e
    split at e
    · rename_i hl
      exact (pg_tup hc h hn hst).run pins s σ H _ u Q I r ⟨p, vs, rfl, h1.sq, by rw [← h2.length]; exact hl, τ, O, sl, ds, sl', sr, h2.reps, e, q⟩
    · cases e
  | _ => cases e
end
/-- target = value -/
def sAsg (gt : GDen) (ge : EDen) : SDen := fun sl ce => (ge sl ce).st sl fun d ce1 => match d with
  | .cel _ => .bad
  | d => match gt d sl with
    | some sl' => .nx sl' ce1
    | none => .bad
section
variable {X : Cx} {W : WX} {pos : Pos}
theorem js_asg {tg e : Expr} {us : List Nat} {gt : GDen} {ge : EDen} (he : JE X W e ge) (hg : JG X tg us gt) (hs : swapsWithSole [tg] e pos.line X.env = pure false) (hw : swappedStores [tg] e X.env = pure none)
    (h1 : (assignEach [tg] X.env).map (·.2) = [assign tg X.env]) : JS X W (.Assign [tg] e pos) (sAsg gt ge) := by
  refine PS.weak (ps_asg he hg hs hw h1) fun D σ H h => ?_
  obtain ⟨τ, O, sl, ce, w, s, h⟩ := h
  refine ⟨τ, O, sl, ce, w, s, (PostS.st s h).mono fun τ1 O1 ce1 H1 d e1 w1 h1 v r => ?_⟩
  have key : ∀ (rt : RepT (cfg X) O1 H1 d v), PostS (cfg X) W τ1 O1 H1 (match gt d sl with | some sl' => .nx sl' ce1 | none => .bad) D → tG (cfg X) us gt v σ H1 D.nx := fun rt h2 => by
    cases q : gt d sl with
    | none => rw [q] at h2; exact h2.elim
    | some sl' =>
      rw [q] at h2
      exact ⟨τ1, O1, sl, d, sl', s.ext e1, rt, q, fun σ' s' _ => h2 τ1 O1 σ' H1 .refl w1 s'⟩
  cases d with
  | cel k => exact h1.elim
  | _ => exact key r h1
/-- names = a written tuple of as many: the values go straight to the names -/
def sMulti (is : List Nat) (ga : SEnv → Cells → Out (List D)) : SDen := fun sl ce => (ga sl ce).st sl fun ds ce1 => match gsN is ds sl with
  | some sl' => .nx sl' ce1
  | none => .bad
theorem gsN_len : ∀ {is : List Nat} {ds : List D} {sl sl' : SEnv}, gsN is ds sl = some sl' → ds.length = is.length
  | [], [], _, _, _ => rfl
  | i :: is, d :: ds, sl, sl', h => by
    have := gsN_len (is := is) (ds := ds) (show gsN is ds (sl.set i (some d)) = some sl' from h)
    simp [this]
theorem js_multi {tgs es : List Expr} {is : List Nat} {k k2 : Nat} {p2 p3 : Pos} {ga : SEnv → Cells → Out (List D)} (hc : X.calm = true) (ha : JA X W es ga) (hg : JGs X tgs is (gsN is)) (hn : (assignEach tgs X.env).length = is.length) (hz : is.length ≤ 1000) (hst : (assignEach tgs X.env).findIdx? (·.1) = none)
    (hs : swapsWithSole [.Tuple tgs k p2] (.Tuple es k2 p3) pos.line X.env = pure false) (hw : swappedStores [.Tuple tgs k p2] (.Tuple es k2 p3) X.env = pure none)
    (h1 : (assignEach [.Tuple tgs k p2] X.env).map (·.2) = [assign (.Tuple tgs k p2) X.env]) : JS X W (.Assign [.Tuple tgs k p2] (.Tuple es k2 p3) pos) (sMulti is ga) := by
  refine PS.weak (ps_asg (pe_tup ha) (pg_tup hc hg hn hst) hs hw h1) fun D σ H h => ?_
  obtain ⟨τ, O, sl, ce, w, s, h⟩ := h
  refine ⟨τ, O, sl, ce, w, s, (PostS.st s h).mono fun τ1 O1 ce1 H1 ds e1 w1 h1 vs r => ?_⟩
  cases q : gsN is ds sl with
  | none => rw [q] at h1; exact h1.elim
  | some sl' =>
    rw [q] at h1
    have hl : vs.length = is.length := by rw [← r.length, gsN_len q]
    refine ⟨by rw [hl]; exact le1000 hz, fun p hp => ?_⟩
    have sm := same_upd (o := .tup vs) hp
    have ex : Ext τ1 O1 H1 τ1 O1 (upd H1 p (.tup vs)) := .same sm
    exact ⟨p, vs, rfl, .of upd_same, hl, τ1, O1, sl, ds, sl', (s.ext e1).ext ex, r.ext ex, q, fun σ' s' _ => h1 τ1 O1 σ' _ ex (w1.same sm) s'⟩
theorem js_par2 {i j : Nat} {x y : Str} {a b : Expr} {ga : SEnv → Cells → Out (List D)} {px py pt : Pos} {kt k2 pt2} (hc : X.calm = true) (hN : X.N.Nodup) (hi : X.N[i]? = some x) (hj : X.N[j]? = some y) (hij : i ≠ j)
    (hx : X.env.scope.names.lookup x = some .local) (hy : X.env.scope.names.lookup y = some .local) (ha : JA X W [a, b] ga)
    (hw : swappedStores [.Tuple [.Name x px, .Name y py] kt pt] (.Tuple [a, b] k2 pt2) X.env = pure (some [x, y]))
    (hs : swapsWithSole [.Tuple [.Name x px, .Name y py] kt pt] (.Tuple [a, b] k2 pt2) pos.line X.env = pure false) :
    JS X W (.Assign [.Tuple [.Name x px, .Name y py] kt pt] (.Tuple [a, b] k2 pt2) pos) (sMulti [i, j] ga) := by
  refine PS.weak (ps_par hc hN hi hj hij hx hy ha hw hs) fun D σ H h => ?_
  obtain ⟨τ, O, sl, ce, w, s, h⟩ := h
  refine ⟨τ, O, sl, ce, w, s, (PostS.st s h).mono fun τ1 O1 ce1 H1 ds e1 w1 h1 vs r => ?_⟩
  cases q : gsN [i, j] ds sl with
  | none => rw [q] at h1; exact h1.elim
  | some sl' =>
    rw [q] at h1
    have hl := gsN_len q
    match ds, hl, r, q with
    | [d1, d2], _, r, q =>
      obtain ⟨v, _, rfl, r1, w', _, rfl, r2, rfl⟩ := r
      cases q
      exact ⟨v, w', rfl, h1 τ1 O1 _ H1 .refl w1 (((s.ext e1).set i r1).set j r2)⟩
theorem js_par3 {i j l : Nat} {x y z : Str} {a b c : Expr} {ga : SEnv → Cells → Out (List D)} {px py pz pt : Pos} {kt k2 pt2} (hc : X.calm = true) (hN : X.N.Nodup) (hi : X.N[i]? = some x) (hj : X.N[j]? = some y) (hl : X.N[l]? = some z) (hij : i ≠ j) (hil : i ≠ l) (hjl : j ≠ l)
    (hx : X.env.scope.names.lookup x = some .local) (hy : X.env.scope.names.lookup y = some .local) (hz : X.env.scope.names.lookup z = some .local) (ha : JA X W [a, b, c] ga)
    (hw : swappedStores [.Tuple [.Name x px, .Name y py, .Name z pz] kt pt] (.Tuple [a, b, c] k2 pt2) X.env = pure (some [x, y, z]))
    (hs : swapsWithSole [.Tuple [.Name x px, .Name y py, .Name z pz] kt pt] (.Tuple [a, b, c] k2 pt2) pos.line X.env = pure false) :
    JS X W (.Assign [.Tuple [.Name x px, .Name y py, .Name z pz] kt pt] (.Tuple [a, b, c] k2 pt2) pos) (sMulti [i, j, l] ga) := by
  refine PS.weak (ps_par3 hc hN hi hj hl hij hil hjl hx hy hz ha hw hs) fun D σ H h => ?_
  obtain ⟨τ, O, sl, ce, w, s, h⟩ := h
  refine ⟨τ, O, sl, ce, w, s, (PostS.st s h).mono fun τ1 O1 ce1 H1 ds e1 w1 h1 vs r => ?_⟩
  cases q : gsN [i, j, l] ds sl with
  | none => rw [q] at h1; exact h1.elim
  | some sl' =>
    rw [q] at h1
    have hl := gsN_len q
    match ds, hl, r, q with
    | [d1, d2, d3], _, r, q =>
      obtain ⟨v, _, rfl, r1, w', _, rfl, r2, u, _, rfl, r3, rfl⟩ := r
      cases q
      exact ⟨v, w', u, rfl, h1 τ1 O1 _ H1 .refl w1 ((((s.ext e1).set i r1).set j r2).set l r3)⟩
end

/-! ### walks -/
structure Src where
  n : Nat
  items : Cells → Option (List D)
def SrcOk (c : Cfg) (src : Src) (J : It) (τ O : List Addr) (H : Hp) : Prop := ∀ τ1 O1 ce1 H1 xs, Ext τ O H τ1 O1 H1 → WFh c τ1 O1 ce1 H1 → src.items ce1 = some xs → xs.length = src.n →
  (∀ i, i < src.n → J.go i H1) ∧ J.stop src.n H1 ∧ ∀ i x H', i < src.n → J.yld i H1 x H' → ∃ d, xs[i]? = some d ∧ Same H1 H' ∧ RepT c O1 H' d x
theorem SrcOk.ext {c : Cfg} {src : Src} {J : It} {τ τ' O O' : List Addr} {H H' : Hp} (s : SrcOk c src J τ O H) (e : Ext τ O H τ' O' H') : SrcOk c src J τ' O' H' := fun τ1 O1 ce1 H1 xs e1 => s τ1 O1 ce1 H1 xs (e.trans e1)
def tI (c : Cfg) (W : WX) (gi : SEnv → Cells → Out Src) : TI := fun σ H R => ∃ τ O sl ce, WFh c τ O ce H ∧ SRep c τ O H sl σ ∧ PostG c W τ O H σ (gi sl ce) fun τ' O' ce' H' src => ∀ J, SrcOk c src J τ' O' H' → R J H'
def JI (X : Cx) (W : WX) (tg iter : Expr) (gi : SEnv → Cells → Out Src) : Prop := PI X tg iter (tI (cfg X) W gi)
theorem PI.weak {X : Cx} {tg e : Expr} {t t' : TI} (h : PI X tg e t) (w : ∀ σ H Q, t' σ H Q → t σ H Q) : PI X tg e t' := ⟨fun pins s σ H Q I q => h.run pins s σ H Q I (w σ H Q q)⟩
def srcC (xs : List D) : Src := ⟨xs.length, fun _ => some xs⟩
def srcOf (d : D) (ce : Cells) : Option Src := match look ce d with
  | .lst xs => some ⟨xs.length, fun ce => match look ce d with
    | .lst ys => some ys
    | _ => none⟩
  | .tup xs => some (srcC xs)
  | .str x => some (srcC (x.map fun c => .str [c]))
  | _ => none
def eIter (ge : EDen) : SEnv → Cells → Out Src := fun sl ce => (ge sl ce).bind fun d ce1 => match srcOf d ce1 with
  | some s => .ok s ce1
  | none => .bad
section
variable {X : Cx} {W : WX} {tg e : Expr} {ge : EDen} {ga : SEnv → Cells → Out (List D)} {p pos : Pos}
theorem RepV.lst {c : Cfg} {O : List Addr} {H : Hp} {xs : List D} {v : V} (h : RepV c O H (.lst xs) v) : ∃ p vs, v = .ref p ∧ SqL c.K H p vs ∧ RepTs c O H xs vs := h
theorem RepV.tup {c : Cfg} {O : List Addr} {H : Hp} {xs : List D} {v : V} (h : RepV c O H (.tup xs) v) : ∃ p vs, v = .ref p ∧ TupO c O H p vs ∧ RepTs c O H xs vs := repT_tup.mp h
theorem RepV.str {c : Cfg} {O : List Addr} {H : Hp} {x : List Nat} {v : V} (h : RepV c O H (.str x) v) : v = .str ⟨x.toArray⟩ ∧ okS x := repT_str.mp (show RepT c O H (D.str x) v from h)
theorem RepV.int {c : Cfg} {O : List Addr} {H : Hp} {i : Int} {v : V} (h : RepV c O H (.int i) v) : v = .int i := repT_int.mp (show RepT c O H (D.int i) v from h)
theorem RepV.bl {c : Cfg} {O : List Addr} {H : Hp} {i : Bool} {v : V} (h : RepV c O H (.bl i) v) : v = .bl i := repT_bl.mp (show RepT c O H (D.bl i) v from h)
theorem RepV.non {c : Cfg} {O : List Addr} {H : Hp} {v : V} (h : RepV c O H .non v) : v = .non := repT_non.mp (show RepT c O H (D.non) v from h)
theorem PI.or3 {t1 t2 t3 : TI} (h1 : PI X tg e t1) (h2 : PI X tg e t2) (h3 : PI X tg e t3) : PI X tg e (fun σ H R => t1 σ H R ∨ t2 σ H R ∨ t3 σ H R) :=
  ⟨fun pins s σ H R I h => h.elim (h1.run pins s σ H R I) fun h => h.elim (h2.run pins s σ H R I) (h3.run pins s σ H R I)⟩
theorem ji_val (he : JE X W e ge) : JI X W tg e (eIter ge) := by
  refine PI.weak (PI.or3 (pi_list he) (pi_tup he) (pi_str he)) fun σ H R h => ?_
  obtain ⟨τ, O, sl, ce, w, s, h⟩ := h
  have h := PostG.bind h
  cases q : ge sl ce with
  | bad => rw [q] at h; exact h.elim
  | ex x ce1 => rw [q] at h; exact .inl ⟨τ, O, sl, ce, w, s, by rw [q]; exact h⟩
  | ok d ce1 =>
    rw [q] at h
    have mk : ∀ Q', (∀ τ1 O1 H1 v, Ext τ O H τ1 O1 H1 → WFh (cfg X) τ1 O1 ce1 H1 → Rep (cfg X) τ1 O1 H1 d v → Q' v H1) → tE (cfg X) W ge σ H Q' := fun Q' hq => ⟨τ, O, sl, ce, w, s, by
      rw [q]
      exact fun τ1 O1 H1 e1 w1 v r => hq τ1 O1 H1 v e1 w1 r⟩
    have bad : srcOf d ce1 = none → tE (cfg X) W ge σ H (fun x H1 => ∃ a, x = .ref a ∧ (∃ xs, SqL X.K H1 a xs) ∧ R (Itl X.K a) H1) := fun n => mk _ fun τ1 O1 H1 v e1 w1 r => by
      have h1 := h τ1 O1 H1 e1 w1
      simp only [n] at h1
      exact h1.elim
    cases hk : look ce1 d with
    | lst xs =>
      refine .inl (mk _ fun τ1 O1 H1 v e1 w1 r => ?_)
      have h1 := h τ1 O1 H1 e1 w1
      simp only [srcOf, hk] at h1
      have rv := r.view w1
      rw [hk] at rv
      obtain ⟨p, vs, rfl, h2, h3⟩ := rv.lst
      refine ⟨p, rfl, ⟨vs, h2⟩, h1.done w1 _ fun τ2 O2 ce2 H2 ys e2 w2 hi hl => ?_⟩
      have rv2 := (r.ext e2).view w2
      simp only at hi
      split at hi
      · rename_i zs hz
        cases hi
        rw [hz] at rv2
        obtain ⟨p', ws, ep, h4, h5⟩ := rv2.lst
        cases ep
        have hw := h5.length
        have hl : ys.length = xs.length := hl
        refine ⟨fun i hi => ⟨ws, ws[i]'(by have : i < xs.length := hi; omega), h4, by simp⟩, ⟨ws, h4, by show ws.length ≤ xs.length; omega⟩, fun i x H' hi y => ?_⟩
        obtain ⟨eH, y⟩ := y
        subst eH
        obtain ⟨d', e3, e4⟩ := h5.getV (y ws h4)
        exact ⟨d', e3, .refl _, e4⟩
      · cases hi
    | tup xs =>
      refine .inr (.inl (mk _ fun τ1 O1 H1 v e1 w1 r => ?_))
      have h1 := h τ1 O1 H1 e1 w1
      simp only [srcOf, hk] at h1
      have rv := r.view w1
      rw [hk] at rv
      obtain ⟨p, vs, rfl, h2, h3⟩ := rv.tup
      refine ⟨p, rfl, ⟨vs, h2.sq⟩, h1.done w1 _ fun τ2 O2 ce2 H2 ys e2 w2 hi hl => ?_⟩
      cases hi
      have h4 := (h2.ext e2).sq
      have h5 := h3.ext e2
      have hw := h5.length
      refine ⟨fun i hi => ⟨vs, vs[i]'(by have : i < xs.length := hi; omega), h4, by simp⟩, ⟨vs, h4, by show vs.length ≤ xs.length; omega⟩, fun i x H' hi y => ?_⟩
      obtain ⟨eH, y⟩ := y
      subst eH
      obtain ⟨d', e3, e4⟩ := h5.getV (y vs h4)
      exact ⟨d', e3, .refl _, e4⟩
    | str x =>
      refine .inr (.inr (mk _ fun τ1 O1 H1 v e1 w1 r => ?_))
      have h1 := h τ1 O1 H1 e1 w1
      simp only [srcOf, hk] at h1
      have rv := r.view w1
      rw [hk] at rv
      refine ⟨_, rv.str.1, h1.done w1 _ fun τ2 O2 ce2 H2 ys e2 w2 hi hl => ?_⟩
      cases hi
      refine ⟨fun i hi => by simpa [srcC, Its] using hi, by simp [Its, srcC], fun i v H' hi y => ?_⟩
      obtain ⟨eH, k, ek, ev⟩ := y
      subst eH
      have ek : x[i]? = some k := by simpa using ek
      refine ⟨.str [k], ?_, .refl _, repT_str.mpr ⟨by rw [ev], by simp, fun c hc => ?_⟩⟩
      rotate_left
      · have e : c = k := by simpa using hc
        rw [e]
        exact rv.str.2.2 k (List.mem_of_getElem? ek)
      rw [List.getElem?_map]
      rw [ek]
      rfl
    | non => exact .inl (bad (by simp [srcOf, hk]))
    | bl _ => exact .inl (bad (by simp [srcOf, hk]))
    | int _ => exact .inl (bad (by simp [srcOf, hk]))
    | ty _ => exact .inl (bad (by simp [srcOf, hk]))
    | gl _ => exact .inl (bad (by simp [srcOf, hk]))
    | dk _ _ => exact .inl (bad (by simp [srcOf, hk]))
    | dt _ _ => exact .inl (bad (by simp [srcOf, hk]))
    | st _ => exact .inl (bad (by simp [srcOf, hk]))
    | adr _ => exact .inl (bad (by simp [srcOf, hk]))
    | tn _ => exact .inl (bad (by simp [srcOf, hk]))
    | cel _ => exact .inl (bad (by simp [srcOf, hk]))
/-! ranges -/
def rngOk (i : Int) : Bool := decide (-(2 ^ 62) ≤ i) && decide (i < 2 ^ 62)
theorem rngOk_iff {i : Int} : rngOk i = true ↔ -(2 ^ 62) ≤ i ∧ i < 2 ^ 62 := by simp [rngOk]
def rangeL (lo : Int) (n : Nat) : List D := (List.range n).map fun i => .int (lo + (i : Nat))
def rangeC (lo c : Int) (n : Nat) : List D := (List.range n).map fun i => .int (lo + (i : Nat) * c)
def srcRange1 : List D → Option Src
  | [.int j] => if rngOk j then some (srcC (rangeL 0 j.toNat)) else none
  | _ => none
def srcRange2 : List D → Option Src
  | [.int i, .int j] => if rngOk i && rngOk j then some (srcC (rangeL i (j - i).toNat)) else none
  | _ => none
def srcRange3 : List D → Option Src
  | [.int i, .int j, .int k] => if decide (k ≠ 0) && decide (k.natAbs < 1073741824) && Builtin.Range.small i j k && decide (0 ≤ Builtin.Range.rangeSize i j k) then some (srcC (rangeC i k (Builtin.Range.rangeSize i j k).toNat)) else none
  | _ => none
def eSrc (f : List D → Option Src) (ga : SEnv → Cells → Out (List D)) : SEnv → Cells → Out Src := fun sl ce => (ga sl ce).bind fun xs ce1 => match f xs with
  | some s => .ok s ce1
  | none => .bad
theorem srcC_ok {c : Cfg} {J : It} {τ O : List Addr} {H : Hp} {n : Nat} {f : Nat → Int} (w : Walk J n (fun _ => True) (YFn fun i => .int (f i))) : SrcOk c (srcC ((List.range n).map fun i => .int (f i))) J τ O H := by
  intro τ1 O1 ce1 H1 xs e1 w1 hi hl
  cases hi
  have hn : (srcC ((List.range n).map fun i => D.int (f i))).n = n := by simp [srcC]
  rw [hn]
  refine ⟨fun i hi => w.goes i H1 hi trivial, w.stops H1 trivial, fun i x H' hi y => ?_⟩
  obtain ⟨e, ex⟩ := w.yields i H1 x H' hi trivial y
  subst e
  refine ⟨.int (f i), by simp [List.getElem?_range, hi], .refl _, repT_int.mpr ex⟩
theorem Rep.toInt {c : Cfg} {τ O : List Addr} {H : Hp} {i : Int} {v : V} (h : Rep c τ O H (.int i) v) : v = .int i := repT_int.mp (show RepT c O H (.int i) v from h)
theorem ji_range1 {a : Expr} (hg : Gl X "range") (hm : X.mg "range" = none) (ha : JA X W [a] ga) (hs : starEach [a] X.env = [(false, eval a X.env)]) : JI X W tg (.Call (.Name "range" p) [a] [] pos) (eSrc srcRange1 ga) := by
  refine PI.weak (pi_range1 hg hm ha hs) fun σ H R h => ?_
  obtain ⟨τ, O, sl, ce, w, s, h⟩ := h
  refine ⟨τ, O, sl, ce, w, s, (PostG.bind h).mono fun τ1 O1 ce1 H1 ds e1 w1 h1 vs r => ?_⟩
  cases q : srcRange1 ds with
  | none => rw [q] at h1; exact h1.elim
  | some src =>
    rw [q] at h1
    have k := h1.done w1
    unfold srcRange1 at q
    split at q
    · rename_i j
      split at q
      · rename_i hj
        obtain ⟨b1, b2⟩ := rngOk_iff.mp hj
        cases q
        obtain ⟨v, _, rfl, r1, rfl⟩ := r
        exact ⟨j, by rw [r1.toInt], b1, b2, k _ (srcC_ok walk_range)⟩
      · cases q
    · cases q
theorem ji_range2 {a b : Expr} (hg : Gl X "range") (hm : X.mg "range" = none) (ha : JA X W [a, b] ga) (hs : starEach [a, b] X.env = [(false, eval a X.env), (false, eval b X.env)]) (hs2 : starEach [b] X.env = [(false, eval b X.env)]) : JI X W tg (.Call (.Name "range" p) [a, b] [] pos) (eSrc srcRange2 ga) := by
  refine PI.weak (pi_range2 hg hm ha hs hs2) fun σ H R h => ?_
  obtain ⟨τ, O, sl, ce, w, s, h⟩ := h
  refine ⟨τ, O, sl, ce, w, s, (PostG.bind h).mono fun τ1 O1 ce1 H1 ds e1 w1 h1 vs r => ?_⟩
  cases q : srcRange2 ds with
  | none => rw [q] at h1; exact h1.elim
  | some src =>
    rw [q] at h1
    have k := h1.done w1
    unfold srcRange2 at q
    split at q
    · rename_i i j
      split at q
      · rename_i hj
        obtain ⟨b1, b2⟩ := Bool.and_eq_true_iff.mp hj
        obtain ⟨b1, b3⟩ := rngOk_iff.mp b1
        obtain ⟨b2, b4⟩ := rngOk_iff.mp b2
        cases q
        obtain ⟨v, _, rfl, r1, v2, _, rfl, r2, rfl⟩ := r
        exact ⟨i, j, by rw [r1.toInt, r2.toInt], ⟨b1, b3, b2, b4⟩, k _ (srcC_ok walk_range)⟩
      · cases q
    · cases q
theorem ji_range3 {a b c : Expr} (hg : Gl X "range") (hm : X.mg "range" = none) (ha : JA X W [a, b, c] ga) (hs : starEach [a, b, c] X.env = (false, eval a X.env) :: starEach [b, c] X.env) (hpl : (backTo pos (starEach [b, c] X.env)).any (·.1) = false) :
    JI X W tg (.Call (.Name "range" p) [a, b, c] [] pos) (eSrc srcRange3 ga) := by
  refine PI.weak (pi_range3 hg hm ha hs hpl) fun σ H R h => ?_
  obtain ⟨τ, O, sl, ce, w, s, h⟩ := h
  refine ⟨τ, O, sl, ce, w, s, (PostG.bind h).mono fun τ1 O1 ce1 H1 ds e1 w1 h1 vs r => ?_⟩
  cases q : srcRange3 ds with
  | none => rw [q] at h1; exact h1.elim
  | some src =>
    rw [q] at h1
    have k := h1.done w1
    unfold srcRange3 at q
    split at q
    · rename_i i j l
      split at q
      · rename_i hj
        simp only [Bool.and_eq_true, decide_eq_true_eq] at hj
        obtain ⟨⟨⟨b1, b2⟩, b3⟩, b4⟩ := hj
        cases q
        obtain ⟨v, _, rfl, r1, v2, _, rfl, r2, v3, _, rfl, r3, rfl⟩ := r
        exact ⟨i, j, l, _, by rw [r1.toInt, r2.toInt, r3.toInt], ⟨b1, b2, b3, by omega⟩, k _ (srcC_ok walk_rangeC)⟩
      · cases q
    · cases q
/-- a pair made anew each turn -/
theorem srcP_ok {c : Cfg} {J : It} {τ O : List Addr} {H : Hp} {n : Nat} {G : Hp → Prop} {fx fy : Nat → Option V} {src : Src} (w : Walk J n G (YPair fx fy)) (hn : src.n = n)
    (hG : ∀ τ1 O1 ce1 H1 xs, Ext τ O H τ1 O1 H1 → WFh c τ1 O1 ce1 H1 → src.items ce1 = some xs → xs.length = n → G H1 ∧ ∀ i x y, i < n → fx i = some x → fy i = some y → ∃ d1 d2, xs[i]? = some (.tup [d1, d2]) ∧ RepT c O1 H1 d1 x ∧ RepT c O1 H1 d2 y) : SrcOk c src J τ O H := by
  subst hn
  intro τ1 O1 ce1 H1 xs e1 w1 hi hl
  obtain ⟨g, k⟩ := hG τ1 O1 ce1 H1 xs e1 w1 hi hl
  refine ⟨fun i hi => w.goes i H1 hi g, w.stops H1 g, fun i v H' hi yy => ?_⟩
  obtain ⟨T, x, y, rfl, hT, rfl, ex, ey⟩ := w.yields i H1 v H' hi g yy
  obtain ⟨d1, d2, e, r1, r2⟩ := k i x y hi ex ey
  have sm := same_upd (o := .tup [x, y]) hT
  have ext : Ext τ1 O1 H1 τ1 O1 (upd H1 T (.tup [x, y])) := .same sm
  exact ⟨_, e, sm, repT_tup.mpr ⟨T, _, rfl, ⟨fun z => w1.trk T z hT, upd_same⟩, repTs_cons.mpr ⟨_, _, rfl, r1.ext ext, RepTs.one (r2.ext ext)⟩⟩⟩
end

/-! ### for -/
def loop (src : Src) (gt : GDen) (body : SDen) : Nat → SEnv → Cells → SOut
  | 0, sl, ce => match src.items ce with
    | some xs => if xs.length = src.n then .nx sl ce else .bad
    | none => .bad
  | m + 1, sl, ce => match src.items ce with
    | some xs => if xs.length = src.n then (match xs[src.n - (m + 1)]? with
      | some d => match gt d sl with
        | some sl1 => match body sl1 ce with
          | .nx sl2 ce2 => loop src gt body m sl2 ce2
          | .ct sl2 ce2 => loop src gt body m sl2 ce2
          | .bk sl2 ce2 => .nx sl2 ce2
          | .rt d ce2 => .rt d ce2
          | .ex x sl2 ce2 => .ex x sl2 ce2
          | .bad => .bad
        | none => .bad
      | none => .bad) else .bad
    | none => .bad
def sFor (gi : SEnv → Cells → Out Src) (gt : GDen) (body : SDen) : SDen := fun sl ce => (gi sl ce).st sl fun src ce1 => loop src gt body src.n sl ce1
section
variable {X : Cx} {W : WX} {tg iter : Expr} {body : List Stmt} {gi : SEnv → Cells → Out Src} {gt : GDen} {us : List Nat} {gb : SDen} {pos : Pos}
theorem js_for (hp : PassesOwn (model X.prog X.w) X.A X.env X.xe) (hc : X.calm = true) (hi : JI X W tg iter gi) (hg : JG X tg us gt) (hb : JSs X W body gb) (hs : ∀ x, foldedSetIterable iter X.env x = pure x) : JS X W (.For tg iter body [] pos) (sFor gi gt gb) := by
  refine PS.weak (ps_for hp hc hi hg hb hs) fun D σ H h => ?_
  obtain ⟨τ, O, sl, ce, w, s, h⟩ := h
  refine ⟨τ, O, sl, ce, w, s, (PostS.st s h).mono fun τ1 O1 ce1 H1 src e1 w1 h1 J hJ => ?_⟩
  refine ⟨fun i m σ H => ∃ τ O sl ce, m = src.n - i ∧ i ≤ src.n ∧ Ext τ1 O1 H1 τ O H ∧ WFh (cfg X) τ O ce H ∧ SRep (cfg X) τ O H sl σ ∧ PostS (cfg X) W τ O H (loop src gt gb m sl ce) D,
    ⟨src.n, τ1, O1, sl, ce1, rfl, Nat.zero_le _, .refl, w1, s.ext e1, h1⟩, ?_⟩
  rintro i m σ2 H2 ⟨τ2, O2, sl2, ce2, rfl, hi, e2, w2, s2, h2⟩
  by_cases hlt : i < src.n
  · obtain ⟨m, hm⟩ : ∃ m, src.n - i = m + 1 := ⟨src.n - i - 1, by omega⟩
    rw [hm] at h2 ⊢
    have hix : src.n - (m + 1) = i := by omega
    unfold loop at h2
    split at h2
    · rename_i xs hxs
      split at h2
      · rename_i hl
        obtain ⟨k1, k2, k3⟩ := hJ τ2 O2 ce2 H2 xs e2 w2 hxs hl
        rw [hix] at h2
        split at h2
        · rename_i d hd
          split at h2
          · rename_i sl3 hsl
            refine .inr ⟨k1 i hlt, fun σ' H' => ∃ τ O sl ce, Ext τ1 O1 H1 τ O H' ∧ WFh (cfg X) τ O ce H' ∧ SRep (cfg X) τ O H' sl σ' ∧ PostS (cfg X) W τ O H' (loop src gt gb m sl ce) D, ?_, fun x H' y => ?_⟩
            · rintro σ' H' ⟨τ', O', sl', ce', q1, q2, q3, q4⟩
              exact ⟨m, by omega, τ', O', sl', ce', by omega, by omega, q1, q2, q3, q4⟩
            · obtain ⟨d', hd', sm, rd⟩ := k3 i x H' hlt y
              rw [hd] at hd'
              cases hd'
              have ex : Ext τ2 O2 H2 τ2 O2 H' := .same sm
              refine ⟨τ2, O2, sl2, d, sl3, s2.ext ex, rd, hsl, fun σ' s' _ => ?_⟩
              refine ⟨τ2, O2, sl3, ce2, w2.same sm, s', ?_⟩
              have e3 := e2.trans ex
              have h3 := h2
              cases hb : gb sl3 ce2 with
              | nx sl4 ce4 => rw [hb] at h3; exact fun τ' O' σ' H'' e w' s' => ⟨τ', O', sl4, ce4, e3.trans e, w', s', PostS.ext (ex.trans e) h3⟩
              | ct sl4 ce4 => rw [hb] at h3; exact fun τ' O' σ' H'' e w' s' => ⟨τ', O', sl4, ce4, e3.trans e, w', s', PostS.ext (ex.trans e) h3⟩
              | bk sl4 ce4 => rw [hb] at h3; exact fun τ' O' σ' H'' e w' s' => h3 τ' O' σ' H'' (ex.trans e) w' s'
              | rt d4 ce4 => rw [hb] at h3; exact fun τ' O' v H'' e w' s' => h3 τ' O' v H'' (ex.trans e) w' s'
              | ex x4 sl4 ce4 => rw [hb] at h3; exact fun τ' O' σ' H'' e w' s' => h3 τ' O' σ' H'' (ex.trans e) w' s'
              | bad => rw [hb] at h3; exact h3
          · exact h2.elim
        · exact h2.elim
      · exact h2.elim
    · exact h2.elim
  · have e : i = src.n := by omega
    subst e
    rw [Nat.sub_self] at h2
    unfold loop at h2
    split at h2
    · rename_i xs hxs
      split at h2
      · rename_i hl
        obtain ⟨k1, k2, k3⟩ := hJ τ2 O2 ce2 H2 xs e2 w2 hxs hl
        exact .inl ⟨k2, h2 τ2 O2 σ2 H2 .refl w2 s2⟩
      · exact h2.elim
    · exact h2.elim

/-! ### while -/
def wloop (gt : SEnv → Cells → Out Bool) (body : SDen) : Nat → SEnv → Cells → SOut
  | 0, _, _ => .bad
  | f + 1, sl, ce => (gt sl ce).st sl fun b ce1 => if b = true then (match body sl ce1 with
      | .nx sl2 ce2 => wloop gt body f sl2 ce2
      | .ct sl2 ce2 => wloop gt body f sl2 ce2
      | .bk sl2 ce2 => .nx sl2 ce2
      | .rt d ce2 => .rt d ce2
      | .ex x sl2 ce2 => .ex x sl2 ce2
      | .bad => .bad) else .nx sl ce1
def sWhile (fuel : Nat) (gt : SEnv → Cells → Out Bool) (body : SDen) : SDen := wloop gt body fuel
theorem js_while {t : Expr} {gtt : SEnv → Cells → Out Bool} (fuel : Nat) (hp : PassesOwn (model X.prog X.w) X.A X.env X.xe) (ht : JT X W t gtt) (hb : JSs X W body gb) : JS X W (.While t body [] pos) (sWhile fuel gtt gb) := by
  refine PS.weak (ps_while hp ht hb) fun D σ H h => ?_
  obtain ⟨τ, O, sl, ce, w, s, h⟩ := h
  refine ⟨fun m σ H => ∃ τ O sl ce, WFh (cfg X) τ O ce H ∧ SRep (cfg X) τ O H sl σ ∧ PostS (cfg X) W τ O H (wloop gtt gb m sl ce) D, ⟨fuel, τ, O, sl, ce, w, s, h⟩, ?_⟩
  rintro m σ2 H2 ⟨τ2, O2, sl2, ce2, w2, s2, h2⟩
  cases m with
  | zero => exact h2.elim
  | succ m =>
    refine ⟨τ2, O2, sl2, ce2, w2, s2, (PostS.st s2 h2).mono fun τ3 O3 ce3 H3 b e3 w3 h3 => ?_⟩
    cases b with
    | false => exact h3 τ3 O3 σ2 H3 .refl w3 (s2.ext e3)
    | true =>
      refine ⟨fun σ' H' => ∃ τ O sl ce, WFh (cfg X) τ O ce H' ∧ SRep (cfg X) τ O H' sl σ' ∧ PostS (cfg X) W τ O H' (wloop gtt gb m sl ce) D, fun σ' H' q => ⟨m, Nat.lt_succ_self _, q⟩, τ3, O3, sl2, ce3, w3, s2.ext e3, ?_⟩
      rw [if_pos rfl] at h3
      cases hb : gb sl2 ce3 with
      | nx sl4 ce4 => rw [hb] at h3; exact fun τ' O' σ' H'' e w' s' => ⟨τ', O', sl4, ce4, w', s', PostS.ext e h3⟩
      | ct sl4 ce4 => rw [hb] at h3; exact fun τ' O' σ' H'' e w' s' => ⟨τ', O', sl4, ce4, w', s', PostS.ext e h3⟩
      | bk sl4 ce4 => rw [hb] at h3; exact h3
      | rt d4 ce4 => rw [hb] at h3; exact h3
      | ex x4 sl4 ce4 => rw [hb] at h3; exact h3
      | bad => rw [hb] at h3; exact h3
end

/-! ### comprehensions -/
def cloop (src : Src) (gt : GDen) (tt : SEnv → Cells → Out Bool) (ge : EDen) (sl : SEnv) (n0 : Nat) : Nat → Cells → Option Cells
  | 0, ce => match src.items ce with
    | some xs => if xs.length = src.n then some ce else none
    | none => none
  | m + 1, ce => match src.items ce with
    | some xs => if xs.length = src.n then (match xs[src.n - (m + 1)]? with
      | some d => match gt d sl with
        | some sl1 => match tt sl1 ce with
          | .ok true ce1 => match ge sl1 ce1 with
            | .ok y ce2 => match (frz ce2 y).2[n0]? with
              | some (.lst acc) => if acc.length < 1000000 then cloop src gt tt ge sl n0 m ((frz ce2 y).2.set n0 (.lst (acc ++ [(frz ce2 y).1]))) else none
              | _ => none
            | _ => none
          | .ok false ce1 => cloop src gt tt ge sl n0 m ce1
          | _ => none
        | none => none
      | none => none) else none
    | none => none
def eCompG (fin : Nat → List D → Cells → Out D) (gi : SEnv → Cells → Out Src) (us : List Nat) (gt : GDen) (tt : SEnv → Cells → Out Bool) (ge : EDen) : EDen := fun sl ce => (gi sl ce).bind fun src ce1 =>
  match cloop src gt tt ge (wipeD sl us) ce1.length src.n (ce1 ++ [.lst []]) with
  | some ce2 => match ce2[ce1.length]? with
    | some (.lst xs) => fin ce1.length xs ce2
    | _ => .bad
  | none => .bad
/-- the list that a comprehension makes, as a tree -/
abbrev eComp := eCompG fun n xs ce => .ok (.lst xs) (ce.take n)
/-- .. as a cell -/
abbrev eCompC := eCompG fun n xs ce => .ok (.cel n) (ce.take n ++ [.lst xs])
def W0 : WX := fun _ _ _ _ => False
def ttYes : SEnv → Cells → Out Bool := fun _ ce => .ok true ce
def JTs (X : Cx) (W : WX) (ifs : List Expr) (g : SEnv → Cells → Out Bool) : Prop := PTs X ifs (tT (cfg X) W g)
theorem PTs.weak {X : Cx} {e : List Expr} {t t' : TT} (h : PTs X e t) (w : ∀ σ H Q, t' σ H Q → t σ H Q) : PTs X e t' := ⟨fun pins s σ H Q I q => h.run pins s σ H Q I (w σ H Q q)⟩
theorem jts_nil {X : Cx} {W : WX} : JTs X W [] ttYes := PTs.weak pts_nil fun σ H Q h => by
  obtain ⟨τ, O, sl, ce, w, s, h⟩ := h
  exact h.done w
theorem jts_one {X : Cx} {W : WX} {e : Expr} {g : SEnv → Cells → Out Bool} (h : JT X W e g) : JTs X W [e] g := pts_one h
theorem notex {c : Cfg} {α : Type} {τ O : List Addr} {H : Hp} {σ : L2.St} {r : Out α} {K : List Addr → List Addr → Cells → Hp → α → Prop} (h : ∃ a ce, r = .ok a ce ∧ ∀ τ' O' H', Ext τ O H τ' O' H' → WFh c τ' O' ce H' → K τ' O' ce H' a) : PostG c W0 τ O H σ r K := by
  obtain ⟨a, ce, rfl, h⟩ := h
  exact h
section
variable {X : Cx} {W : WX} {elt tg iter : Expr} {ifs : List Expr} {scope : Scope} {own : List (Str × Nat)} {pos : Pos} {gi : SEnv → Cells → Out Src} {gt : GDen} {us : List Nat} {tt : SEnv → Cells → Out Bool} {ge : EDen}
/-- what the comprehension's loop asks, from its denotation -/
theorem comp_t {c : Cfg} {τ1 O1 : List Addr} {ce1 : Cells} {H1 : Hp} {src : Src} {J : It} {sl : SEnv} {σ : L2.St} {ce' : Cells} {D : Addr} {Qd : Hp → Prop} (w1 : WFh c τ1 O1 ce1 H1) (s1 : SRep c τ1 O1 H1 sl σ) (hJ : SrcOk c src J τ1 O1 H1) (hD : H1 D = none)
    (hrun : cloop src gt tt ge (wipeD sl us) ce1.length src.n (ce1 ++ [.lst []]) = some ce')
    (hd : ∀ τ O H, Ext (τ1 ++ [D]) (D :: O1) (upd H1 D (.lst [])) τ O H → WFh c τ O ce' H → Qd H) :
    ∃ Wv : Nat → Nat → Hp → Prop, (∃ m, Wv 0 m (upd H1 D (.lst []))) ∧ ∀ i m H, Wv i m H →
      (J.stop i H ∧ Qd H) ∨ (J.go i H ∧ ∃ Nx : Hp → Prop, (∀ H', Nx H' → ∃ m', m' < m ∧ Wv (i + 1) m' H') ∧ ∀ x H', J.yld i H x H' → tG c us gt x (wipe σ us) H' fun σ2 H2 => wipe σ2 us = wipe σ us ∧ tT c W0 tt σ2 H2 fun b H3 =>
        if b = true then tE c W0 ge σ2 H3 fun y H4 => ∃ acc, H4 D = some (.lst acc) ∧ acc.length < sizeLine ∧ Nx (upd H4 D (.lst (acc ++ [y]))) else Nx H3) := by
  have e0 : Ext τ1 O1 H1 (τ1 ++ [D]) (D :: O1) (upd H1 D (.lst [])) := .cell hD
  have w0 : WFh c (τ1 ++ [D]) (D :: O1) (ce1 ++ [.lst []]) (upd H1 D (.lst [])) := w1.push hD ⟨List.mem_cons_self, [], upd_same, repTs_nil.mpr rfl⟩
  have hDk : (τ1 ++ [D])[ce1.length]? = some D := by rw [← w1.len, List.getElem?_append_right (Nat.le_refl _)]; simp
  refine ⟨fun i m H => ∃ τ O ce, m = src.n - i ∧ i ≤ src.n ∧ Ext (τ1 ++ [D]) (D :: O1) (upd H1 D (.lst [])) τ O H ∧ WFh c τ O ce H ∧ cloop src gt tt ge (wipeD sl us) ce1.length m ce = some ce',
    ⟨src.n, τ1 ++ [D], D :: O1, _, rfl, Nat.zero_le _, .refl, w0, hrun⟩, ?_⟩
  rintro i m H2 ⟨τ2, O2, ce2, rfl, hi, e2, w2, h2⟩
  by_cases hlt : i < src.n
  · obtain ⟨m, hm⟩ : ∃ m, src.n - i = m + 1 := ⟨src.n - i - 1, by omega⟩
    rw [hm] at h2 ⊢
    have hix : src.n - (m + 1) = i := by omega
    unfold cloop at h2
    split at h2
    · rename_i xs hxs
      split at h2
      · rename_i hl
        obtain ⟨k1, k2, k3⟩ := hJ τ2 O2 ce2 H2 xs (e0.trans e2) w2 hxs hl
        rw [hix] at h2
        split at h2
        · rename_i d hd'
          split at h2
          · rename_i sl3 hsl
            refine .inr ⟨k1 i hlt, fun H' => ∃ τ O ce, Ext (τ1 ++ [D]) (D :: O1) (upd H1 D (.lst [])) τ O H' ∧ WFh c τ O ce H' ∧ cloop src gt tt ge (wipeD sl us) ce1.length m ce = some ce', ?_, fun x H' y => ?_⟩
            · rintro H' ⟨τ', O', ce', q1, q2, q3⟩
              exact ⟨m, by omega, τ', O', ce', by omega, by omega, q1, q2, q3⟩
            · obtain ⟨d', hd2, sm, rd⟩ := k3 i x H' hlt y
              rw [hd'] at hd2
              cases hd2
              have ex : Ext τ2 O2 H2 τ2 O2 H' := .same sm
              refine ⟨τ2, O2, wipeD sl us, d, sl3, (s1.ext ((e0.trans e2).trans ex)).wipe us, rd, hsl, fun σ2 s' hw => ⟨hw.trans wipe_wipe, ?_⟩⟩
              have w2' := w2.same sm
              refine ⟨τ2, O2, sl3, ce2, w2', s', ?_⟩
              split at h2
              · rename_i ce3 htt
                refine notex ⟨true, ce3, htt, fun τ3 O3 H3 e3 w3 => L2.iteT ?_⟩
                split at h2
                · rename_i yd ce4 hge
                  refine ⟨τ3, O3, sl3, ce3, w3, s'.ext e3, notex ⟨yd, ce4, hge, fun τ4 O4 H4 e4 w4 v r => ?_⟩⟩
                  obtain ⟨O5, e5, w5, r5⟩ := frz_ok w4 r
                  split at h2
                  · rename_i acc hacc
                    split at h2
                    · rename_i hlen
                      have e6 := ((e2.trans ex).trans e3).trans (e4.trans e5)
                      have hD4 : τ4[ce1.length]? = some D := e6.pre _ _ hDk
                      obtain ⟨hO, vs, hv, rvs⟩ := w5.cell _ _ _ hD4 hacc
                      refine ⟨vs, hv, by rw [← rvs.length]; exact Nat.lt_trans hlen (by rw [sizeLine_eq]; decide), ?_⟩
                      have em : Ext τ4 O5 H4 τ4 O5 (upd H4 D (.lst (vs ++ [v]))) := .mut hO
                      exact ⟨τ4, O5, _, e6.trans em, w5.set hD4 hO (show CellOk c O5 _ D (.lst (acc ++ [(frz ce4 yd).1])) from ⟨hO, _, upd_same, (rvs.ext em).append (RepTs.one (r5.ext em))⟩), h2⟩
                    · cases h2
                  · cases h2
                · cases h2
              · rename_i ce3 htt
                refine notex ⟨false, ce3, htt, fun τ3 O3 H3 e3 w3 => L2.iteF ?_⟩
                exact ⟨τ3, O3, ce3, (e2.trans ex).trans e3, w3, h2⟩
              · cases h2
          · cases h2
        · cases h2
      · cases h2
    · cases h2
  · have e : i = src.n := by omega
    subst e
    rw [Nat.sub_self] at h2
    unfold cloop at h2
    split at h2
    · rename_i xs hxs
      split at h2
      · rename_i hl
        obtain ⟨k1, k2, k3⟩ := hJ τ2 O2 ce2 H2 xs (e0.trans e2) w2 hxs hl
        cases h2
        exact .inl ⟨k2, hd τ2 O2 H2 e2 w2⟩
      · cases h2
    · cases h2
/-- the end: the new list taken out of the cells -/
theorem comp_end {c : Cfg} {τ1 O1 : List Addr} {ce1 : Cells} {H1 : Hp} {D : Addr} {τ O : List Addr} {H : Hp} {ce' : Cells} {xs : List Ib.D} (w1 : WFh c τ1 O1 ce1 H1) (hD : H1 D = none) (e : Ext (τ1 ++ [D]) (D :: O1) (upd H1 D (.lst [])) τ O H) (w : WFh c τ O ce' H) (hx : ce'[ce1.length]? = some (.lst xs)) :
    (∃ O', Ext τ1 O1 H1 (τ.take ce1.length) O' H ∧ WFh c (τ.take ce1.length) O' (ce'.take ce1.length) H ∧ RepT c O' H (.lst xs) (.ref D)) ∧
    ∃ O', Ext τ1 O1 H1 (τ.take ce1.length ++ [D]) O' H ∧ WFh c (τ.take ce1.length ++ [D]) O' (ce'.take ce1.length ++ [.lst xs]) H := by
  have hDk : (τ1 ++ [D])[ce1.length]? = some D := by rw [← w1.len, List.getElem?_append_right (Nat.le_refl _)]; simp
  have hDt : τ[ce1.length]? = some D := e.pre _ _ hDk
  obtain ⟨hO, vs, hv, rvs⟩ := w.cell _ _ _ hDt hx
  have e0 : Ext τ1 O1 H1 (τ1 ++ [D]) (D :: O1) (upd H1 D (.lst [])) := .cell hD
  have e1 := e0.trans e
  have pre : ∀ (k : Nat) a, τ1[k]? = some a → (τ.take ce1.length)[k]? = some a := fun k a h => by
    have hk : k < ce1.length := by rw [← w1.len]; exact (List.getElem?_eq_some_iff.mp h).1
    rw [List.getElem?_take_of_lt hk]
    exact e1.pre k a h
  obtain ⟨O', wc, sub, keepO, out⟩ := w.cut ce1.length
  have hDd : D ∈ τ.drop ce1.length := by
    refine List.mem_of_getElem? (i := 0) ?_
    rw [List.getElem?_drop]; exact hDt
  have hDt' : D ∉ τ.take ce1.length := fun z => by
    obtain ⟨j, hj⟩ := List.getElem?_of_mem z
    have hj' : j < ce1.length := by
      have := (List.getElem?_eq_some_iff.mp hj).1
      simp at this; omega
    rw [List.getElem?_take_of_lt hj'] at hj
    obtain ⟨h3, h4⟩ := List.getElem?_eq_some_iff.mp hj
    obtain ⟨h5, h6⟩ := List.getElem?_eq_some_iff.mp hDt
    have := (List.getElem_inj w.nd).mp (h4.trans h6.symm)
    omega
  refine ⟨⟨O', ⟨e1.heap, pre, fun a h => e1.avoid a (sub a h)⟩, wc, ?_⟩, ⟨D :: O', ⟨e1.heap, fun k a h => ?_, fun a h => ?_⟩, ?_⟩⟩
  · exact repT_lst.mpr ⟨D, vs, rfl, .inl ⟨fun z => out D z hDd, .inl hv⟩, rvs.ext (Ext.fewer (τ := τ) sub)⟩
  · have q := pre k a h
    rw [List.getElem?_append_left (List.getElem?_eq_some_iff.mp q).1]
    exact q
  · rcases List.mem_cons.mp h with rfl | h
    · exact .inr hD
    · exact e1.avoid a (sub a h)
  · have sub' : ∀ a ∈ D :: O', a ∈ O := fun a h => (List.mem_cons.mp h).elim (fun e => e ▸ hO) (sub a)
    refine ⟨by simp [wc.len], fun a h => w.trk a (sub' a h), ?_, fun k a m h1 h2 => ?_, fun a h => w.nx a (sub' a h), fun p hp => ?_, fun a h => w.nt a (sub' a h)⟩
    rotate_left 2
    · obtain ⟨h1, h2, h3⟩ := wc.tab p hp
      refine ⟨List.mem_cons_of_mem _ h1, fun z => ?_, h3⟩
      rcases List.mem_append.mp z with z | z
      · exact h2 z
      · have e : p.1 = D := by simpa using z
        exact (w.tab p hp).2.1 (by rw [e]; exact List.mem_of_mem_drop hDd)
    · rw [List.nodup_append]
      refine ⟨wc.nd, by simp, fun a ha b hb => ?_⟩
      have : b = D := by simpa using hb
      subst this
      exact fun e => hDt' (e ▸ ha)
    · by_cases hk : k < (τ.take ce1.length).length
      · rw [List.getElem?_append_left hk] at h1
        rw [List.getElem?_append_left (by rw [← wc.len]; exact hk)] at h2
        have hk' : k < ce1.length := by simp at hk; omega
        rw [List.getElem?_take_of_lt hk'] at h1 h2
        refine (w.cell k a m h1 h2).extL (Ext.fewer (τ := τ) sub') (fun z => ?_) fun _ q => q
        have hin : a ∉ τ.drop ce1.length := fun hm => by
          obtain ⟨j, hj⟩ := List.getElem?_of_mem hm
          rw [List.getElem?_drop] at hj
          obtain ⟨h3, h4⟩ := List.getElem?_eq_some_iff.mp h1
          obtain ⟨h5, h6⟩ := List.getElem?_eq_some_iff.mp hj
          have := (List.getElem_inj w.nd).mp (h4.trans h6.symm)
          omega
        exact List.mem_cons_of_mem _ (keepO a z hin)
      · have hk' : k = (τ.take ce1.length).length := by
          have := (List.getElem?_eq_some_iff.mp h1).1
          simp at this hk
          simp; omega
        subst hk'
        rw [List.getElem?_append_right (Nat.le_refl _)] at h1
        rw [wc.len, List.getElem?_append_right (Nat.le_refl _)] at h2
        simp at h1 h2
        subst h1 h2
        exact ⟨List.mem_cons_self, vs, hv, rvs.ext (Ext.fewer (τ := τ) sub')⟩
theorem comp_r {W : WX} (hus : us = own.map (·.2)) {te : TE} {K2 : D → Cells → Cells → Out D} (σ : L2.St) (H : Hp) (Q : VK)
    (h : ∃ τ O sl ce, WFh (cfg X) τ O ce H ∧ SRep (cfg X) τ O H sl σ ∧ PostG (cfg X) W τ O H σ (gi sl ce) fun τ1 O1 ce1 H1 src => ∃ ce', cloop src gt tt ge (wipeD sl us) ce1.length src.n (ce1 ++ [.lst []]) = some ce' ∧
      ∀ D τ' O' H', H1 D = none → Ext (τ1 ++ [D]) (D :: O1) (upd H1 D (.lst [])) τ' O' H' → WFh (cfg X) τ' O' ce' H' → Q (.ref D) H') :
    tLc (tI (cfg X) W gi) (tG (cfg X) us gt) (tT (cfg X) W0 tt) (tE (cfg X) W0 ge) (own.map (·.2)) σ H Q := by
  subst hus
  obtain ⟨τ, O, sl, ce, w, s, h⟩ := h
  refine ⟨τ, O, sl, ce, w, s, h.mono fun τ1 O1 ce1 H1 src e1 w1 h1 J hJ D hD => ?_⟩
  obtain ⟨ce', hrun, hq⟩ := h1
  exact comp_t w1 (s.ext e1) hJ hD hrun fun τ' O' H' e' w' => hq D τ' O' H' hD e' w'
theorem comp_den {W : WX} {σ : L2.St} {H : Hp} {Q : VK} {τ O : List Addr} {sl : SEnv} {ce : Cells} {fin : Nat → List D → Cells → Out D}
    (h : PostG (cfg X) W τ O H σ (eCompG fin gi us gt tt ge sl ce) fun τ' O' ce' H' d => ∀ v, Rep (cfg X) τ' O' H' d v → Q v H')
    (hf : ∀ τ1 O1 ce1 H1 ce' xs, WFh (cfg X) τ1 O1 ce1 H1 → PostG (cfg X) W τ1 O1 H1 σ (fin ce1.length xs ce') (fun τ' O' ce' H' d => ∀ v, Rep (cfg X) τ' O' H' d v → Q v H') → ce'[ce1.length]? = some (.lst xs) →
      ∀ D τ' O' H', H1 D = none → Ext (τ1 ++ [D]) (D :: O1) (upd H1 D (.lst [])) τ' O' H' → WFh (cfg X) τ' O' ce' H' → Q (.ref D) H') :
    PostG (cfg X) W τ O H σ (gi sl ce) fun τ1 O1 ce1 H1 src => ∃ ce', cloop src gt tt ge (wipeD sl us) ce1.length src.n (ce1 ++ [.lst []]) = some ce' ∧
      ∀ D τ' O' H', H1 D = none → Ext (τ1 ++ [D]) (D :: O1) (upd H1 D (.lst [])) τ' O' H' → WFh (cfg X) τ' O' ce' H' → Q (.ref D) H' := by
  refine (PostG.bind h).mono fun τ1 O1 ce1 H1 src e1 w1 h1 => ?_
  split at h1
  · rename_i ce2 hrun
    split at h1
    · rename_i xs hx
      exact ⟨ce2, hrun, hf τ1 O1 ce1 H1 ce2 xs w1 h1 hx⟩
    · exact h1.elim
  · exact h1.elim
theorem je_comp (hc : X.calm = true) (hN : X.N.Nodup) (hi : JI X W tg iter gi) (ok : BlkOk X.N X.env.scope scope own) (hus : us = own.map (·.2))
    (hg : ∀ (s : Shared) (H : Hp) (C : Addr) (cl : List (Str × Addr)) (fp : List Addr), JG (X.blk s H scope (compEnvC scope cl C X.env) fp) tg us gt)
    (ht : ∀ (s : Shared) (H : Hp) (C : Addr) (cl : List (Str × Addr)) (fp : List Addr), JTs (X.blk s H scope (compEnvC scope cl C X.env) fp) W0 ifs tt)
    (he : ∀ (s : Shared) (H : Hp) (C : Addr) (cl : List (Str × Addr)) (fp : List Addr), JE (X.blk s H scope (compEnvC scope cl C X.env) fp) W0 elt ge)
    (hs : ∀ x, foldedSetIterable iter X.env x = pure x) : JE X W (.ListComp elt [⟨tg, iter, ifs, 0⟩] scope pos) (eComp gi us gt tt ge) := by
  refine PE.weak (pe_lc (wi := tI (cfg X) W gi) (g := tG (cfg X) us gt) (tt := tT (cfg X) W0 tt) (te := tE (cfg X) W0 ge) hc hN hi ok hg ht he hs) fun σ H Q h => ?_
  obtain ⟨τ, O, sl, ce, w, s, h⟩ := h
  refine comp_r (te := fun _ _ _ => True) (K2 := fun _ _ _ => .bad) hus σ H Q ⟨τ, O, sl, ce, w, s, comp_den h fun τ1 O1 ce1 H1 ce' xs w1 h1 hx D τ' O' H' hD e' w' => ?_⟩
  obtain ⟨⟨O2, e2, w2, r2⟩, _⟩ := comp_end w1 hD e' w' hx
  exact h1 _ _ _ e2 w2 _ r2.rep
theorem je_compC (hc : X.calm = true) (hN : X.N.Nodup) (hi : JI X W tg iter gi) (ok : BlkOk X.N X.env.scope scope own) (hus : us = own.map (·.2))
    (hg : ∀ (s : Shared) (H : Hp) (C : Addr) (cl : List (Str × Addr)) (fp : List Addr), JG (X.blk s H scope (compEnvC scope cl C X.env) fp) tg us gt)
    (ht : ∀ (s : Shared) (H : Hp) (C : Addr) (cl : List (Str × Addr)) (fp : List Addr), JTs (X.blk s H scope (compEnvC scope cl C X.env) fp) W0 ifs tt)
    (he : ∀ (s : Shared) (H : Hp) (C : Addr) (cl : List (Str × Addr)) (fp : List Addr), JE (X.blk s H scope (compEnvC scope cl C X.env) fp) W0 elt ge)
    (hs : ∀ x, foldedSetIterable iter X.env x = pure x) : JE X W (.ListComp elt [⟨tg, iter, ifs, 0⟩] scope pos) (eCompC gi us gt tt ge) := by
  refine PE.weak (pe_lc (wi := tI (cfg X) W gi) (g := tG (cfg X) us gt) (tt := tT (cfg X) W0 tt) (te := tE (cfg X) W0 ge) hc hN hi ok hg ht he hs) fun σ H Q h => ?_
  obtain ⟨τ, O, sl, ce, w, s, h⟩ := h
  refine comp_r (te := fun _ _ _ => True) (K2 := fun _ _ _ => .bad) hus σ H Q ⟨τ, O, sl, ce, w, s, comp_den h fun τ1 O1 ce1 H1 ce' xs w1 h1 hx D τ' O' H' hD e' w' => ?_⟩
  obtain ⟨_, O2, e2, w2⟩ := comp_end w1 hD e' w' hx
  refine h1 _ _ _ e2 w2 _ ⟨D, ?_, rfl⟩
  have hl : (τ'.take ce1.length).length = ce1.length := by
    have : ce1.length ≤ τ'.length := by
      have q := (List.getElem?_eq_some_iff.mp (e'.pre ce1.length D (by rw [← w1.len, List.getElem?_append_right (Nat.le_refl _)]; simp))).1
      omega
    simp; omega
  rw [List.getElem?_append_right (by omega), hl, Nat.sub_self]
  rfl
/-- name = [..] -/
theorem js_setComp (i : Nat) {y : Str} {py spos : Pos} (hc : X.calm = true) (hN : X.N.Nodup) (hy : X.N[i]? = some y) (hyl : X.env.scope.names.lookup y = some .local)
    (hsw : swapsWith (.ListComp elt [⟨tg, iter, ifs, 0⟩] scope pos) (some (.Name y py)) spos.line X.env = pure true) (hi : JI X W tg iter gi) (ok : BlkOk X.N X.env.scope scope own) (hus : us = own.map (·.2))
    (hg : ∀ (s : Shared) (H : Hp) (C : Addr) (cl : List (Str × Addr)) (fp : List Addr), JG (X.blk s H scope (compEnvC scope cl C X.env) fp) tg us gt)
    (ht : ∀ (s : Shared) (H : Hp) (C : Addr) (cl : List (Str × Addr)) (fp : List Addr), JTs (X.blk s H scope (compEnvC scope cl C X.env) fp) W0 ifs tt)
    (he : ∀ (s : Shared) (H : Hp) (C : Addr) (cl : List (Str × Addr)) (fp : List Addr), JE (X.blk s H scope (compEnvC scope cl C X.env) fp) W0 elt ge)
    (hs : ∀ x, foldedSetIterable iter X.env x = pure x) : JS X W (.Assign [.Name y py] (.ListComp elt [⟨tg, iter, ifs, 0⟩] scope pos) spos) (sSet i (eComp gi us gt tt ge)) := by
  refine PS.weak (ps_setLc (wi := tI (cfg X) W gi) (g := tG (cfg X) us gt) (tt := tT (cfg X) W0 tt) (te := tE (cfg X) W0 ge) hc hN hy hyl hsw hi ok hg ht he hs) fun D σ H h => ?_
  obtain ⟨τ, O, sl, ce, w, s, h⟩ := h
  refine comp_r (te := fun _ _ _ => True) (K2 := fun _ _ _ => .bad) hus σ H (fun x H1 => gName i x σ H1 D.nx) ⟨τ, O, sl, ce, w, s, comp_den (Q := fun x H1 => gName i x σ H1 D.nx) ((PostS.st s h).mono fun τ1 O1 ce1 H1 d e1 w1 h1 v r => ?_) fun τ1 O1 ce1 H1 ce' xs w1 h1 hx D τ' O' H' hD e' w' => ?_⟩
  · exact h1 τ1 O1 _ H1 .refl w1 ((s.ext e1).set i r)
  · obtain ⟨⟨O2, e2, w2, r2⟩, _⟩ := comp_end w1 hD e' w' hx
    exact h1 _ _ _ e2 w2 _ r2.rep
end

/-! ### defs -/
def fin (n0 : Nat) (d : D) (ce : Cells) : Out D := match d with
  | .cel k => if k < n0 then .ok (.cel k) (ce.take n0) else match ce[k]? with
    | some (.frz d) => .ok d (ce.take n0)
    | some m => .ok (.cel n0) (ce.take n0 ++ [m])
    | none => .bad
  | d => .ok d (ce.take n0)
def runF (n N : Nat) (g : SDen) : FDen := fun ds ce => if ds.length = n then match g (ds.map some ++ List.replicate (N - ds.length) none) ce with
    | .rt d ce' => fin ce.length d ce'
    | .nx _ ce' => fin ce.length .non ce'
    | .ex x _ ce' => .ex x (ce'.take ce.length)
    | _ => .bad else .bad
def spG (c : Cfg) (n : Nat) (F : FDen) : Sp := fun vs H Q E => ∃ τ O ce ds, vs.length = n ∧ WFh c τ O ce H ∧ Reps c τ O H ds vs ∧ PostG c (fun cls d _ H => E cls d H) τ O H [] (F ds ce) fun τ' O' ce' H' d => ∀ v, Rep c τ' O' H' d v → Q v H'
section
variable {c : Cfg} {τ0 O0 τ O : List Addr} {H0 H : Hp} {ce0 ce : Cells} {d : D} {v : V}
/-- the callee's cells are dropped -/
theorem cut_ok (w0 : WFh c τ0 O0 ce0 H0) (e : Ext τ0 O0 H0 τ O H) (w : WFh c τ O ce H) : ∃ O', Ext τ0 O0 H0 (τ.take ce0.length) O' H ∧ WFh c (τ.take ce0.length) O' (ce.take ce0.length) H ∧ (∀ a ∈ O', a ∈ O) := by
  obtain ⟨O', wc, sub, _, _⟩ := w.cut ce0.length
  refine ⟨O', ⟨e.heap, fun k a h => ?_, fun a h => e.avoid a (sub a h)⟩, wc, sub⟩
  have hk : k < ce0.length := by rw [← w0.len]; exact (List.getElem?_eq_some_iff.mp h).1
  rw [List.getElem?_take_of_lt hk]
  exact e.pre k a h
theorem keep_ok (w0 : WFh c τ0 O0 ce0 H0) (e : Ext τ0 O0 H0 τ O H) (w : WFh c τ O ce H) {k : Nat} {a : Addr} {m : MO} (hk : ce0.length ≤ k) (ha : τ[k]? = some a) (hm : ce[k]? = some m) :
    ∃ O', Ext τ0 O0 H0 (τ.take ce0.length ++ [a]) O' H ∧ WFh c (τ.take ce0.length ++ [a]) O' (ce.take ce0.length ++ [m]) H := by
  obtain ⟨O', wc, sub, keepO, out⟩ := w.cut ce0.length
  have z := w.cell k a m ha hm
  have nin : ∀ j b, τ[j]? = some b → b = a → j = k := fun j b h1 e => by
    subst e
    obtain ⟨h3, h4⟩ := List.getElem?_eq_some_iff.mp h1
    obtain ⟨h5, h6⟩ := List.getElem?_eq_some_iff.mp ha
    exact (List.getElem_inj w.nd).mp (h4.trans h6.symm)
  have pre : ∀ (j : Nat) b, τ0[j]? = some b → (τ.take ce0.length)[j]? = some b := fun j b h => by
    have hj : j < ce0.length := by rw [← w0.len]; exact (List.getElem?_eq_some_iff.mp h).1
    rw [List.getElem?_take_of_lt hj]
    exact e.pre j b h
  have inO : ∀ j b, j < ce0.length → τ[j]? = some b → b ∈ O → b ∈ O' := fun j b hj h hb => keepO b hb fun hm => by
    obtain ⟨i, hi⟩ := List.getElem?_of_mem hm
    rw [List.getElem?_drop] at hi
    obtain ⟨h3, h4⟩ := List.getElem?_eq_some_iff.mp h
    obtain ⟨h5, h6⟩ := List.getElem?_eq_some_iff.mp hi
    have := (List.getElem_inj w.nd).mp (h4.trans h6.symm)
    omega
  -- the new avoid list: a only if it is live
  refine ⟨O'.filter (fun b => true) ++ O.filter (fun b => decide (b = a)), ?_, ?_⟩
  · refine ⟨e.heap, fun j b h => ?_, fun b h => ?_⟩
    · have q := pre j b h
      rw [List.getElem?_append_left (List.getElem?_eq_some_iff.mp q).1]
      exact q
    · rcases List.mem_append.mp h with h | h
      · exact e.avoid b (sub b (List.mem_filter.mp h).1)
      · exact e.avoid b (List.mem_filter.mp h).1
  · have sub' : ∀ b ∈ O'.filter (fun b => true) ++ O.filter (fun b => decide (b = a)), b ∈ O := fun b h => (List.mem_append.mp h).elim (fun h => sub b (List.mem_filter.mp h).1) fun h => (List.mem_filter.mp h).1
    refine ⟨by simp [wc.len], fun b h => w.trk b (sub' b h), ?_, fun j b m' h1 h2 => ?_, fun b h => w.nx b (sub' b h), fun p hp => ?_, fun b h => w.nt b (sub' b h)⟩
    rotate_left 2
    · obtain ⟨h1, h2, h3⟩ := wc.tab p hp
      refine ⟨List.mem_append_left _ (List.mem_filter.mpr ⟨h1, rfl⟩), fun z => ?_, h3⟩
      rcases List.mem_append.mp z with z | z
      · exact h2 z
      · have e : p.1 = a := by simpa using z
        exact (w.tab p hp).2.1 (by rw [e]; exact List.mem_of_getElem? ha)
    · rw [List.nodup_append]
      refine ⟨wc.nd, by simp, fun x hx y hy => ?_⟩
      have : y = a := by simpa using hy
      subst this
      intro exy
      obtain ⟨j, hj⟩ := List.getElem?_of_mem hx
      have hj' : j < ce0.length := by
        have := (List.getElem?_eq_some_iff.mp hj).1
        simp at this; omega
      rw [List.getElem?_take_of_lt hj'] at hj
      have := nin j x hj exy
      omega
    · by_cases hj : j < (τ.take ce0.length).length
      · rw [List.getElem?_append_left hj] at h1
        rw [List.getElem?_append_left (by rw [← wc.len]; exact hj)] at h2
        have hj' : j < ce0.length := by simp at hj; omega
        rw [List.getElem?_take_of_lt hj'] at h1 h2
        refine (w.cell j b m' h1 h2).extL (Ext.fewer (τ := τ) sub') (fun z => ?_) fun _ q => q
        exact List.mem_append_left _ (List.mem_filter.mpr ⟨inO j b hj' h1 z, rfl⟩)
      · have hj' : j = (τ.take ce0.length).length := by
          have := (List.getElem?_eq_some_iff.mp h1).1
          simp at this hj
          simp; omega
        subst hj'
        rw [List.getElem?_append_right (Nat.le_refl _)] at h1
        rw [wc.len, List.getElem?_append_right (Nat.le_refl _)] at h2
        simp at h1 h2
        subst h1 h2
        exact z.extL (Ext.fewer (τ := τ) sub') (fun z => List.mem_append_right _ (List.mem_filter.mpr ⟨z, by simp⟩)) fun _ q => q
theorem fin_ok {Q : VK} {W : WX} {σ : L2.St} (w0 : WFh c τ0 O0 ce0 H0) (h : PostG c W τ0 O0 H0 σ (fin ce0.length d ce) fun τ' O' ce' H' d => ∀ v, Rep c τ' O' H' d v → Q v H') (e : Ext τ0 O0 H0 τ O H) (w : WFh c τ O ce H) (r : Rep c τ O H d v) : Q v H := by
  obtain ⟨O', e', w', sub⟩ := cut_ok w0 e w
  have tree : ∀ d, RepT c O H d v → PostG c W τ0 O0 H0 σ (.ok d (ce.take ce0.length)) (fun τ' O' ce' H' d => ∀ v, Rep c τ' O' H' d v → Q v H') → Q v H := fun d r h => h _ _ _ e' w' v (RepT.rep (r.ext (Ext.fewer (τ := τ) sub)))
  cases d with
  | cel k =>
    obtain ⟨a, ha, rfl⟩ := r
    unfold fin at h
    simp only at h
    split at h
    · rename_i hk
      exact h _ _ _ e' w' _ ⟨a, by rw [List.getElem?_take_of_lt hk]; exact ha, rfl⟩
    · rename_i hk
      have hl : k < ce.length := by rw [← w.len]; exact (List.getElem?_eq_some_iff.mp ha).1
      have hm := List.getElem?_eq_getElem hl
      have z := w.cell k a _ ha hm
      obtain ⟨O2, e2, w2⟩ := keep_ok w0 e w (Nat.le_of_not_lt hk) ha hm
      have hin : (τ.take ce0.length ++ [a])[ce0.length]? = some a := by
        have : ce0.length ≤ τ.length := by have := (List.getElem?_eq_some_iff.mp ha).1; omega
        rw [List.getElem?_append_right (by simp; omega), show (τ.take ce0.length).length = ce0.length by simp; omega, Nat.sub_self]
        rfl
      rw [hm] at h
      revert h z w2
      cases ce[k] with
      | frz d => exact fun h z w2 => tree d z.1 h
      | lst xs => exact fun h z w2 => h _ _ _ e2 w2 _ ⟨a, hin, rfl⟩
      | dk ks xs => exact fun h z w2 => h _ _ _ e2 w2 _ ⟨a, hin, rfl⟩
      | dt ks xs => exact fun h z w2 => h _ _ _ e2 w2 _ ⟨a, hin, rfl⟩
      | st ks => exact fun h z w2 => h _ _ _ e2 w2 _ ⟨a, hin, rfl⟩
  | _ => exact tree _ r h
end
/-- THE RULE for a def: from its body's denotation to its promise -/
theorem fn_ok {P : Program} {w : World} {K : PySem.W.Frag} {mg : Str → Option Value} {base : Heap} {x qual : Str} {st : Stmt} {f : Addr} {fd : FuncData} {N ps : List Str} {k : Nat} {g : SDen} (F : Fun K x qual st f fd) (S : FnScope N ps (defScope st))
    (hbody : ∀ (cdv : Value) (A : Around) (outer : List Env) (s : Shared) (H : Hp) (E : XK), Room k (A.deeper (envOfC qual (defScope st) s.heap.objs.size f cdv)) →
      JSs (cxOf (L2N.CX P w) P w K mg base N qual (defScope st) f cdv A outer s H E) (fun cls d _ H => E cls d H) (defBody st) g) :
    FnOk P w K mg base (L2N.CX P w) (k + 1) f fd ps (spG ⟨P, w, K, mg⟩ ps.length (runF ps.length N.length g)) := by
  obtain ⟨oc, od, kV, doc, pm, an, cdv, ct, osl, rfl, lk, hcd⟩ := F.ex
  refine fn_of lk hcd S (fun vs H Q E h => ?_) fun A outer s H vs Q E hr h => ?_
  · obtain ⟨τ, O, ce, ds, hl, _⟩ := h
    exact hl
  · obtain ⟨τ, O, ce, ds, hl, w0, r, h⟩ := h
    have hds : ds.length = ps.length := by rw [r.length]; exact hl
    refine ⟨_, hbody cdv A outer s H E hr, τ, O, _, ce, w0, SRep.start N r, ?_⟩
    unfold runF at h
    rw [if_pos hds] at h
    cases q : g (ds.map some ++ List.replicate (N.length - ds.length) none) ce with
    | rt d ce' => rw [q] at h; exact fun τ' O' v H' e w r => fin_ok w0 h e w r
    | nx sl' ce' => rw [q] at h; exact fun τ' O' σ' H' e w _ => fin_ok (v := .non) w0 h e w (RepT.rep (repT_non.mpr rfl))
    | ex y sl' ce' =>
      rw [q] at h
      intro τ' O' σ' H' e w _ cls hc
      obtain ⟨O2, e2, w2, _⟩ := cut_ok w0 e w
      exact h _ _ _ e2 w2 cls hc
    | bk _ _ => rw [q] at h; exact h.elim
    | ct _ _ => rw [q] at h; exact h.elim
    | bad => rw [q] at h; exact h.elim
/-- a call of a def of the text -/
def eFn (F : FDen) (ga : SEnv → Cells → Out (List D)) : EDen := fun sl ce => (ga sl ce).bind F
section
variable {X : Cx} {W : WX} {k : Nat} {f : Addr} {fd : FuncData} {ps : List Str} {F : FDen} {x : Str} {p pos : Pos} {e : Expr} {es : List Expr} {ga : SEnv → Cells → Out (List D)}
theorem je_fn (tk : L2N.Takes X W) (G : FnOk X.prog X.w X.K X.mg X.base (L2N.CX X.prog X.w) k f fd ps (spG (cfg X) ps.length F)) (hlen : (e :: es).length = ps.length) (hr : Room k X.A) (hg : Gl X x) (hm : X.mg x = some (.ref f)) (hk : PySem.W.keepIn X.K (.ref f) = true) (hb : Binds X.K fd ps [])
    (ha : JA X W (e :: es) ga) (hga : ∀ sl ce ds ce', ga sl ce = .ok ds ce' → ds.length = (e :: es).length) (hdb : (x == ("__debug__" : Str)) = false) (he : starEach (e :: es) X.env = (false, eval e X.env) :: starEach es X.env) (hpl : (backTo pos (starEach es X.env)).any (·.1) = false) :
    JE X W (.Call (.Name x p) (e :: es) [] pos) (eFn F ga) := by
  refine PE.weak (pe_callS (E := WE W) G hr hg hm hk hb (fun σ => L2N.passAt tk σ) ha hdb he hpl) fun σ H Q h => ?_
  obtain ⟨τ, O, sl, ce, w, s, h⟩ := h
  refine ⟨τ, O, sl, ce, w, s, ?_⟩
  cases q : ga sl ce with
  | bad =>
    have h := PostG.bind h
    rw [q] at h
    exact h
  | ex y ce1 =>
    have h := PostG.bind h
    rw [q] at h
    exact h
  | ok ds ce1 =>
    have h := PostG.bind h
    rw [q] at h
    intro τ1 O1 H1 e1 w1 vs r
    refine ⟨τ1, O1, ce1, ds, ?_, w1, r, ?_⟩
    · rw [← r.length, hga sl ce ds ce1 q]
      exact hlen
    · have h1 : PostG (cfg X) W τ1 O1 H1 σ (F ds ce1) fun τ' O' ce' H' d => ∀ v, Rep (cfg X) τ' O' H' d v → Q v H' := h τ1 O1 H1 e1 w1
      revert h1
      cases F ds ce1 with
      | ok d ce2 => exact fun h1 => h1
      | ex y ce2 => exact fun h1 => h1
      | bad => exact fun h1 => h1
theorem ga_nil : ∀ sl ce ds ce', aNil sl ce = .ok ds ce' → ds.length = ([] : List Expr).length := fun sl ce ds ce' h => by
  cases h; rfl
theorem ga_cons {g : EDen} {gr : SEnv → Cells → Out (List D)} {e : Expr} {es : List Expr} (h : ∀ sl ce ds ce', gr sl ce = .ok ds ce' → ds.length = es.length) : ∀ sl ce ds ce', aCons g gr sl ce = .ok ds ce' → ds.length = (e :: es).length := fun sl ce ds ce' q => by
  unfold aCons at q
  cases q1 : g sl ce with
  | ok d ce1 =>
    rw [q1] at q
    simp only [Out.bind] at q
    cases q2 : gr sl ce1 with
    | ok xs ce2 =>
      rw [q2] at q
      simp only [Out.ok.injEq] at q
      rw [← q.1, List.length_cons, List.length_cons, h _ _ _ _ q2]
    | ex _ _ => rw [q2] at q; cases q
    | bad => rw [q2] at q; cases q
  | ex _ _ => rw [q1] at q; cases q
  | bad => rw [q1] at q; cases q
end
end Ib

set_option Elab.async false
set_option linter.all false
set_option maxRecDepth 100000
set_option maxHeartbeats 2000000
/-! The J layer, part D: operators, subscripts, slices, built-in calls and methods by data. -/
namespace Ib
open PySem PySem.Spec PyProof.Rows L2

theorem okS_app {x y : List Nat} (hx : okS x) (hy : okS y) (h : x.length + y.length ≤ 1000000) : okS (x ++ y) := ⟨by simpa using h, fun c hc => (List.mem_append.mp hc).elim (hx.2 c) (hy.2 c)⟩
theorem okS_sub {x y : List Nat} (hx : okS x) (hl : y.length ≤ x.length) (h : ∀ c ∈ y, c ∈ x) : okS y := ⟨Nat.le_trans hl hx.1, fun c hc => hx.2 c (h c hc)⟩
theorem sq_le {X : Cx} {pins : List (Addr × Obj)} {σ : L2.St} {H : Hp} {s : Shared} (I : Inv X pins σ H s) {a : Addr} {xs : List V} (h : SqL X.K H a xs) : xs.length ≤ sizeLine := let ⟨_, _, _, z⟩ := I.list h; z
theorem st_le {X : Cx} {pins : List (Addr × Obj)} {σ : L2.St} {H : Hp} {s : Shared} (I : Inv X pins σ H s) {a : Addr} {xs : List V} (h : SqT X.K H a xs) : xs.length ≤ sizeLine := let ⟨_, _, _, z⟩ := I.tuple h; z
theorem sz1 : (1000000 : Nat) ≤ sizeLine := by rw [sizeLine_eq]; decide
/-- a new tree at a new address -/
theorem new_lst {c : Cfg} {O : List Addr} {H : Hp} {p : Addr} {xs : List D} {vs : List V} (trk : ∀ a ∈ O, H a ≠ none) (hp : H p = none) (r : RepTs c O H xs vs) : RepT c O (upd H p (.lst vs)) (.lst xs) (.ref p) :=
  repT_lst.mpr ⟨p, vs, rfl, .inl ⟨fun z => trk p z hp, .inl upd_same⟩, r.ext (.same (τ := []) (same_upd hp))⟩
theorem new_tup {c : Cfg} {O : List Addr} {H : Hp} {p : Addr} {xs : List D} {vs : List V} (trk : ∀ a ∈ O, H a ≠ none) (hp : H p = none) (r : RepTs c O H xs vs) : RepT c O (upd H p (.tup vs)) (.tup xs) (.ref p) :=
  repT_tup.mpr ⟨p, vs, rfl, ⟨fun z => trk p z hp, upd_same⟩, r.ext (.same (τ := []) (same_upd hp))⟩

/-! ### numbers, texts, lists: + - * // % ** -/
def dAdd : D → D → Option D
  | .int i, .int j => some (.int (i + j))
  | .str x, .str y => if x.length + y.length ≤ 1000000 then some (.str (x ++ y)) else none
  | .lst x, .lst y => if x.length + y.length ≤ 1000000 then some (.lst (x ++ y)) else none
  | .tup x, .tup y => if x.length + y.length ≤ 1000000 then some (.tup (x ++ y)) else none
  | _, _ => none
def dSub : D → D → Option D
  | .int i, .int j => some (.int (i - j))
  | _, _ => none
def mulOk (i : Int) : Bool := decide (-(2 ^ 64) < i) && decide (i < 2 ^ 64)
def dMul : D → D → Option D
  | .int i, .int j => if mulOk i || mulOk j then some (.int (i * j)) else none
  | _, _ => none
def dMod : D → D → Option D
  | .int i, .int j => if 0 < j then some (.int (i % j)) else none
  | _, _ => none
def dDiv : D → D → Option D
  | .int i, .int j => if 0 < j ∧ j < 2 ^ 200 then some (.int (i / j)) else none
  | _, _ => none
def dPow : D → D → Option D
  | .int i, .int j => if 0 ≤ j ∧ j ≤ 1000000 ∧ i.natAbs < 2 ^ 64 then some (.int (i ^ j.toNat)) else none
  | _, _ => none
def dLt : D → D → Option D
  | .int i, .int j => some (.bl (decide (i < j)))
  | .str x, .str y => some (.bl (decide (x < y)))
  | _, _ => none
def dLe : D → D → Option D
  | .int i, .int j => some (.bl (decide (i ≤ j)))
  | _, _ => none
def dGt : D → D → Option D
  | .int i, .int j => some (.bl (decide (j < i)))
  | _, _ => none
def dGe : D → D → Option D
  | .int i, .int j => some (.bl (decide (j ≤ i)))
  | _, _ => none
def dNeg : D → Option D
  | .int i => some (.int (-i))
  | _ => none
section
variable {X : Cx}
theorem oj_intr {f : Value → Value → Sem Value} {r : R2} {g : D → D → Option D} (h : OpR X f r) (hg : ∀ (H : Hp) (Q : VK) (O : List Addr) dx dy d x y, (∀ a ∈ O, H a ≠ none) → RepV (cfg X) O H dx x → RepV (cfg X) O H dy y → g dx dy = some d → (∀ v H', Same H H' → RepT (cfg X) O H' d v → Q v H') → r x y H Q) : OpJ X f g := by
  intro pins s σ H x y v u Q I rx ry hh
  obtain ⟨O, dx, dy, d, trk, r1, r2, e, q⟩ := hh
  exact h pins s σ H x y v u Q I rx ry (hg H Q O dx dy d x y trk r1 r2 e q)
theorem int_end {O : List Addr} {H : Hp} {Q : VK} {i : Int} (q : ∀ v H', Same H H' → RepT (cfg X) O H' (.int i) v → Q v H') : Q (.int i) H := q _ H (.refl _) (repT_int.mpr rfl)
theorem bl_end {O : List Addr} {H : Hp} {Q : VK} {i : Bool} (q : ∀ v H', Same H H' → RepT (cfg X) O H' (.bl i) v → Q v H') : Q (.bl i) H := q _ H (.refl _) (repT_bl.mpr rfl)
theorem oj_ints {f : Value → Value → Sem Value} {C : Int → Int → Prop} {k : Int → Int → V} {g : D → D → Option D} (h : OpR X f (rI C k))
    (hg : ∀ dx dy d, g dx dy = some d → ∃ i j, dx = .int i ∧ dy = .int j ∧ C i j ∧ ((∃ z, d = .int z ∧ k i j = .int z) ∨ ∃ z, d = .bl z ∧ k i j = .bl z)) : OpJ X f g :=
  oj_intr h fun H Q O dx dy d x y trk r1 r2 e q => by
    obtain ⟨i, j, rfl, rfl, c, hd⟩ := hg dx dy d e
    refine ⟨i, j, r1.int, r2.int, c, ?_⟩
    rcases hd with ⟨z, rfl, ez⟩ | ⟨z, rfl, ez⟩
    · rw [ez]; exact int_end q
    · rw [ez]; exact bl_end q
theorem oj_ints0 {f : Value → Value → Sem Value} {k : Int → Int → V} {g : D → D → Option D} (h : OpR X f (rI0 k))
    (hg : ∀ dx dy d, g dx dy = some d → ∃ i j, dx = .int i ∧ dy = .int j ∧ ((∃ z, d = .int z ∧ k i j = .int z) ∨ ∃ z, d = .bl z ∧ k i j = .bl z)) : OpJ X f g :=
  oj_intr h fun H Q O dx dy d x y trk r1 r2 e q => by
    obtain ⟨i, j, rfl, rfl, hd⟩ := hg dx dy d e
    refine ⟨i, j, r1.int, r2.int, ?_⟩
    rcases hd with ⟨z, rfl, ez⟩ | ⟨z, rfl, ez⟩
    · rw [ez]; exact int_end q
    · rw [ez]; exact bl_end q
theorem oj_sub : OpJ X (binaryOp .Sub) dSub := oj_ints0 op_sub fun dx dy d e => by
  unfold dSub at e
  split at e
  · cases e; exact ⟨_, _, rfl, rfl, .inl ⟨_, rfl, rfl⟩⟩
  · cases e
theorem mulOk_iff {i : Int} : mulOk i = true ↔ -(2 ^ 64) < i ∧ i < 2 ^ 64 := by simp [mulOk]
theorem oj_mul : OpJ X (binaryOp .Mult) dMul := oj_ints op_mul fun dx dy d e => by
  unfold dMul at e
  split at e
  · split at e
    · rename_i h
      cases e
      refine ⟨_, _, rfl, rfl, ?_, .inl ⟨_, rfl, rfl⟩⟩
      rcases Bool.or_eq_true_iff.mp h with h | h
      · exact .inl (mulOk_iff.mp h)
      · exact .inr (mulOk_iff.mp h)
    · cases e
  · cases e
theorem oj_imul : OpJ X (inplaceOp .Mult) dMul := oj_ints iop_mul fun dx dy d e => by
  unfold dMul at e
  split at e
  · split at e
    · rename_i h
      cases e
      refine ⟨_, _, rfl, rfl, ?_, .inl ⟨_, rfl, rfl⟩⟩
      rcases Bool.or_eq_true_iff.mp h with h | h
      · exact .inl (mulOk_iff.mp h)
      · exact .inr (mulOk_iff.mp h)
    · cases e
  · cases e
theorem oj_isub : OpJ X (inplaceOp .Sub) dSub := oj_ints0 iop_sub fun dx dy d e => by
  unfold dSub at e
  split at e
  · cases e; exact ⟨_, _, rfl, rfl, .inl ⟨_, rfl, rfl⟩⟩
  · cases e
def dIadd : D → D → Option D
  | .int i, .int j => some (.int (i + j))
  | _, _ => none
theorem oj_iadd : OpJ X (inplaceOp .Add) dIadd := oj_ints0 iop_add fun dx dy d e => by
  unfold dIadd at e
  split at e
  · cases e; exact ⟨_, _, rfl, rfl, .inl ⟨_, rfl, rfl⟩⟩
  · cases e
theorem oj_mod : OpJ X (binaryOp .Mod) dMod := oj_ints op_mod fun dx dy d e => by
  unfold dMod at e
  split at e
  · split at e
    · rename_i h
      cases e; exact ⟨_, _, rfl, rfl, h, .inl ⟨_, rfl, rfl⟩⟩
    · cases e
  · cases e
theorem oj_div : OpJ X (binaryOp .FloorDiv) dDiv := oj_ints op_fdivW fun dx dy d e => by
  unfold dDiv at e
  split at e
  · split at e
    · rename_i h
      cases e; exact ⟨_, _, rfl, rfl, wide_div h.1 (b := 200) (by have := h.1; have := h.2; omega) (by decide) (by decide), .inl ⟨_, rfl, rfl⟩⟩
    · cases e
  · cases e
theorem oj_pow : OpJ X (binaryOp .Pow) dPow := oj_ints op_pow fun dx dy d e => by
  unfold dPow at e
  split at e
  · split at e
    · rename_i h
      cases e; exact ⟨_, _, rfl, rfl, h, .inl ⟨_, rfl, rfl⟩⟩
    · cases e
  · cases e
theorem oj_le : OpJ X (compareOp .LtE) dLe := oj_ints0 op_le fun dx dy d e => by
  unfold dLe at e
  split at e
  · cases e; exact ⟨_, _, rfl, rfl, .inr ⟨_, rfl, rfl⟩⟩
  · cases e
theorem oj_gt : OpJ X (compareOp .Gt) dGt := oj_ints0 op_gt fun dx dy d e => by
  unfold dGt at e
  split at e
  · cases e; exact ⟨_, _, rfl, rfl, .inr ⟨_, rfl, rfl⟩⟩
  · cases e
theorem oj_ge : OpJ X (compareOp .GtE) dGe := oj_ints0 op_ge fun dx dy d e => by
  unfold dGe at e
  split at e
  · cases e; exact ⟨_, _, rfl, rfl, .inr ⟨_, rfl, rfl⟩⟩
  · cases e
theorem oj_lt : OpJ X (compareOp .Lt) dLt := by
  refine oj_intr (op_lt.or op_lt_str) fun H Q O dx dy d x y trk r1 r2 e q => ?_
  unfold dLt at e
  split at e
  · cases e; exact .inl ⟨_, _, r1.int, r2.int, bl_end q⟩
  · cases e; exact .inr ⟨_, _, r1.str.1, r2.str.1, bl_end q⟩
  · cases e
theorem uj_neg : UnJ X (unaryOp .USub) dNeg := by
  intro pins s σ H x v Q I rx hh
  obtain ⟨O, dx, d, trk, r1, e, q⟩ := hh
  cases dx with
  | int i =>
    cases e
    exact un_neg pins s σ H x v Q I rx ⟨i, r1.int, int_end q⟩
  | _ => cases e

/-- list + list; either may be frozen or an object of the module -/
def rCatF (K : PySem.W.Frag) : R2 := fun x y H Q => ∃ l b xs zs, x = .ref l ∧ y = .ref b ∧ SqL K H l xs ∧ SqL K H b zs ∧ xs.length + zs.length ≤ sizeLine ∧ ∀ p, H p = none → Q (.ref p) (upd H p (.lst (xs ++ zs)))
theorem op_catF : OpR X (binaryOp .Add) (rCatF X.K) := by
  intro pins s σ H x y v u Q I rx ry h
  obtain ⟨l, b, xs, zs, rfl, rfl, hH, hB, hz, q⟩ := h
  cases rx
  cases ry
  obtain ⟨its, r, ⟨⟨cls, dd, data, sl⟩, n, ho, hc, hd', hd⟩, z⟩ := I.list hH
  obtain ⟨its2, r2, ⟨⟨cls2, dd2, data2, sl2⟩, n2, ho2, hc2, hd2', hd2⟩, z2⟩ := I.list hB
  simp only at hc hd hc2 hd2
  subst hc hd hc2 hd2
  have l1 := r.length
  have l2 := r2.length
  have ea : its.toArray ++ its2.toArray = (its ++ its2).toArray := by simp
  refine concat_meets ⟨_, ho, rfl⟩ ⟨_, ho2, rfl⟩ noFill_list_add seq_list_add PySem.F.slot_list_add PySem.F.entry_list_add (PySem.F.args_list_add_2 _ _) (PyProof.Rows.list_addW l b its.toArray its2.toArray n n2 dd dd2 sl sl2 (by simp; omega)) ⟨ho, ho2, ?_⟩
  rw [ea]
  exact ⟨.ref _, _, I.lnew (t' := s.toks) (r.append r2) (by rw [List.length_append]; omega), rfl, q _ I.fresh⟩
theorem oj_add : OpJ X (binaryOp .Add) dAdd := by
  refine oj_intr (op_add.or (op_add_str.or (op_catF.or op_catA))) fun H Q O dx dy d x y trk r1 r2 e q => ?_
  unfold dAdd at e
  split at e
  · cases e; exact .inl ⟨_, _, r1.int, r2.int, int_end q⟩
  · split at e
    · rename_i a b hl
      cases e
      refine .inr (.inl ⟨_, _, r1.str.1, r2.str.1, ?_, ?_⟩)
      · show a.toArray.size + b.toArray.size ≤ sizeLine
        have := sz1
        simp; omega
      · refine q _ H (.refl _) (repT_str.mpr ⟨?_, okS_app r1.str.2 r2.str.2 hl⟩)
        show V.str ⟨a.toArray ++ b.toArray⟩ = _
        simp
    · cases e
  · split at e
    · rename_i a b hl
      cases e
      obtain ⟨p1, vs1, rfl, h1, k1⟩ := r1.lst
      obtain ⟨p2, vs2, rfl, h2, k2⟩ := r2.lst
      refine .inr (.inr (.inl ⟨_, _, _, _, rfl, rfl, h1, h2, ?_, fun p hp => q _ _ (same_upd hp) (new_lst trk hp (k1.append k2))⟩))
      rw [← k1.length, ← k2.length]
      exact Nat.le_trans hl sz1
    · cases e
  · split at e
    · rename_i a b hl
      cases e
      obtain ⟨p1, vs1, rfl, h1, k1⟩ := r1.tup
      obtain ⟨p2, vs2, rfl, h2, k2⟩ := r2.tup
      refine .inr (.inr (.inr ⟨_, _, _, _, rfl, rfl, h1.sq, h2.sq, ?_, fun e => ?_, fun _ e => ?_, fun _ _ p hp => q _ _ (same_upd hp) (new_tup trk hp (k1.append k2))⟩))
      · rw [← k1.length, ← k2.length]
        exact Nat.le_trans hl sz1
      · subst e
        have : a = [] := by have := k1.length; simpa using this
        subst this
        exact q _ H (.refl _) (repT_tup.mpr ⟨p2, vs2, rfl, h2, k2⟩)
      · subst e
        have : b = [] := by have := k2.length; simpa using this
        subst this
        refine q _ H (.refl _) (repT_tup.mpr ⟨p1, vs1, rfl, h1, ?_⟩)
        simpa using k1
    · cases e
  · cases e

/-! ### == and != -/
mutual
def pyD : D → PyData
  | .non => .none
  | .bl b => .bool b
  | .int i => .int i
  | .str x => .str ⟨x.toArray⟩
  | .lst xs => .list (pyDs xs)
  | .tup xs => .tuple (pyDs xs)
  | _ => .none
def pyDs : List D → List PyData
  | [] => []
  | d :: ds => pyD d :: pyDs ds
end
/-- data that == knows, n deep -/
def okE : Nat → D → Bool
  | _, .non => true
  | _, .bl _ => true
  | _, .int _ => true
  | _, .str _ => true
  | n + 1, .lst xs => xs.all (okE n)
  | n + 1, .tup xs => xs.all (okE n)
  | _, _ => false
theorem okE_all {c : Cfg} {O : List Addr} {H : Hp} {n : Nat} (ih : ∀ d v, okE n d = true → RepV c O H d v → Dp c.K H v (pyD d) ∧ (pyD d).canLay0 = true ∧ (pyD d).depth ≤ n) :
    ∀ (ds : List D) (vs : List V), ds.all (okE n) = true → RepTs c O H ds vs → DpAll c.K H vs (pyDs ds) ∧ PyData.canLayAll0 (pyDs ds) = true ∧ PyData.depthAll (pyDs ds) ≤ n
  | [], vs, _, r => by
    rw [repTs_nil.mp r, pyDs]
    exact ⟨.nil, by rw [PyData.canLayAll0], by rw [PyData.depthAll]; omega⟩
  | d :: ds, vs, h, r => by
    obtain ⟨v, r', rfl, r1, r2⟩ := repTs_cons.mp r
    simp only [List.all_cons, Bool.and_eq_true] at h
    obtain ⟨a1, a2, a3⟩ := ih d v h.1 r1.view
    obtain ⟨b1, b2, b3⟩ := okE_all ih ds r' h.2 r2
    rw [pyDs]
    exact ⟨.cons a1 b1, by rw [PyData.canLayAll0, a2, b2]; rfl, by rw [PyData.depthAll]; omega⟩
theorem okE_dp {c : Cfg} {O : List Addr} {H : Hp} : ∀ (n : Nat) (d : D) (v : V), okE n d = true → RepV c O H d v → Dp c.K H v (pyD d) ∧ (pyD d).canLay0 = true ∧ (pyD d).depth ≤ n := by
  intro n
  induction n with
  | zero =>
    intro d v h r
    cases d with
    | non => rw [r.non, pyD]; exact ⟨.non, by rw [PyData.canLay0], by rw [PyData.depth]; omega⟩
    | bl b => rw [r.bl, pyD]; exact ⟨.bl _, by rw [PyData.canLay0], by rw [PyData.depth]; omega⟩
    | int i => rw [r.int, pyD]; exact ⟨.int _, by rw [PyData.canLay0], by rw [PyData.depth]; omega⟩
    | str x =>
      rw [r.str.1, pyD]
      refine ⟨.str _, ?_, by rw [PyData.depth]; omega⟩
      rw [PyData.canLay0]
      have h2 := r.str.2.2
      simp only [PyData.strOk, Array.all_eq_true', List.mem_toArray, decide_eq_true_eq]
      exact fun c hc => Nat.lt_trans (h2 c hc) (by decide)
    | _ => cases h
  | succ n ih =>
    intro d v h r
    cases d with
    | non => rw [r.non, pyD]; exact ⟨.non, by rw [PyData.canLay0], by rw [PyData.depth]; omega⟩
    | bl b => rw [r.bl, pyD]; exact ⟨.bl _, by rw [PyData.canLay0], by rw [PyData.depth]; omega⟩
    | int i => rw [r.int, pyD]; exact ⟨.int _, by rw [PyData.canLay0], by rw [PyData.depth]; omega⟩
    | str x =>
      rw [r.str.1, pyD]
      refine ⟨.str _, ?_, by rw [PyData.depth]; omega⟩
      rw [PyData.canLay0]
      have h2 := r.str.2.2
      simp only [PyData.strOk, Array.all_eq_true', List.mem_toArray, decide_eq_true_eq]
      exact fun c hc => Nat.lt_trans (h2 c hc) (by decide)
    | lst xs =>
      obtain ⟨p, vs, rfl, h1, k⟩ := r.lst
      obtain ⟨a1, a2, a3⟩ := okE_all ih xs vs h k
      rw [pyD]
      exact ⟨.lst h1 a1, by rw [PyData.canLay0, a2], by rw [PyData.depth]; omega⟩
    | tup xs =>
      obtain ⟨p, vs, rfl, h1, k⟩ := r.tup
      obtain ⟨a1, a2, a3⟩ := okE_all ih xs vs h k
      rw [pyD]
      exact ⟨.tup h1.sq a1, by rw [PyData.canLay0, a2], by rw [PyData.depth]; omega⟩
    | _ => cases h
def dEq (x y : D) : Option D := if okE 8 x && okE 8 y then some (.bl (PyData.eqv (pyD x) (pyD y))) else none
def dNe (x y : D) : Option D := if okE 8 x && okE 8 y then some (.bl (!PyData.eqv (pyD x) (pyD y))) else none
theorem shaped_of {d : PyData} {n : Nat} (h1 : d.canLay0 = true) (h2 : d.depth ≤ n) (hn : n ≤ 64) : SeqAt.shaped d = true := by
  unfold SeqAt.shaped
  rw [h1, Bool.true_and]
  exact decide_eq_true (Nat.le_trans h2 hn)
theorem oj_eq (hu : X.A.units + 64 < cLine) : OpJ X (compareOp .Eq) dEq := by
  refine oj_intr (op_eqD hu) fun H Q O dx dy d x y trk r1 r2 e q => ?_
  unfold dEq at e
  split at e
  · rename_i h
    cases e
    obtain ⟨h1, h2⟩ := Bool.and_eq_true_iff.mp h
    obtain ⟨a1, a2, a3⟩ := okE_dp 8 dx x h1 r1
    obtain ⟨b1, b2, b3⟩ := okE_dp 8 dy y h2 r2
    exact ⟨_, _, a1, b1, shaped_of a2 a3 (by decide), shaped_of b2 b3 (by decide), bl_end q⟩
  · cases e
theorem oj_ne (hu : X.A.units + 64 < cLine) : OpJ X (compareOp .NotEq) dNe := by
  refine oj_intr (op_neD hu) fun H Q O dx dy d x y trk r1 r2 e q => ?_
  unfold dNe at e
  split at e
  · rename_i h
    cases e
    obtain ⟨h1, h2⟩ := Bool.and_eq_true_iff.mp h
    obtain ⟨a1, a2, a3⟩ := okE_dp 8 dx x h1 r1
    obtain ⟨b1, b2, b3⟩ := okE_dp 8 dy y h2 r2
    exact ⟨_, _, a1, b1, shaped_of a2 a3 (by decide), shaped_of b2 b3 (by decide), bl_end q⟩
  · cases e

/-! ### in, not in, is -/
def flatD : D → Bool
  | .non => true
  | .bl _ => true
  | .int _ => true
  | .str _ => true
  | _ => false
def toV : D → V
  | .bl b => .bl b
  | .int i => .int i
  | .str x => .str ⟨x.toArray⟩
  | _ => .non
def eqF (x y : D) : Bool := eqV (toV x) (toV y)
theorem flat_toV {c : Cfg} {O : List Addr} {H : Hp} {d : D} {v : V} (h : flatD d = true) (r : RepV c O H d v) : v = toV d ∧ flatV v = true := by
  cases d with
  | non => rw [r.non]; exact ⟨rfl, rfl⟩
  | bl b => rw [r.bl]; exact ⟨rfl, rfl⟩
  | int i => rw [r.int]; exact ⟨rfl, rfl⟩
  | str x => rw [r.str.1]; exact ⟨rfl, rfl⟩
  | _ => cases h
theorem flats_toV {c : Cfg} {O : List Addr} {H : Hp} : ∀ {ds : List D} {vs : List V}, ds.all flatD = true → RepTs c O H ds vs → vs = ds.map toV ∧ vs.all flatV = true
  | [], _, _, r => by rw [repTs_nil.mp r]; exact ⟨rfl, rfl⟩
  | d :: ds, _, h, r => by
    obtain ⟨v, r', rfl, r1, r2⟩ := repTs_cons.mp r
    simp only [List.all_cons, Bool.and_eq_true] at h
    obtain ⟨a1, a2⟩ := flat_toV h.1 r1.view
    obtain ⟨b1, b2⟩ := flats_toV h.2 r2
    refine ⟨by rw [a1, b1]; rfl, by rw [List.all_cons, a2, b2]; rfl⟩
def inF (x : D) (ys : List D) : Bool := ys.any fun y => eqF y x
def dIn : D → D → Option D
  | .str [k], .str z => some (.bl (decide (k ∈ z)))
  | x, .lst ys => if flatD x && ys.all flatD then some (.bl (inF x ys)) else none
  | x, .tup ys => if flatD x && ys.all flatD then some (.bl (inF x ys)) else none
  | _, _ => none
def notR (r : Option D) : Option D := match r with
  | some (.bl b) => some (.bl (!b))
  | _ => none
def dNotIn (x y : D) : Option D := notR (dIn x y)
theorem inV_map {x : D} : ∀ (ys : List D), inV (toV x) (ys.map toV) = inF x ys
  | [] => rfl
  | y :: ys => by
    have ih := inV_map (x := x) ys
    unfold inV inF at ih ⊢
    rw [List.map_cons, List.any_cons, List.any_cons, ih]
    rfl
theorem in_cases {c : Cfg} {O : List Addr} {H : Hp} {dx dy d : D} {x y : V} (e : dIn dx dy = some d) (r1 : RepV c O H dx x) (r2 : RepV c O H dy y) :
    (∃ k z, x = .str ⟨#[k]⟩ ∧ y = .str z ∧ d = .bl (decide (k ∈ z.cps.toList))) ∨ ∃ p xs, y = .ref p ∧ (SqL c.K H p xs ∨ SqT c.K H p xs) ∧ flatV x = true ∧ xs.all flatV = true ∧ d = .bl (inV x xs) := by
  unfold dIn at e
  split at e
  · cases e
    exact .inl ⟨_, _, r1.str.1, r2.str.1, by simp⟩
  · split at e
    · rename_i h
      cases e
      obtain ⟨h1, h2⟩ := Bool.and_eq_true_iff.mp h
      obtain ⟨p, vs, rfl, h3, k⟩ := r2.lst
      obtain ⟨a1, a2⟩ := flat_toV h1 r1
      obtain ⟨b1, b2⟩ := flats_toV h2 k
      exact .inr ⟨p, vs, rfl, .inl h3, a2, b2, by rw [a1, b1, inV_map]⟩
    · cases e
  · split at e
    · rename_i h
      cases e
      obtain ⟨h1, h2⟩ := Bool.and_eq_true_iff.mp h
      obtain ⟨p, vs, rfl, h3, k⟩ := r2.tup
      obtain ⟨a1, a2⟩ := flat_toV h1 r1
      obtain ⟨b1, b2⟩ := flats_toV h2 k
      exact .inr ⟨p, vs, rfl, .inr h3.sq, a2, b2, by rw [a1, b1, inV_map]⟩
    · cases e
  · cases e
theorem oj_in : OpJ X (compareOp .In) dIn := by
  refine oj_intr (op_in_sign.or op_in_seq) fun H Q O dx dy d x y trk r1 r2 e q => ?_
  rcases in_cases e r1 r2 with ⟨k, z, rfl, rfl, rfl⟩ | ⟨p, xs, rfl, h1, h2, h3, rfl⟩
  · exact .inl ⟨k, z, rfl, rfl, bl_end q⟩
  · exact .inr ⟨p, xs, rfl, h1, h2, h3, bl_end q⟩
theorem oj_notin : OpJ X (compareOp .NotIn) dNotIn := by
  refine oj_intr (op_notIn_sign.or op_notIn_seq) fun H Q O dx dy d x y trk r1 r2 e q => ?_
  unfold dNotIn at e
  cases ed : dIn dx dy with
  | none => rw [ed] at e; cases e
  | some d' =>
    rw [ed] at e
    rcases in_cases ed r1 r2 with ⟨k, z, rfl, rfl, rfl⟩ | ⟨p, xs, rfl, h1, h2, h3, rfl⟩
    · cases e; exact .inl ⟨k, z, rfl, rfl, bl_end q⟩
    · cases e; exact .inr ⟨p, xs, rfl, h1, h2, h3, bl_end q⟩
def isNon : D → Bool
  | .non => true
  | _ => false
def dIs : D → D → Option D
  | .bl a, .bl b => some (.bl (decide (a = b)))
  | .gl _, .non => none
  | x, .non => some (.bl (isNon x))
  | _, _ => none
def dIsNot (x y : D) : Option D := notR (dIs x y)
theorem is_cases {c : Cfg} {O : List Addr} {H : Hp} {dx dy d : D} {x y : V} (e : dIs dx dy = some d) (r1 : RepV c O H dx x) (r2 : RepV c O H dy y) :
    (∃ a b : Bool, x = .bl a ∧ y = .bl b ∧ d = .bl (decide (a = b))) ∨ (y = .non ∧ d = .bl (decide (x = .non))) := by
  unfold dIs at e
  split at e
  · cases e; exact .inl ⟨_, _, r1.bl, r2.bl, rfl⟩
  · cases e
  · rename_i hg
    cases e
    refine .inr ⟨r2.non, ?_⟩
    congr 1
    cases dx with
    | non => rw [r1.non]; rfl
    | bl b => rw [r1.bl]; rfl
    | int i => rw [r1.int]; rfl
    | str x => rw [r1.str.1]; rfl
    | ty n => rw [repT_ty.mp (show RepT c O H (.ty n) x from r1)]; rfl
    | gl n => exact (hg n rfl).elim
    | lst xs => obtain ⟨p, vs, rfl, _⟩ := r1.lst; rfl
    | tup xs => obtain ⟨p, vs, rfl, _⟩ := r1.tup; rfl
    | dk ks xs => obtain ⟨p, vs, rfl, _⟩ := r1; rfl
    | dt ks xs => obtain ⟨p, vs, rfl, _⟩ := r1; rfl
    | st ks => obtain ⟨p, rfl, _⟩ := r1; rfl
    | adr a => rw [repT_adr.mp (show RepT c O H (.adr a) x from r1)]; rfl
    | tn xs => obtain ⟨p, vs, o, rfl, _⟩ := repT_tn.mp (show RepT c O H (.tn xs) x from r1); rfl
    | cel k => exact (repT_cel.mp (show RepT c O H (.cel k) x from r1)).elim
  · cases e
theorem oj_is : OpJ X (compareOp .Is) dIs := by
  refine oj_intr (op_isN.or op_isBl) fun H Q O dx dy d x y trk r1 r2 e q => ?_
  rcases is_cases e r1 r2 with ⟨a, b, rfl, rfl, rfl⟩ | ⟨rfl, rfl⟩
  · exact .inr ⟨a, b, rfl, rfl, bl_end q⟩
  · exact .inl ⟨rfl, bl_end q⟩
theorem oj_isnot : OpJ X (compareOp .IsNot) dIsNot := by
  refine oj_intr (op_notN.or op_notBl) fun H Q O dx dy d x y trk r1 r2 e q => ?_
  unfold dIsNot at e
  cases ed : dIs dx dy with
  | none => rw [ed] at e; cases e
  | some d' =>
    rw [ed] at e
    rcases is_cases ed r1 r2 with ⟨a, b, rfl, rfl, rfl⟩ | ⟨rfl, rfl⟩
    · cases e; exact .inr ⟨a, b, rfl, rfl, bl_end q⟩
    · cases e; exact .inl ⟨rfl, bl_end q⟩

/-! ### items, slices -/
def atD (xs : List D) (i : Int) : Option D := atI xs i
def dIx : D → D → Option D
  | .lst xs, .int i => atI xs i
  | .tup xs, .int i => atI xs i
  | .str x, .int i => (atI x i).map fun k => .str [k]
  | _, _ => none
theorem atI_len {α β : Type} {xs : List α} {ys : List β} {i : Int} {d : α} (hl : xs.length = ys.length) (h : atI xs i = some d) : ∃ j : Nat, xs[j]? = some d ∧ ∀ v, ys[j]? = some v → atI ys i = some v := by
  unfold atI at h
  rw [hl] at h
  cases q : ixN ys.length i with
  | none => rw [q] at h; cases h
  | some j =>
    rw [q] at h
    exact ⟨j, h, fun v hv => by unfold atI; rw [q]; exact hv⟩
theorem ij_ix : IxJ X dIx := by
  intro ve se pins s σ H x y v u Q I rx ry hh hsub
  obtain ⟨O, dx, dy, d, trk, r1, r2, e, q⟩ := hh
  refine ix_seq ve se pins s σ H x y v u Q I rx ry ?_ hsub
  unfold dIx at e
  split at e
  · obtain ⟨p, vs, rfl, h, k⟩ := r1.lst
    obtain ⟨j, h1, h2⟩ := atI_len k.length e
    obtain ⟨w, h3, h4⟩ := k.get h1
    exact .inl ⟨p, vs, _, w, rfl, r2.int, h, h2 w h3, q w H (.refl _) h4⟩
  · obtain ⟨p, vs, rfl, h, k⟩ := r1.tup
    obtain ⟨j, h1, h2⟩ := atI_len k.length e
    obtain ⟨w, h3, h4⟩ := k.get h1
    exact .inr (.inl ⟨p, vs, _, w, rfl, r2.int, h.sq, h2 w h3, q w H (.refl _) h4⟩)
  · rename_i z i
    cases hz : atI z i with
    | none => rw [hz] at e; cases e
    | some k =>
      rw [hz] at e
      cases e
      refine .inr (.inr ⟨⟨z.toArray⟩, i, k, r1.str.1, r2.int, ?_, by simpa using hz, q _ H (.refl _) (repT_str.mpr ⟨rfl, by simp, fun c hc => ?_⟩)⟩)
      · show z.toArray.size ≤ sizeLine
        simpa using Nat.le_trans r1.str.2.1 sz1
      · have e : c = k := by simpa using hc
        obtain ⟨j, _, h, _⟩ := atI_get hz
        rw [e]
        exact r1.str.2.2 k (List.mem_of_getElem? h)
  · cases e
def cutL {α : Type} (xs : List α) (lo hi : Option Int) : List α := (xs.drop (HT.sIx xs.length 0 lo)).take (HT.sIx xs.length xs.length hi - HT.sIx xs.length 0 lo)
theorem cutL_sub {α : Type} {xs : List α} {lo hi : Option Int} : (cutL xs lo hi).length ≤ xs.length ∧ ∀ c ∈ cutL xs lo hi, c ∈ xs := by
  refine ⟨?_, fun c hc => List.mem_of_mem_drop (List.mem_of_mem_take hc)⟩
  unfold cutL
  simp only [List.length_take, List.length_drop]
  omega
theorem cutL_map {c : Cfg} {O : List Addr} {H : Hp} {ds : List D} {vs : List V} {lo hi : Option Int} (r : RepTs c O H ds vs) : RepTs c O H (cutL ds lo hi) (cutV vs lo hi) := by
  unfold cutL cutV
  rw [r.length]
  exact (r.drop _).take _
def dSl : D → Option Int → Option Int → Option D
  | .str x, lo, hi => some (.str (cutL x lo hi))
  | .lst xs, lo, hi => some (.lst (cutL xs lo hi))
  | .tup xs, lo, hi => some (.tup (cutL xs lo hi))
  | _, _, _ => none
/-- a slice's part -/
abbrev ODen := SEnv → Cells → Out (Option Int)
def oNone : ODen := fun _ ce => .ok none ce
def oSome (g : EDen) : ODen := fun sl ce => (g sl ce).bind fun d ce1 => match d with
  | .int i => .ok (some i) ce1
  | _ => .bad
def tO (c : Cfg) (W : WX) (g : ODen) : TO := fun σ H Q => ∃ τ O sl ce, WFh c τ O ce H ∧ SRep c τ O H sl σ ∧ PostG c W τ O H σ (g sl ce) fun τ' O' ce' H' o => Q o H'
def JO (X : Cx) (W : WX) (e : Option Expr) (g : ODen) : Prop := PO X e (tO (cfg X) W g)
def eSl (ge : EDen) (gl gh : ODen) : EDen := fun sl ce => (ge sl ce).bind fun x ce1 => (gl sl ce1).bind fun lo ce2 => (gh sl ce2).bind fun hi ce3 => liftO (dSl (look ce3 x) lo hi) ce3
variable {W : WX} {e e1 e2 : Expr} {lo hi : Option Expr} {ge : EDen} {gl gh : ODen} {p2 pos : Pos}
theorem jo_none : JO X W none oNone := by
  refine ⟨fun pins s σ H Q I h => po_none.run pins s σ H Q I ?_⟩
  obtain ⟨τ, O, sl, ce, w, sr, h⟩ := h
  exact h.done w
theorem jo_some (h : JE X W e ge) : JO X W (some e) (oSome ge) := by
  refine ⟨fun pins s σ H Q I hh => (po_some h).run pins s σ H Q I ?_⟩
  obtain ⟨τ, O, sl, ce, w, sr, hh⟩ := hh
  refine ⟨τ, O, sl, ce, w, sr, (PostG.bind hh).mono fun τ1 O1 ce1 H1 d e1 w1 h1 v r => ?_⟩
  cases d with
  | int i => exact ⟨i, r.toInt, h1.done w1⟩
  | _ => exact h1.elim
theorem je_sl (he : JE X W e ge) (hl : JO X W lo gl) (hh : JO X W hi gh) : JE X W (.Subscript e (.Slice lo hi none p2) pos) (eSl ge gl gh) := by
  refine PE.weak (pe_slice (sl_str.or (sl_list.or sl_tupA)) he hl hh) fun σ H Q h => ?_
  obtain ⟨τ, O, sl, ce, w, s, h⟩ := h
  refine ⟨τ, O, sl, ce, w, s, (PostG.bind h).mono fun τ1 O1 ce1 H1 d e1 w1 h1 v r => ?_⟩
  refine ⟨τ1, O1, sl, ce1, w1, s.ext e1, (PostG.bind h1).mono fun τ2 O2 ce2 H2 lo e2 w2 h2 => ?_⟩
  refine ⟨τ2, O2, sl, ce2, w2, (s.ext e1).ext e2, (PostG.bind h2).mono fun τ3 O3 ce3 H3 hi e3 w3 h3 => ?_⟩
  obtain ⟨d', ed, q⟩ := post_lift w3 h3
  have rv := ((r.ext e2).ext e3).view w3
  cases hz : look ce3 d with
  | str z =>
    rw [hz] at rv ed
    cases ed
    refine .inl ⟨⟨z.toArray⟩, rv.str.1, ?_, q _ H3 (.refl _) (repT_str.mpr ⟨?_, okS_sub rv.str.2 cutL_sub.1 cutL_sub.2⟩)⟩
    · show z.toArray.size ≤ sizeLine
      simpa using Nat.le_trans rv.str.2.1 sz1
    · unfold cutS cutL
      simp [PySem.Str.length]
  | lst xs =>
    rw [hz] at rv ed
    cases ed
    obtain ⟨p, vs, rfl, h4, k⟩ := rv.lst
    exact .inr (.inl ⟨p, vs, rfl, h4, fun p' hp => q _ _ (same_upd hp) (new_lst w3.trk hp (cutL_map k))⟩)
  | tup xs =>
    rw [hz] at rv ed
    cases ed
    obtain ⟨p, vs, rfl, h4, k⟩ := rv.tup
    refine .inr (.inr ⟨p, vs, rfl, h4.sq, fun hw => ?_, fun _ p' hp => q _ _ (same_upd hp) (new_tup w3.trk hp (cutL_map k))⟩)
    refine q _ H3 (.refl _) (repT_tup.mpr ⟨p, vs, rfl, h4, ?_⟩)
    have := cutL_map (lo := lo) (hi := hi) k
    have ev : cutV vs lo hi = vs := by
      unfold cutV
      rw [hw.1, hw.2]
      simp
    rw [ev] at this
    exact this
  | non => rw [hz] at ed; cases ed
  | bl _ => rw [hz] at ed; cases ed
  | int _ => rw [hz] at ed; cases ed
  | ty _ => rw [hz] at ed; cases ed
  | gl _ => rw [hz] at ed; cases ed
  | dk _ _ => rw [hz] at ed; cases ed
  | dt _ _ => rw [hz] at ed; cases ed
  | st _ => rw [hz] at ed; cases ed
  | adr _ => rw [hz] at ed; cases ed
  | tn _ => rw [hz] at ed; cases ed
  | cel _ => rw [hz] at ed; cases ed

/-! ### built-in calls -/
theorem cj_intr {f : Value} {r : List V → Hp → VK → Prop} {g : List D → Option D} (h : CallR X f r) (hg : ∀ (H : Hp) (Q : VK) (O : List Addr) ds d vs, (∀ a ∈ O, H a ≠ none) → RepVs (cfg X) O H ds vs → g ds = some d → (∀ v H', Same H H' → RepT (cfg X) O H' d v → Q v H') → r vs H Q) : CallJ X f g := by
  intro pins s σ H xs us Q I rx hh
  obtain ⟨O, ds, d, trk, r1, e, q⟩ := hh
  exact h pins s σ H xs us Q I rx (hg H Q O ds d xs trk r1 e q)
theorem RepVs.one {c : Cfg} {O : List Addr} {H : Hp} {d : D} {vs : List V} (h : RepVs c O H [d] vs) : ∃ v, vs = [v] ∧ RepV c O H d v := by
  obtain ⟨v, r, rfl, h1, h2⟩ := h
  rw [show r = [] from h2]
  exact ⟨v, rfl, h1⟩
theorem RepVs.two {c : Cfg} {O : List Addr} {H : Hp} {d e : D} {vs : List V} (h : RepVs c O H [d, e] vs) : ∃ v w, vs = [v, w] ∧ RepV c O H d v ∧ RepV c O H e w := by
  obtain ⟨v, r, rfl, h1, h2⟩ := h
  obtain ⟨w, rfl, h3⟩ := RepVs.one h2
  exact ⟨v, w, rfl, h1, h3⟩
def dLen : List D → Option D
  | [.str x] => some (.int x.length)
  | [.lst x] => some (.int x.length)
  | [.tup x] => some (.int x.length)
  | _ => none
theorem cj_len : CallJ X (.builtin "len") dLen := by
  refine cj_intr (call_len_str.or call_len_seq) fun H Q O ds d vs trk r e q => ?_
  unfold dLen at e
  split at e
  · cases e
    obtain ⟨v, rfl, r1⟩ := r.one
    refine .inl ⟨_, by rw [r1.str.1], ?_, ?_⟩
    · show Array.size _ ≤ sizeLine
      simpa using Nat.le_trans r1.str.2.1 sz1
    · have := int_end q
      simpa [PySem.Str.length] using this
  · cases e
    obtain ⟨v, rfl, r1⟩ := r.one
    obtain ⟨p, ws, rfl, h, k⟩ := r1.lst
    refine .inr ⟨p, ws, rfl, .inl h, ?_⟩
    rw [← k.length]
    exact int_end q
  · cases e
    obtain ⟨v, rfl, r1⟩ := r.one
    obtain ⟨p, ws, rfl, h, k⟩ := r1.tup
    refine .inr ⟨p, ws, rfl, .inr h.sq, ?_⟩
    rw [← k.length]
    exact int_end q
  · cases e
def dInt : List D → Option D
  | [.int i] => some (.int i)
  | [.bl b] => some (.int (if b then 1 else 0))
  | _ => none
theorem cj_int : CallJ X (.type "int") dInt := by
  refine cj_intr call_int1 fun H Q O ds d vs trk r e q => ?_
  unfold dInt at e
  split at e
  · cases e
    obtain ⟨v, rfl, r1⟩ := r.one
    exact .inl ⟨_, by rw [r1.int], int_end q⟩
  · cases e
    obtain ⟨v, rfl, r1⟩ := r.one
    exact .inr ⟨_, by rw [r1.bl], int_end q⟩
  · cases e
def dMax2 : List D → Option D
  | [.int i, .int j] => some (.int (if j > i then j else i))
  | _ => none
def dMin2 : List D → Option D
  | [.int i, .int j] => some (.int (if j < i then j else i))
  | _ => none
theorem cj_max2 (hc : X.calm = true) : CallJ X (.builtin "max") dMax2 := by
  refine cj_intr (call_max2 hc) fun H Q O ds d vs trk r e q => ?_
  unfold dMax2 at e
  split at e
  · cases e
    obtain ⟨v, w, rfl, r1, r2⟩ := r.two
    exact ⟨_, _, by rw [r1.int, r2.int], int_end q⟩
  · cases e
theorem cj_min2 (hc : X.calm = true) : CallJ X (.builtin "min") dMin2 := by
  refine cj_intr (call_min2 hc) fun H Q O ds d vs trk r e q => ?_
  unfold dMin2 at e
  split at e
  · cases e
    obtain ⟨v, w, rfl, r1, r2⟩ := r.two
    exact ⟨_, _, by rw [r1.int, r2.int], int_end q⟩
  · cases e
/-! lists of ints, of bools, of texts as such -/
def asInts : List D → Option (List Int)
  | [] => some []
  | .int i :: ds => (asInts ds).map (i :: ·)
  | _ :: _ => none
def asBls : List D → Option (List Bool)
  | [] => some []
  | .bl i :: ds => (asBls ds).map (i :: ·)
  | _ :: _ => none
def asStrs : List D → Option (List (List Nat))
  | [] => some []
  | .str i :: ds => (asStrs ds).map (i :: ·)
  | _ :: _ => none
theorem asInts_eq : ∀ {ds : List D} {ns : List Int}, asInts ds = some ns → ds = ns.map D.int
  | [], ns, h => by cases h; rfl
  | .int i :: ds, ns, h => by
    unfold asInts at h
    cases q : asInts ds with
    | none => rw [q] at h; cases h
    | some ms => rw [q] at h; cases h; rw [asInts_eq q]; rfl
  | .non :: _, _, h => by cases h
  | .bl _ :: _, _, h => by cases h
  | .str _ :: _, _, h => by cases h
  | .ty _ :: _, _, h => by cases h
  | .gl _ :: _, _, h => by cases h
  | .lst _ :: _, _, h => by cases h
  | .tup _ :: _, _, h => by cases h
  | .dk _ _ :: _, _, h => by cases h
  | .dt _ _ :: _, _, h => by cases h
  | .st _ :: _, _, h => by cases h
  | .adr _ :: _, _, h => by cases h
  | .tn _ :: _, _, h => by cases h
  | .cel _ :: _, _, h => by cases h
theorem asBls_eq : ∀ {ds : List D} {ns : List Bool}, asBls ds = some ns → ds = ns.map D.bl
  | [], ns, h => by cases h; rfl
  | .bl i :: ds, ns, h => by
    unfold asBls at h
    cases q : asBls ds with
    | none => rw [q] at h; cases h
    | some ms => rw [q] at h; cases h; rw [asBls_eq q]; rfl
  | .non :: _, _, h => by cases h
  | .int _ :: _, _, h => by cases h
  | .str _ :: _, _, h => by cases h
  | .ty _ :: _, _, h => by cases h
  | .gl _ :: _, _, h => by cases h
  | .lst _ :: _, _, h => by cases h
  | .tup _ :: _, _, h => by cases h
  | .dk _ _ :: _, _, h => by cases h
  | .dt _ _ :: _, _, h => by cases h
  | .st _ :: _, _, h => by cases h
  | .adr _ :: _, _, h => by cases h
  | .tn _ :: _, _, h => by cases h
  | .cel _ :: _, _, h => by cases h
theorem asStrs_eq : ∀ {ds : List D} {ns : List (List Nat)}, asStrs ds = some ns → ds = ns.map D.str
  | [], ns, h => by cases h; rfl
  | .str i :: ds, ns, h => by
    unfold asStrs at h
    cases q : asStrs ds with
    | none => rw [q] at h; cases h
    | some ms => rw [q] at h; cases h; rw [asStrs_eq q]; rfl
  | .non :: _, _, h => by cases h
  | .bl _ :: _, _, h => by cases h
  | .int _ :: _, _, h => by cases h
  | .ty _ :: _, _, h => by cases h
  | .gl _ :: _, _, h => by cases h
  | .lst _ :: _, _, h => by cases h
  | .tup _ :: _, _, h => by cases h
  | .dk _ _ :: _, _, h => by cases h
  | .dt _ _ :: _, _, h => by cases h
  | .st _ :: _, _, h => by cases h
  | .adr _ :: _, _, h => by cases h
  | .tn _ :: _, _, h => by cases h
  | .cel _ :: _, _, h => by cases h
@[simp] theorem asInts_map : ∀ ns : List Int, asInts (ns.map D.int) = some ns
  | [] => rfl
  | n :: ns => by show (asInts (ns.map D.int)).map (n :: ·) = _; rw [asInts_map ns]; rfl
@[simp] theorem asBls_map : ∀ ns : List Bool, asBls (ns.map D.bl) = some ns
  | [] => rfl
  | n :: ns => by show (asBls (ns.map D.bl)).map (n :: ·) = _; rw [asBls_map ns]; rfl
@[simp] theorem asStrs_map : ∀ ns : List (List Nat), asStrs (ns.map D.str) = some ns
  | [] => rfl
  | n :: ns => by show (asStrs (ns.map D.str)).map (n :: ·) = _; rw [asStrs_map ns]; rfl
theorem RepV.ints {c : Cfg} {O : List Addr} {H : Hp} {xs : List D} {ns : List Int} {v : V} (h : RepV c O H (.lst xs) v) (e : asInts xs = some ns) : ∃ p, v = .ref p ∧ SqL c.K H p (ns.map V.int) := by
  obtain ⟨p, vs, rfl, h1, k⟩ := h.lst
  rw [asInts_eq e] at k
  exact ⟨p, rfl, by rw [← k.ints]; exact h1⟩
theorem RepV.bls {c : Cfg} {O : List Addr} {H : Hp} {xs : List D} {ns : List Bool} {v : V} (h : RepV c O H (.lst xs) v) (e : asBls xs = some ns) : ∃ p, v = .ref p ∧ SqL c.K H p (ns.map V.bl) := by
  obtain ⟨p, vs, rfl, h1, k⟩ := h.lst
  rw [asBls_eq e] at k
  exact ⟨p, rfl, by rw [← k.bls]; exact h1⟩
def dSum : List D → Option D
  | [.lst xs] => (asInts xs).map fun ns => .int ns.sum
  | _ => none
theorem cj_sum (hc : X.calm = true) : CallJ X (.builtin "sum") dSum := by
  refine cj_intr (cr_sum hc) fun H Q O ds d vs trk r e q => ?_
  unfold dSum at e
  split at e
  · rename_i xs
    cases h : asInts xs with
    | none => rw [h] at e; cases e
    | some ns =>
      rw [h] at e
      cases e
      obtain ⟨v, rfl, r1⟩ := r.one
      obtain ⟨p, rfl, k⟩ := r1.ints h
      exact ⟨p, ns, rfl, k, int_end q⟩
  · cases e
def dAll : List D → Option D
  | [.lst xs] => (asBls xs).map fun ns => .bl (ns.all id)
  | _ => none
theorem cj_all (hc : X.calm = true) : CallJ X (.builtin "all") dAll := by
  refine cj_intr (cr_all hc) fun H Q O ds d vs trk r e q => ?_
  unfold dAll at e
  split at e
  · rename_i xs
    cases h : asBls xs with
    | none => rw [h] at e; cases e
    | some ns =>
      rw [h] at e
      cases e
      obtain ⟨v, rfl, r1⟩ := r.one
      obtain ⟨p, rfl, k⟩ := r1.bls h
      exact ⟨p, ns, rfl, k, bl_end q⟩
  · cases e
def listMax (ns : List Int) : Int := match ns with
  | [] => 0
  | n :: r => r.foldl max n
def listMin (ns : List Int) : Int := match ns with
  | [] => 0
  | n :: r => r.foldl min n
theorem foldl_max : ∀ (r : List Int) (n : Int), (r.foldl max n ∈ n :: r) ∧ n ≤ r.foldl max n ∧ ∀ y ∈ r, y ≤ r.foldl max n
  | [], n => ⟨by simp, Int.le_refl _, by simp⟩
  | a :: r, n => by
    obtain ⟨h1, h2, h3⟩ := foldl_max r (max n a)
    rw [List.foldl_cons]
    refine ⟨?_, by omega, fun y hy => ?_⟩
    · rcases List.mem_cons.mp h1 with e | e
      · rw [e]
        rcases Int.le_total n a with h | h
        · rw [Int.max_eq_right h]; simp
        · rw [Int.max_eq_left h]; simp
      · simp [e]
    · rcases List.mem_cons.mp hy with rfl | hy
      · omega
      · exact h3 y hy
theorem foldl_min : ∀ (r : List Int) (n : Int), (r.foldl min n ∈ n :: r) ∧ r.foldl min n ≤ n ∧ ∀ y ∈ r, r.foldl min n ≤ y
  | [], n => ⟨by simp, Int.le_refl _, by simp⟩
  | a :: r, n => by
    obtain ⟨h1, h2, h3⟩ := foldl_min r (min n a)
    rw [List.foldl_cons]
    refine ⟨?_, by omega, fun y hy => ?_⟩
    · rcases List.mem_cons.mp h1 with e | e
      · rw [e]
        rcases Int.le_total n a with h | h
        · rw [Int.min_eq_left h]; simp
        · rw [Int.min_eq_right h]; simp
      · simp [e]
    · rcases List.mem_cons.mp hy with rfl | hy
      · omega
      · exact h3 y hy
def dMax1 : List D → Option D
  | [.lst xs] => match asInts xs with
    | some (n :: r) => some (.int (listMax (n :: r)))
    | _ => none
  | _ => none
def dMin1 : List D → Option D
  | [.lst xs] => match asInts xs with
    | some (n :: r) => some (.int (listMin (n :: r)))
    | _ => none
  | _ => none
theorem cj_max1 (hc : X.calm = true) : CallJ X (.builtin "max") dMax1 := by
  refine cj_intr (cr_max hc) fun H Q O ds d vs trk r e q => ?_
  unfold dMax1 at e
  split at e
  · rename_i xs
    split at e
    · rename_i n r' h
      cases e
      obtain ⟨v, rfl, r1⟩ := r.one
      obtain ⟨p, rfl, k⟩ := r1.ints h
      refine ⟨p, _, rfl, k, by simp, fun m hm hle => ?_⟩
      obtain ⟨h1, h2, h3⟩ := foldl_max r' n
      have : m = listMax (n :: r') := by
        have a1 := hle _ h1
        have a2 : m ≤ r'.foldl max n := by
          rcases List.mem_cons.mp hm with e | e
          · rw [e]; exact h2
          · exact h3 m e
        show m = r'.foldl max n
        omega
      rw [this]
      exact int_end q
    · cases e
  · cases e
theorem cj_min1 (hc : X.calm = true) : CallJ X (.builtin "min") dMin1 := by
  refine cj_intr (cr_min hc) fun H Q O ds d vs trk r e q => ?_
  unfold dMin1 at e
  split at e
  · rename_i xs
    split at e
    · rename_i n r' h
      cases e
      obtain ⟨v, rfl, r1⟩ := r.one
      obtain ⟨p, rfl, k⟩ := r1.ints h
      refine ⟨p, _, rfl, k, by simp, fun m hm hle => ?_⟩
      obtain ⟨h1, h2, h3⟩ := foldl_min r' n
      have : m = listMin (n :: r') := by
        have a1 := hle _ h1
        have a2 : r'.foldl min n ≤ m := by
          rcases List.mem_cons.mp hm with e | e
          · rw [e]; exact h2
          · exact h3 m e
        show m = r'.foldl min n
        omega
      rw [this]
      exact int_end q
    · cases e
  · cases e
def dList : List D → Option D
  | [.lst xs] => some (.lst xs)
  | [.tup xs] => some (.lst xs)
  | _ => none
theorem cj_list : CallJ X (.type "list") dList := by
  refine cj_intr call_list_of fun H Q O ds d vs trk r e q => ?_
  unfold dList at e
  split at e
  · cases e
    obtain ⟨v, rfl, r1⟩ := r.one
    obtain ⟨p, ws, rfl, h, k⟩ := r1.lst
    exact ⟨p, ws, rfl, .inl h, fun l hl => q _ _ (same_upd hl) (new_lst trk hl k)⟩
  · cases e
    obtain ⟨v, rfl, r1⟩ := r.one
    obtain ⟨p, ws, rfl, h, k⟩ := r1.tup
    exact ⟨p, ws, rfl, .inr h.sq, fun l hl => q _ _ (same_upd hl) (new_lst trk hl k)⟩
  · cases e
def dTuple : List D → Option D
  | [.lst xs] => some (.tup xs)
  | [.tup xs] => some (.tup xs)
  | _ => none
theorem cj_tuple : CallJ X (.type "tuple") dTuple := by
  refine cj_intr call_tuple_of fun H Q O ds d vs trk r e q => ?_
  unfold dTuple at e
  split at e
  · cases e
    obtain ⟨v, rfl, r1⟩ := r.one
    obtain ⟨p, ws, rfl, h, k⟩ := r1.lst
    exact ⟨p, ws, rfl, .inl ⟨h, fun l hl => q _ _ (same_upd hl) (new_tup trk hl k)⟩⟩
  · cases e
    obtain ⟨v, rfl, r1⟩ := r.one
    obtain ⟨p, ws, rfl, h, k⟩ := r1.tup
    exact ⟨p, ws, rfl, .inr ⟨h.sq, q _ H (.refl _) (repT_tup.mpr ⟨p, ws, rfl, h, k⟩)⟩⟩
  · cases e
/-- insertion sort of ints -/
def insI (x : Int) : List Int → List Int
  | [] => [x]
  | y :: r => if x ≤ y then x :: y :: r else y :: insI x r
def sortI : List Int → List Int
  | [] => []
  | x :: r => insI x (sortI r)
theorem insI_perm (x : Int) : ∀ r, (insI x r).Perm (x :: r)
  | [] => .refl _
  | y :: r => by
    unfold insI
    split
    · exact .refl _
    · exact ((insI_perm x r).cons y).trans (.swap x y r)
theorem sortI_perm : ∀ r, (sortI r).Perm r
  | [] => .refl _
  | x :: r => (insI_perm x _).trans ((sortI_perm r).cons x)
theorem insI_sorted (x : Int) : ∀ r, r.Pairwise (· ≤ ·) → (insI x r).Pairwise (· ≤ ·)
  | [], _ => by simp [insI]
  | y :: r, h => by
    unfold insI
    have h' := List.pairwise_cons.mp h
    split
    · rename_i hxy
      refine List.pairwise_cons.mpr ⟨fun z hz => ?_, h⟩
      rcases List.mem_cons.mp hz with rfl | hz
      · exact hxy
      · have := h'.1 z hz; omega
    · rename_i hxy
      refine List.pairwise_cons.mpr ⟨fun z hz => ?_, insI_sorted x r h'.2⟩
      rcases List.mem_cons.mp ((insI_perm x r).mem_iff.mp hz) with rfl | hz
      · omega
      · exact h'.1 z hz
theorem sortI_sorted : ∀ r, (sortI r).Pairwise (· ≤ ·)
  | [] => by simp [sortI]
  | x :: r => insI_sorted x _ (sortI_sorted r)
theorem sortI_only {l r : List Int} (hp : l.Perm r) (hs : l.Pairwise (· ≤ ·)) : l = sortI r :=
  List.Perm.eq_of_pairwise (fun a b _ _ h1 h2 => by omega) hs (sortI_sorted r) (hp.trans (sortI_perm r).symm)
def dSorted : List D → Option D
  | [.lst xs] => (asInts xs).map fun ns => .lst ((sortI ns).map D.int)
  | _ => none
theorem cj_sorted : CallJ X (.builtin "sorted") dSorted := by
  refine cj_intr cr_sortedI fun H Q O ds d vs trk r e q => ?_
  unfold dSorted at e
  split at e
  · rename_i xs
    cases h : asInts xs with
    | none => rw [h] at e; cases e
    | some ns =>
      rw [h] at e
      cases e
      obtain ⟨v, rfl, r1⟩ := r.one
      obtain ⟨p, rfl, k⟩ := r1.ints h
      refine ⟨p, ns, rfl, k, fun ns' p' h1 h2 h3 => q _ _ (same_upd h3) ?_⟩
      rw [sortI_only h1 h2]
      exact new_lst trk h3 (RepTs.ofInts _)
  · cases e

/-! ### isinstance -/
def tyOf : D → Option String
  | .non => some "NoneType"
  | .bl _ => some "bool"
  | .int _ => some "int"
  | .str _ => some "str"
  | .lst _ => some "list"
  | .tup _ => some "tuple"
  | _ => none
/-- isinstance against int, bool, str, list, tuple -/
def isiB (t n : String) : Option Bool :=
  if n = "int" then some (t == "int" || t == "bool") else if n = "bool" then some (t == "bool") else if n = "str" then some (t == "str") else if n = "list" then some (t == "list") else if n = "tuple" then some (t == "tuple") else none
def dIsi : List D → Option D
  | [x, .ty n] => match tyOf x with
    | some t => (isiB t n).map D.bl
    | none => none
  | _ => none
theorem tyOf_in {x : D} {t : String} (h : tyOf x = some t) : t = "NoneType" ∨ t = "bool" ∨ t = "int" ∨ t = "str" ∨ t = "list" ∨ t = "tuple" := by
  cases x <;> simp [tyOf] at h <;> simp [← h]
theorem isiB_kit {K : PySem.W.Frag} {t n : String} {b : Bool} (ht : t = "NoneType" ∨ t = "bool" ∨ t = "int" ∨ t = "str" ∨ t = "list" ∨ t = "tuple") (h : isiB t n = some b) : PySem.W.kitOne K (.type t) (.type n) = some b := by
  apply kit_ty
  unfold isiB at h
  split at h
  · rename_i e; subst e; cases h; rcases ht with rfl | rfl | rfl | rfl | rfl | rfl <;> decide +kernel
  · split at h
    · rename_i e; subst e; cases h; rcases ht with rfl | rfl | rfl | rfl | rfl | rfl <;> decide +kernel
    · split at h
      · rename_i e; subst e; cases h; rcases ht with rfl | rfl | rfl | rfl | rfl | rfl <;> decide +kernel
      · split at h
        · rename_i e; subst e; cases h; rcases ht with rfl | rfl | rfl | rfl | rfl | rfl <;> decide +kernel
        · split at h
          · rename_i e; subst e; cases h; rcases ht with rfl | rfl | rfl | rfl | rfl | rfl <;> decide +kernel
          · cases h
theorem tyX_of {c : Cfg} {O : List Addr} {H : Hp} {x : D} {v : V} {t : String} (r : RepV c O H x v) (h : tyOf x = some t) : TyX c.K H v (.type t) := by
  cases x with
  | non => rw [r.non]; cases h; exact .base .non
  | bl b => rw [r.bl]; cases h; exact .base (.bl b)
  | int i => rw [r.int]; cases h; exact .base (.int i)
  | str x => rw [r.str.1]; cases h; exact .base (.str _)
  | lst xs =>
    cases h
    obtain ⟨p, vs, rfl, h1, _⟩ := r.lst
    rcases h1 with (h1 | ⟨o, h1⟩) | ⟨o, its, n, h1, h2, _⟩
    · exact .base (.lst h1)
    · exact .base (.frz h1)
    · exact .kList h1 h2
  | tup xs =>
    cases h
    obtain ⟨p, vs, rfl, h1, _⟩ := r.tup
    exact .base (.tup h1.2)
  | _ => cases h
theorem cj_isi : CallJ X (.builtin "isinstance") dIsi := by
  refine cj_intr call_isi fun H Q O ds d vs trk r e q => ?_
  unfold dIsi at e
  split at e
  · rename_i x n
    cases ht : tyOf x with
    | none => rw [ht] at e; cases e
    | some t =>
      rw [ht] at e
      cases hb : isiB t n with
      | none => simp [hb] at e
      | some b =>
        simp [hb] at e
        subst e
        obtain ⟨v, w, rfl, r1, r2⟩ := r.two
        have ew : w = .ty n := repT_ty.mp (show RepT (cfg X) O H (.ty n) w from r2)
        subst ew
        exact ⟨v, .ty n, _, _, b, rfl, .ty n, tyX_of r1 ht, isiB_kit (tyOf_in ht) hb, bl_end q⟩
  · cases e

/-! ### methods that read -/
theorem mj_intr {id : String} {r : V → List V → Hp → VK → Prop} {g : D → List D → Option D} (h : MtR X id r) (hg : ∀ (H : Hp) (Q : VK) (O : List Addr) dx ds d x vs, (∀ a ∈ O, H a ≠ none) → RepV (cfg X) O H dx x → RepVs (cfg X) O H ds vs → g dx ds = some d → (∀ v H', Same H H' → RepT (cfg X) O H' d v → Q v H') → r x vs H Q) : MtJ X id g := by
  intro pins s σ H x xs v us Q I rx rs hh
  obtain ⟨O, dx, ds, d, trk, r0, r1, e, q⟩ := hh
  exact h pins s σ H x xs v us Q I rx rs (hg H Q O dx ds d x xs trk r0 r1 e q)
/-- the receiver is of the type T -/
def dTy (T : String) : D → Bool
  | .str _ => T == "str"
  | .lst _ => T == "list"
  | .dk _ _ => T == "dict"
  | _ => false
theorem tyV_of {T : String} {O : List Addr} {H : Hp} {d : D} {v : V} (r : RepV (cfg X) O H d v) (h : dTy T d = true) : tyV X.K T v H := by
  cases d with
  | str x => rw [r.str.1]; exact beq_iff_eq.mp h
  | lst xs => obtain ⟨p, vs, rfl, h1, _⟩ := r.lst; exact .inl ⟨beq_iff_eq.mp h, vs, h1⟩
  | dk ks xs => obtain ⟨p, vs, rfl, h1, _⟩ := r; exact .inr (.inr (.inl ⟨beq_iff_eq.mp h, .inl ⟨_, h1⟩⟩))
  | _ => cases h
def eMeth0 (T : String) (g : D → List D → Option D) (go : EDen) : EDen := fun sl ce => (go sl ce).bind fun x ce1 => if dTy T (look ce1 x) then liftO (g (look ce1 x) []) ce1 else .bad
def eMethR (T : String) (g : D → List D → Option D) (go : EDen) (ga : SEnv → Cells → Out (List D)) : EDen := fun sl ce => (go sl ce).bind fun x ce1 => if dTy T (look ce1 x) then (ga sl ce1).bind fun xs ce2 => liftO (g (look ce2 x) (xs.map (look ce2))) ce2 else .bad
section
variable {o e : Expr} {es : List Expr} {go : EDen} {ga : SEnv → Cells → Out (List D)} {name : Str} {apos cpos : Pos} {T id : String} {g : D → List D → Option D}
theorem je_meth0 (pa : PlainAttrs T) (slot : Slot T name id) (hty : typeOf (.builtin id) = pure (.type "method_descriptor")) (hm : MtJ X id g) (ho : JE X W o go)
    (hbase : attributeBase o name X.env (eval o X.env) = eval o X.env) (hline : (apos.endLine == cpos.line) = true) : JE X W (.Call (.Attribute o name apos) [] [] cpos) (eMeth0 T g go) := by
  refine PE.weak (pe_bm0 pa slot hty hm ho hbase hline) fun σ H Q h => ?_
  obtain ⟨τ, O, sl, ce, w, s, h⟩ := h
  refine ⟨τ, O, sl, ce, w, s, (PostG.bind h).mono fun τ1 O1 ce1 H1 d e1 w1 h1 v r => ?_⟩
  split at h1
  · rename_i ht
    obtain ⟨d', ed, q⟩ := post_lift w1 h1
    exact ⟨tyV_of (r.view w1) ht, O1, _, [], d', w1.trk, r.view w1, rfl, ed, q⟩
  · exact h1.elim
theorem je_methR (pa : PlainAttrs T) (slot : Slot T name id) (hty : typeOf (.builtin id) = pure (.type "method_descriptor")) (hm : MtJ X id g) (ho : JE X W o go) (ha : JA X W (e :: es) ga)
    (hbase : attributeBase o name X.env (eval o X.env) = eval o X.env)
    (hfew : ((backTo cpos (starEach (e :: es) X.env)).all (fun x => !x.1) && (backToKw cpos (keywordEach [] X.env)).all (fun x => x.1.isSome)
      && decide ((e :: es).length + ([] : List Keyword).length + (if ([] : List Keyword).isEmpty then 0 else 1) < 30)) = true)
    (hline : (apos.endLine == cpos.line) = true) (hs : starEach (e :: es) X.env = (false, eval e X.env) :: starEach es X.env) (hplain : (backTo cpos (starEach es X.env)).any (·.1) = false) :
    JE X W (.Call (.Attribute o name apos) (e :: es) [] cpos) (eMethR T g go ga) := by
  refine PE.weak (pe_bm pa slot hty hm ho ha hbase hfew hline hs hplain) fun σ H Q h => ?_
  obtain ⟨τ, O, sl, ce, w, s, h⟩ := h
  refine ⟨τ, O, sl, ce, w, s, (PostG.bind h).mono fun τ1 O1 ce1 H1 d e1 w1 h1 v r => ?_⟩
  split at h1
  · rename_i ht
    refine ⟨tyV_of (r.view w1) ht, τ1, O1, sl, ce1, w1, s.ext e1, (PostG.bind h1).mono fun τ2 O2 ce2 H2 xs e2 w2 h2 vs rs => ?_⟩
    obtain ⟨d', ed, q⟩ := post_lift w2 h2
    exact ⟨O2, _, _, d', w2.trk, (r.ext e2).view w2, rs.view w2, ed, q⟩
  · exact h1.elim
end
/-! case of signs -/
def up1 (k : Nat) : Nat := if 97 ≤ k ∧ k ≤ 122 then k - 32 else k
def lo1 (k : Nat) : Nat := if 65 ≤ k ∧ k ≤ 90 then k + 32 else k
def isUp (k : Nat) : Bool := decide (65 ≤ k) && decide (k ≤ 90)
def isLo (k : Nat) : Bool := decide (97 ≤ k) && decide (k ≤ 122)
theorem up_ascii : ∀ k, k < 128 → Unicode.isUpper k = isUp k := by decide +kernel
theorem lo_ascii : ∀ k, k < 128 → Unicode.isLower k = isLo k := by decide +kernel
theorem ti_ascii : ∀ k, k < 128 → Unicode.isTitle k = false := by decide +kernel
def dUpper : D → List D → Option D
  | .str x, [] => some (.str (x.map up1))
  | _, _ => none
def dLower : D → List D → Option D
  | .str x, [] => some (.str (x.map lo1))
  | _, _ => none
def dIsUpper : D → List D → Option D
  | .str x, [] => some (.bl (x.any isUp && !x.any isLo))
  | _, _ => none
def dIsLower : D → List D → Option D
  | .str x, [] => some (.bl (x.any isLo && !x.any isUp))
  | _, _ => none
theorem okS_map {x : List Nat} {f : Nat → Nat} (h : okS x) (hf : ∀ k, k < 128 → f k < 128) : okS (x.map f) := ⟨by simpa using h.1, fun k hk => by
  obtain ⟨j, hj, rfl⟩ := List.mem_map.mp hk
  exact hf j (h.2 j hj)⟩
theorem mj_upper : MtJ X "str.upper" dUpper := by
  refine mj_intr mt_upper fun H Q O dx ds d x vs trk r0 r1 e q => ?_
  unfold dUpper at e
  split at e
  · rename_i z
    cases e
    refine ⟨_, r0.str.1, by rw [show vs = [] from r1], ?_, q _ H (.refl _) (repT_str.mpr ⟨?_, okS_map r0.str.2 fun k hk => by unfold up1; split <;> omega⟩)⟩
    · show z.toArray.size ≤ 5592405
      have := r0.str.2.1
      simp; omega
    · rw [PyProof.Rows.upper_ascii (by simpa using r0.str.2.2)]
      show V.str ⟨z.toArray.map PyProof.Rows.up1⟩ = _
      simp
      exact fun _ _ => rfl
  · cases e
theorem mj_lower : MtJ X "str.lower" dLower := by
  refine mj_intr mt_lower fun H Q O dx ds d x vs trk r0 r1 e q => ?_
  unfold dLower at e
  split at e
  · rename_i z
    cases e
    refine ⟨_, r0.str.1, by rw [show vs = [] from r1], ?_, q _ H (.refl _) (repT_str.mpr ⟨?_, okS_map r0.str.2 fun k hk => by unfold lo1; split <;> omega⟩)⟩
    · show z.toArray.size ≤ 5592405
      have := r0.str.2.1
      simp; omega
    · rw [PyProof.Rows.lower_ascii (by simpa using r0.str.2.2)]
      show V.str ⟨z.toArray.map PyProof.Rows.lo1⟩ = _
      simp
      exact fun _ _ => rfl
  · cases e
theorem any_ascii {f g : Nat → Bool} (h : ∀ k, k < 128 → f k = g k) : ∀ {x : List Nat}, (∀ k ∈ x, k < 128) → x.any f = x.any g
  | [], _ => rfl
  | k :: x, hx => by rw [List.any_cons, List.any_cons, h k (hx k List.mem_cons_self), any_ascii h fun j hj => hx j (List.mem_cons_of_mem _ hj)]
theorem mj_isupper : MtJ X "str.isupper" dIsUpper := by
  refine mj_intr mt_isupper fun H Q O dx ds d x vs trk r0 r1 e q => ?_
  unfold dIsUpper at e
  split at e
  · rename_i z
    cases e
    refine ⟨_, r0.str.1, by rw [show vs = [] from r1], trivial, ?_⟩
    have h1 : z.any Unicode.isUpper = z.any isUp := any_ascii up_ascii r0.str.2.2
    have h2 : z.any (fun c => Unicode.isLower c || Unicode.isTitle c) = z.any isLo := any_ascii (fun k hk => by rw [lo_ascii k hk, ti_ascii k hk, Bool.or_false]) r0.str.2.2
    have : PySem.Txt.isupper ⟨z.toArray⟩ = (z.any isUp && !z.any isLo) := by
      unfold PySem.Txt.isupper
      rw [← h1, ← h2]
      simp
    rw [this]
    exact bl_end q
  · cases e
theorem mj_islower : MtJ X "str.islower" dIsLower := by
  refine mj_intr mt_islower fun H Q O dx ds d x vs trk r0 r1 e q => ?_
  unfold dIsLower at e
  split at e
  · rename_i z
    cases e
    refine ⟨_, r0.str.1, by rw [show vs = [] from r1], trivial, ?_⟩
    have h1 : z.any Unicode.isLower = z.any isLo := any_ascii lo_ascii r0.str.2.2
    have h2 : z.any (fun c => Unicode.isUpper c || Unicode.isTitle c) = z.any isUp := any_ascii (fun k hk => by rw [up_ascii k hk, ti_ascii k hk, Bool.or_false]) r0.str.2.2
    have : PySem.Txt.islower ⟨z.toArray⟩ = (z.any isLo && !z.any isUp) := by
      unfold PySem.Txt.islower
      rw [← h1, ← h2]
      simp
    rw [this]
    exact bl_end q
  · cases e
/-! join -/
def joinL (a : List Nat) : List (List Nat) → List Nat
  | [] => []
  | [x] => x
  | x :: y :: r => x ++ a ++ joinL a (y :: r)
def dJoin : D → List D → Option D
  | .str a, [.lst xs] => match asStrs xs with
    | some ys => if (ys.map (·.length)).sum + ys.length * a.length ≤ 1000000 then some (.str (joinL a ys)) else none
    | none => none
  | _, _ => none
theorem joinL_len (a : List Nat) : ∀ ys : List (List Nat), (joinL a ys).length ≤ (ys.map (·.length)).sum + ys.length * a.length
  | [] => by simp [joinL]
  | [x] => by simp [joinL]
  | x :: y :: r => by
    have := joinL_len a (y :: r)
    simp only [joinL, List.length_append, List.map_cons, List.sum_cons, List.length_cons] at this ⊢
    have e : (r.length + 1 + 1) * a.length = (r.length + 1) * a.length + a.length := by rw [Nat.add_mul]; simp
    rw [e]
    omega
theorem joinL_mem (a : List Nat) : ∀ (ys : List (List Nat)) (k : Nat), k ∈ joinL a ys → k ∈ a ∨ ∃ y ∈ ys, k ∈ y
  | [], k, h => by simp [joinL] at h
  | [x], k, h => .inr ⟨x, by simp, h⟩
  | x :: y :: r, k, h => by
    simp only [joinL, List.append_assoc, List.mem_append] at h
    rcases h with h | h | h
    · exact .inr ⟨x, by simp, h⟩
    · exact .inl h
    · rcases joinL_mem a (y :: r) k h with h | ⟨z, h1, h2⟩
      · exact .inl h
      · exact .inr ⟨z, List.mem_cons_of_mem _ h1, h2⟩
theorem joinL_str (a : List Nat) : ∀ ys : List (List Nat), PySem.Str.join (toStr a) (ys.map toStr) = toStr (joinL a ys)
  | [] => rfl
  | [x] => rfl
  | x :: y :: r => by
    have ih := joinL_str a (y :: r)
    show toStr x ++ toStr a ++ PySem.Str.join (toStr a) ((y :: r).map toStr) = _
    rw [ih]
    show (⟨x.toArray ++ a.toArray ++ (joinL a (y :: r)).toArray⟩ : Str) = ⟨(x ++ a ++ joinL a (y :: r)).toArray⟩
    simp
end
end Ib

set_option Elab.async false
set_option linter.all false
set_option maxRecDepth 100000
set_option maxHeartbeats 2000000
/-! enumerate(..) of a tuple. -/
namespace L2
open PySem PySem.Spec PyProof.Rows
open AutoSeq1 (wpAny_loadPart')
theorem new_enumT (a : Addr) (items : Array Value) (n : Nat) (dct : Option Addr) (sl : Array (Option Value)) :
    Meets (Builtin.«enumerate.__new__» ⟨[.type "enumerate", .ref a], []⟩) (fun _ R s => s.heap.get? a = some { cls := .type "tuple", dict := dct, data := .seq items n, slots := sl } ∧
      R (.ok (.ret (.ref (s.heap.push { cls := .type "tuple_iterator", data := .fields #[.ref a, .int 0 0] }).objs.size)))
        { s with heap := (s.heap.push { cls := .type "tuple_iterator", data := .fields #[.ref a, .int 0 0] }).push { cls := .type "enumerate", data := .fields #[.none, .bool false, .ref s.heap.objs.size, rawInt 0, .none, .none] } }) :=
  .of_wp fun prog w A R s h => by
    obtain ⟨hp, g, d, tk, os⟩ := s
    obtain ⟨ha, h⟩ := h
    have sub := sub_enumerate
    have hT : Heap.IsTuple (Shared.heap ⟨hp, g, d, tk, os⟩) a items := ⟨_, ha, rfl, n, rfl⟩
    wp_walk using wpAny_loadPart' ha
    refine wpAny_stack_any fun st => wpAny_pure ?_
    split
    · rename_i c _ _ _ _ _
      cases (c == Value.type "enumerate")
      · wp_walk using wpAny_loadPart' ha, wpAny_pyIter_tuple hT
        exact ⟨_, rfl, h⟩
      · wp_walk using wpAny_loadPart' ha, wpAny_pyIter_tuple hT
        exact ⟨_, rfl, h⟩
    · wp_walk using wpAny_loadPart' ha, wpAny_pyIter_tuple hT
      exact ⟨_, rfl, h⟩
section
variable {prog : Program} {w : World} {A : Around} {E : Value → Shared → Prop} {s : Shared}
theorem call_enumT {a : Addr} {items : Array Value} {Q : Value → Shared → Prop} (hL : s.heap.IsTuple a items)
    (h : ∀ h', IsEnum h' (s.heap.objs.size + 1) s.heap.objs.size 0 .none → h'.IsTupleIter s.heap.objs.size a 0 → (∀ b o, s.heap.get? b = some o → h'.get? b = some o) → Q (.ref (s.heap.objs.size + 1)) { s with heap := h' }) :
    wpAny (model prog w) A (call (.type "enumerate") [.ref a]) Q E s := by
  obtain ⟨⟨c, dct, dt, sl⟩, hl, hc, n, hd⟩ := hL
  replace hc : c = .type "tuple" := hc
  replace hd : dt = .seq items n := hd
  subst hc hd
  refine callType_new F.called_enumerate (by decide) (F.typeCall_enumerate_1 _) (F.newCall_enumerate_1 _) (fun obj => F.args_object_init_2 obj _) F.entry_enumerate_new (new_enumT a items n dct sl) ⟨hl, ?_⟩
  have hz : (s.heap.push { cls := .type "tuple_iterator", data := .fields #[.ref a, .int 0 0] }).objs.size = s.heap.objs.size + 1 := Heap.size_push ..
  show _ ∧ _
  rw [hz]
  have he : IsEnum ((s.heap.push { cls := .type "tuple_iterator", data := .fields #[.ref a, .int 0 0] }).push
      { cls := .type "enumerate", data := .fields #[.none, .bool false, .ref s.heap.objs.size, rawInt 0, .none, .none] }) (s.heap.objs.size + 1) s.heap.objs.size 0 .none := by
    have z := Heap.get?_push_size (s.heap.push { cls := .type "tuple_iterator", data := .fields #[.ref a, .int 0 0] }) (o := { cls := .type "enumerate", data := .fields #[.none, .bool false, .ref s.heap.objs.size, rawInt 0, .none, .none] }) rfl
    rw [hz] at z
    exact z
  exact ⟨⟨_, he, rfl⟩, h _ he ⟨_, Heap.get?_push_of_some _ (Heap.get?_push_size _ rfl), rfl, rfl⟩ fun b o x => Heap.get?_push_of_some _ (Heap.get?_push_of_some _ x)⟩
end
theorem IsTup.heap {h : Heap} {a : Addr} {its : Array Value} (x : IsTup h a its) : h.IsTuple a its := x
/-- the items of the tuple at a, each in a new pair with its place -/
def ItET (K : PySem.W.Frag) (a : Addr) (xs : List V) : It :=
  ⟨fun i H => i < xs.length ∧ SqT K H a xs, fun i H v H' => ∃ T x, v = .ref T ∧ H T = none ∧ H' = upd H T (.tup [.int (i : Nat), x]) ∧ xs[i]? = some x, fun i H => xs.length ≤ i ∧ SqT K H a xs⟩
theorem turn_enumT {P : Program} {w : World} {K : PySem.W.Frag} {elts : List Expr} {kk : Nat} {tpos : Pos} (a e it : Addr) (xs : List V) :
    Turn P w K (.Tuple elts kk tpos) (ItET K a xs) [e, it] e (fun i h => (∃ old, IsEnum h e it ((i : Nat) : Int) old) ∧ h.IsTupleIter it a i ∧ e ≠ it ∧ a ≠ it ∧ a ≠ e ∧ i ≤ xs.length) where
  mem := by simp
  obj := fun i h st b hb => by
    obtain ⟨⟨old, he⟩, ⟨o, ho, hc, hd⟩, _⟩ := st
    have e' : b = e ∨ b = it := by simpa using hb
    rcases e' with z | z
    · rw [z]; exact ⟨_, he, fun v q => nomatch q⟩
    · rw [z]; exact ⟨o, ho, fun v q => by rw [hd] at q; cases q⟩
  keep := fun i h h' st k => let ⟨⟨old, he⟩, ⟨o, ho, r⟩, hne⟩ := st; ⟨⟨old, k e (by simp) _ he⟩, ⟨o, k it (by simp) o ho, r⟩, hne⟩
  item := by
    intro X hP hw hK hc i pins s σ H E I hf st hg
    subst hP hw hK
    obtain ⟨⟨old, he⟩, hit, hne, hai, hae, hle⟩ := st
    obtain ⟨hlt, hq⟩ := hg
    obtain ⟨its, rv, ht, hz⟩ := I.tuple hq
    have hel : e < s.heap.objs.size := Heap.lt_size he
    have hil : it < s.heap.objs.size := by obtain ⟨_, q, _⟩ := hit; exact Heap.lt_size q
    have hls : its.length = xs.length := rv.length.symm
    refine wpAny_pyNext_enum_itemD (Draws.tuple (A := X.A.in1) (I.ok.hd hc) it a hai its.toArray) he ⟨hit, ht⟩ (by simp; omega) hne (by simp; exact ⟨hne, fun z => hae z.symm⟩) fun u h' tk hu ho hst hT hsz hk => ?_
    obtain ⟨v, hv, rv1⟩ := rv.get (List.getElem?_eq_getElem hlt)
    have hu' : its[i]? = some u := by simpa using hu
    rw [hv] at hu'
    cases hu'
    refine ⟨_, rfl, wpAny_letOwnedTupleGo_enum (s := { s with heap := h', toks := tk + 1 }) ho fun h'' he' sb => ?_⟩
    have hT2 : h''.get? s.heap.objs.size = some { cls := .type "tuple", data := .seq #[.int i tk, u] } := (sb.2 _ (Nat.ne_of_gt hel)).trans hT
    have new : ObjOk X.prog X.w (upd H s.heap.objs.size (.tup [.int (i : Nat), xs[i]])) h'' s.heap.objs.size (.tup [.int (i : Nat), xs[i]]) :=
      ⟨by show 2 ≤ sizeLine; decide, [.int i tk, u], .cons ⟨_, rfl⟩ (.cons rv1 .nil), ⟨_, hT2, rfl, _, rfl⟩⟩
    have I1 : Inv X pins σ (upd H s.heap.objs.size (.tup [.int (i : Nat), xs[i]])) { s with heap := h'', toks := tk + 1 } :=
      I.turnedNew (ch := [e, it]) (fun b ob hb q => (sb.2 b (fun z => hb (by simp [z]))).trans (hk b ob (fun z => hb (by simp [z])) (fun z => hb (by simp [z])) q)) hf (Nat.le_refl _) new
    refine ⟨.ref s.heap.objs.size, _, I1, rfl, ⟨_, xs[i], rfl, I.hok.fresh (Nat.le_refl _), rfl, List.getElem?_eq_getElem hlt⟩, ⟨⟨u, ?_⟩, ?_, hne, hai, hae, hlt⟩, fun b hb => ?_⟩
    · have e1 : ((i + 1 : Nat) : Int) = (i : Int) + 1 := by omega
      rw [e1]; exact he'
    · obtain ⟨o, ho', r⟩ := hst.1
      exact ⟨o, (sb.2 it (Ne.symm hne)).trans ho', r⟩
    · have hb' : b < s.heap.objs.size := by
        have e' : b = e ∨ b = it := by simpa using hb
        rcases e' with z | z
        · rw [z]; exact hel
        · rw [z]; exact hil
      rw [upd_ne (Nat.ne_of_lt hb')]
      exact (hf b hb).1
  done := by
    intro X hP hw hK hc i pins s σ H E I hf st hg
    subst hP hw hK
    obtain ⟨⟨old, he⟩, hit, hne, hai, hae, hle⟩ := st
    obtain ⟨hge, hq⟩ := hg
    have hi : i = xs.length := Nat.le_antisymm hle hge
    subst hi
    obtain ⟨its, rv, ht, hz⟩ := I.tuple hq
    have hls : its.toArray.size = xs.length := by have := rv.length; simp; omega
    obtain ⟨f0, f1, f2, f3, f4, f5⟩ := hf it (by simp)
    exact wpAny_pyNext_enum_endD (Draws.tuple (A := X.A.in1) (I.ok.hd hc) it a hai its.toArray) he (by rw [hls]; exact ⟨hit, ht⟩) fun h' eb => ⟨rfl, I.turned (t' := s.toks) (fun b o hb q => eb b o hb q) f0 f1 f3 f4 f5⟩
  self := fun A i s Q E st h => let ⟨⟨_, he⟩, _⟩ := st; wpAny_pyIter_enum he h
def iEnumT (K : PySem.W.Frag) (ta : TA) : TI := fun σ H R => ta σ H fun vs H1 => ∃ a xs, vs = [.ref a] ∧ SqT K H1 a xs ∧ R (ItET K a xs) H1
theorem pi_enumT {X : Cx} {e : Expr} {ta : TA} {p pos tpos : Pos} {elts : List Expr} {kk : Nat} (hg : Gl X "enumerate") (hm : X.mg "enumerate" = none) (ha : PA X [e] ta) (hs : starEach [e] X.env = [(false, eval e X.env)] := by rfl) :
    PI X (.Tuple elts kk tpos) (.Call (.Name "enumerate" p) [e] [] pos) (iEnumT X.K ta) := by
  refine ⟨fun pins s σ H R I h => ?_⟩
  refine Call_ (ld_blt I hg hm boot_enumerate (PyProof.Rows.callWith_type1 (thn (ha.run pos pins s σ H _ I h) fun us s1 ⟨vs, H1, I1, r1, q1⟩ => ?_) hs rfl))
  obtain ⟨a, xs, ex, hq, q⟩ := q1
  subst ex
  cases r1 with
  | cons r rr =>
    cases rr
    cases r
    obtain ⟨its, rv, ht, hz⟩ := I1.tuple hq
    have hal : a < s1.heap.objs.size := by obtain ⟨o, ho, _⟩ := ht; exact Heap.lt_size ho
    refine call_enumT ht fun h' he hit hk => wpAny_pyIter_enum he ?_
    have I2 : Inv X pins σ H1 { s1 with heap := h' } := I1.kept (t' := s1.toks) hk
    refine ⟨s1.heap.objs.size + 1, [s1.heap.objs.size + 1, s1.heap.objs.size], _, _, H1, rfl, I2, turn_enumT a (s1.heap.objs.size + 1) s1.heap.objs.size xs, ⟨⟨.none, he⟩, hit, Nat.succ_ne_self _, Nat.ne_of_lt hal, Nat.ne_of_lt (Nat.lt_succ_of_lt hal), Nat.zero_le _⟩, fun b hb => ?_, q⟩
    have e' : b = s1.heap.objs.size + 1 ∨ b = s1.heap.objs.size := by simpa using hb
    have hle : s1.heap.objs.size ≤ b := by
      rcases e' with z | z
      · rw [z]; exact Nat.le_add_right _ _
      · rw [z]; exact Nat.le_refl _
    exact I1.fpOk hle (I1.hok.fresh hle)
end L2

set_option Elab.async false
set_option linter.all false
set_option maxRecDepth 100000
set_option maxHeartbeats 2000000
/-! The J layer, part E: enumerate and zip of texts; join; lists as cells; ranges as lists; raise. -/
namespace L2
open PySem PySem.Spec PyProof.Rows
/-- the signs of x, each in a new pair with its place -/
def ItES (x : Str) : It :=
  ⟨fun i _ => i < x.cps.size, fun i H v H' => ∃ T c, v = .ref T ∧ H T = none ∧ H' = upd H T (.tup [.int (i : Nat), .str ⟨#[c]⟩]) ∧ x.cps[i]? = some c, fun i _ => x.cps.size ≤ i⟩
theorem draws_text {prog : Program} {w : World} {A : Around} (hh : A.handled = none) (it : Addr) (x : Str) (t : Tok) :
    Draws prog w A it [it] x.cps.size (fun i v => ∃ c u, x.cps[i]? = some c ∧ v = .str ⟨#[c]⟩ u) (fun i h => h.IsStrIter it (strIterType x) x t i) := by
  unfold strIterType
  split
  · exact Draws.strAscii hh it x t
  · exact Draws.strWide hh it x t
theorem turn_enumS {P : Program} {w : World} {K : PySem.W.Frag} {elts : List Expr} {kk : Nat} {tpos : Pos} (x : Str) (t : Tok) (e it : Addr) :
    Turn P w K (.Tuple elts kk tpos) (ItES x) [e, it] e (fun i h => (∃ old, IsEnum h e it ((i : Nat) : Int) old) ∧ h.IsStrIter it (strIterType x) x t i ∧ e ≠ it ∧ i ≤ x.cps.size) where
  mem := by simp
  obj := fun i h st b hb => by
    obtain ⟨⟨old, he⟩, ⟨o, ho, hc, hd⟩, _⟩ := st
    have e' : b = e ∨ b = it := by simpa using hb
    rcases e' with z | z
    · rw [z]; exact ⟨_, he, fun v q => nomatch q⟩
    · rw [z]; exact ⟨o, ho, fun v q => by rw [hd] at q; cases q⟩
  keep := fun i h h' st k => let ⟨⟨old, he⟩, ⟨o, ho, r⟩, hne⟩ := st; ⟨⟨old, k e (by simp) _ he⟩, ⟨o, k it (by simp) o ho, r⟩, hne⟩
  item := by
    intro X hP hw hK hc i pins s σ H E I hf st hg
    subst hP hw hK
    obtain ⟨⟨old, he⟩, hit, hne, hle⟩ := st
    have hel : e < s.heap.objs.size := Heap.lt_size he
    have hil : it < s.heap.objs.size := by obtain ⟨_, q, _⟩ := hit; exact Heap.lt_size q
    have hlt : i < x.cps.size := hg
    refine wpAny_pyNext_enum_itemD (draws_text (A := X.A.in1) (I.ok.hd hc) it x t) he hit hlt hne (by simpa using hne) fun u h' tk hu ho hit' hT hsz hk => ?_
    obtain ⟨c, uu, hc1, rfl⟩ := hu
    refine ⟨_, rfl, wpAny_letOwnedTupleGo_enum (s := { s with heap := h', toks := tk + 1 }) ho fun h'' he' sb => ?_⟩
    have hT2 : h''.get? s.heap.objs.size = some { cls := .type "tuple", data := .seq #[.int i tk, .str ⟨#[c]⟩ uu] } := (sb.2 _ (Nat.ne_of_gt hel)).trans hT
    have new : ObjOk X.prog X.w (upd H s.heap.objs.size (.tup [.int (i : Nat), .str ⟨#[c]⟩])) h'' s.heap.objs.size (.tup [.int (i : Nat), .str ⟨#[c]⟩]) :=
      ⟨by show 2 ≤ sizeLine; decide, [.int i tk, .str ⟨#[c]⟩ uu], .cons ⟨_, rfl⟩ (.cons ⟨_, rfl⟩ .nil), ⟨_, hT2, rfl, _, rfl⟩⟩
    have I1 : Inv X pins σ (upd H s.heap.objs.size (.tup [.int (i : Nat), .str ⟨#[c]⟩])) { s with heap := h'', toks := tk + 1 } :=
      I.turnedNew (ch := [e, it]) (fun b ob hb q => (sb.2 b (fun z => hb (by simp [z]))).trans (hk b ob (fun z => hb (by simp [z])) (fun z => hb (by simp [z])) q)) hf (Nat.le_refl _) new
    refine ⟨.ref s.heap.objs.size, _, I1, rfl, ⟨_, c, rfl, I.hok.fresh (Nat.le_refl _), rfl, hc1⟩, ⟨⟨.str ⟨#[c]⟩ uu, ?_⟩, ?_, hne, hlt⟩, fun b hb => ?_⟩
    · have e1 : ((i + 1 : Nat) : Int) = (i : Int) + 1 := by omega
      rw [e1]; exact he'
    · obtain ⟨o, ho', r⟩ := hit'
      exact ⟨o, (sb.2 it (Ne.symm hne)).trans ho', r⟩
    · have hb' : b < s.heap.objs.size := by
        have e' : b = e ∨ b = it := by simpa using hb
        rcases e' with z | z
        · rw [z]; exact hel
        · rw [z]; exact hil
      rw [upd_ne (Nat.ne_of_lt hb')]
      exact (hf b hb).1
  done := by
    intro X hP hw hK hc i pins s σ H E I hf st hg
    subst hP hw hK
    obtain ⟨⟨old, he⟩, hit, hne, hle⟩ := st
    have hi : i = x.cps.size := Nat.le_antisymm hle hg
    subst hi
    obtain ⟨f0, f1, f2, f3, f4, f5⟩ := hf it (by simp)
    exact wpAny_pyNext_enum_endD (draws_text (A := X.A.in1) (I.ok.hd hc) it x t) he hit fun h' eb => ⟨rfl, I.turned (t' := s.toks) (fun b o hb q => eb b o hb q) f0 f1 f3 f4 f5⟩
  self := fun A i s Q E st h => let ⟨⟨_, he⟩, _⟩ := st; wpAny_pyIter_enum he h
def iEnumS (ta : TA) : TI := fun σ H R => ta σ H fun vs H1 => ∃ x, vs = [.str x] ∧ R (ItES x) H1
theorem pi_enumS {X : Cx} {e : Expr} {ta : TA} {p pos tpos : Pos} {elts : List Expr} {kk : Nat} (hg : Gl X "enumerate") (hm : X.mg "enumerate" = none) (ha : PA X [e] ta) (hs : starEach [e] X.env = [(false, eval e X.env)] := by rfl) :
    PI X (.Tuple elts kk tpos) (.Call (.Name "enumerate" p) [e] [] pos) (iEnumS ta) := by
  refine ⟨fun pins s σ H R I h => ?_⟩
  refine Call_ (ld_blt I hg hm boot_enumerate (PyProof.Rows.callWith_type1 (thn (ha.run pos pins s σ H _ I h) fun us s1 ⟨vs, H1, I1, r1, q1⟩ => ?_) hs rfl))
  obtain ⟨x, ex, q⟩ := q1
  subst ex
  cases r1 with
  | cons r rr =>
    cases rr
    obtain ⟨t, rfl⟩ := r
    refine call_enumerate_str fun h' he hit hsz hk => wpAny_pyIter_enum he ?_
    have I2 : Inv X pins σ H1 { s1 with heap := h' } := I1.kept (t' := s1.toks) hk
    refine ⟨s1.heap.objs.size + 1, [s1.heap.objs.size + 1, s1.heap.objs.size], _, _, H1, rfl, I2, turn_enumS x t (s1.heap.objs.size + 1) s1.heap.objs.size, ⟨⟨.none, he⟩, hit, Nat.succ_ne_self _, Nat.zero_le _⟩, fun b hb => ?_, q⟩
    have e' : b = s1.heap.objs.size + 1 ∨ b = s1.heap.objs.size := by simpa using hb
    have hle : s1.heap.objs.size ≤ b := by
      rcases e' with z | z
      · rw [z]; exact Nat.le_add_right _ _
      · rw [z]; exact Nat.le_refl _
    exact I1.fpOk hle (I1.hok.fresh hle)
/-- two texts sign by sign, in new pairs -/
def ItZS (x y : Str) : It :=
  ⟨fun i _ => i < min x.cps.size y.cps.size, fun i H v H' => ∃ T c d, v = .ref T ∧ H T = none ∧ H' = upd H T (.tup [.str ⟨#[c]⟩, .str ⟨#[d]⟩]) ∧ x.cps[i]? = some c ∧ y.cps[i]? = some d, fun i _ => min x.cps.size y.cps.size ≤ i⟩
theorem turn_zipS {P : Program} {w : World} {K : PySem.W.Frag} {elts : List Expr} {kk : Nat} {tpos : Pos} (x y : Str) (t u : Tok) {z TI TO i1 i2 : Addr} (S : ZipSep2 z TI TO i1 i2 [i1] [i2]) :
    Turn P w K (.Tuple elts kk tpos) (ItZS x y) [z, TI, TO, i1, i2] z (fun i h => IsZip h z TI TO .none ∧ IsTupOf2 h TI (.ref i1) (.ref i2) ∧ (∃ a b, IsTupOf2 h TO a b) ∧ h.IsStrIter i1 (strIterType x) x t i ∧ h.IsStrIter i2 (strIterType y) y u i ∧ i ≤ min x.cps.size y.cps.size) where
  mem := by simp
  obj := fun i h st c hc => by
    obtain ⟨hz, hTI, ⟨a, b, hTO⟩, ⟨o1, e1, _, d1⟩, ⟨o2, e2, _, d2⟩, _⟩ := st
    have e' : c = z ∨ c = TI ∨ c = TO ∨ c = i1 ∨ c = i2 := by simpa using hc
    rcases e' with q | q | q | q | q
    · rw [q]; exact ⟨_, hz, fun v q => nomatch q⟩
    · rw [q]; exact ⟨_, hTI, fun v q => nomatch q⟩
    · rw [q]; exact ⟨_, hTO, fun v q => nomatch q⟩
    · rw [q]; exact ⟨o1, e1, fun v q => by rw [d1] at q; cases q⟩
    · rw [q]; exact ⟨o2, e2, fun v q => by rw [d2] at q; cases q⟩
  keep := fun i h h' st k => by
    obtain ⟨hz, hTI, ⟨a, b, hTO⟩, ⟨o1, e1, r1⟩, ⟨o2, e2, r2⟩, hl⟩ := st
    exact ⟨k z (by simp) _ hz, k TI (by simp) _ hTI, ⟨a, b, k TO (by simp) _ hTO⟩, ⟨o1, k i1 (by simp) _ e1, r1⟩, ⟨o2, k i2 (by simp) _ e2, r2⟩, hl⟩
  item := by
    intro X hP hw hK hc i pins s σ H E I hf st hg
    subst hP hw hK
    obtain ⟨hz, hTI, ⟨a0, b0, hTO⟩, h1, h2, hle⟩ := st
    have hlt : i < min x.cps.size y.cps.size := hg
    have hzl : z < s.heap.objs.size := Heap.lt_size hz
    refine wpAny_pyNext_zipD2_item S (draws_text (A := X.A.in1) (I.ok.hd hc) i1 x t) (draws_text (A := X.A.in1) (I.ok.hd hc) i2 y u) hz hTI hTO h1 h2 (by omega) (by omega) fun x1 x2 h' tk p1 p2 z' TO' h1' h2' hT hsz hk => ?_
    obtain ⟨c, cu, hc1, rfl⟩ := p1
    obtain ⟨d, du, hd1, rfl⟩ := p2
    refine ⟨_, rfl, wpAny_letOwnedTupleGo_zip (s := { s with heap := h', toks := tk }) z' fun h'' z'' sb => ?_⟩
    have hT2 : h''.get? s.heap.objs.size = some { cls := .type "tuple", data := .seq #[.str ⟨#[c]⟩ cu, .str ⟨#[d]⟩ du] } := (sb.2 _ (Nat.ne_of_gt hzl)).trans hT
    have new : ObjOk X.prog X.w (upd H s.heap.objs.size (.tup [.str ⟨#[c]⟩, .str ⟨#[d]⟩])) h'' s.heap.objs.size (.tup [.str ⟨#[c]⟩, .str ⟨#[d]⟩]) :=
      ⟨by show 2 ≤ sizeLine; decide, [.str ⟨#[c]⟩ cu, .str ⟨#[d]⟩ du], .cons ⟨_, rfl⟩ (.cons ⟨_, rfl⟩ .nil), ⟨_, hT2, rfl, _, rfl⟩⟩
    have I1 : Inv X pins σ (upd H s.heap.objs.size (.tup [.str ⟨#[c]⟩, .str ⟨#[d]⟩])) { s with heap := h'', toks := tk } :=
      I.turnedNew (t' := tk) (ch := [z, TI, TO, i1, i2]) (fun c o hb q => (sb.2 c (fun q' => hb (by simp [q']))).trans (hk c o (fun q' => hb (by simp [q'])) (fun q' => hb (by simp [q'])) (fun q' => hb (by simp [q'])) (fun q' => hb (by simp [q'])) q)) hf (Nat.le_refl _) new
    refine ⟨.ref s.heap.objs.size, _, I1, rfl, ⟨_, c, d, rfl, I.hok.fresh (Nat.le_refl _), rfl, hc1, hd1⟩, ⟨z'', ?_, ⟨.str ⟨#[c]⟩ cu, .str ⟨#[d]⟩ du, ?_⟩, ?_, ?_, by omega⟩, fun c hcm => ?_⟩
    · exact (sb.2 _ S.TIz).trans (hk _ _ S.TIz S.TITO S.TIi1 S.TIi2 hTI)
    · exact (sb.2 _ S.TOz).trans TO'
    · obtain ⟨o, ho, r⟩ := h1'
      exact ⟨o, (sb.2 _ (Ne.symm S.zi1)).trans ho, r⟩
    · obtain ⟨o, ho, r⟩ := h2'
      exact ⟨o, (sb.2 _ (Ne.symm S.zi2)).trans ho, r⟩
    · have hlt : c < s.heap.objs.size := by
        have e' : c = z ∨ c = TI ∨ c = TO ∨ c = i1 ∨ c = i2 := by simpa using hcm
        rcases e' with q | q | q | q | q
        · rw [q]; exact hzl
        · rw [q]; exact Heap.lt_size hTI
        · rw [q]; exact Heap.lt_size hTO
        · rw [q]; obtain ⟨_, e1, _⟩ := h1; exact Heap.lt_size e1
        · rw [q]; obtain ⟨_, e2, _⟩ := h2; exact Heap.lt_size e2
      rw [upd_ne (Nat.ne_of_lt hlt)]
      exact (hf c hcm).1
  done := by
    intro X hP hw hK hc i pins s σ H E I hf st hg
    subst hP hw hK
    obtain ⟨hz, hTI, ⟨a0, b0, hTO⟩, h1, h2, hle⟩ := st
    have hg : min x.cps.size y.cps.size ≤ i := hg
    exact wpAny_pyNext_zipD2_end S (draws_text (A := X.A.in1) (I.ok.hd hc) i1 x t) (draws_text (A := X.A.in1) (I.ok.hd hc) i2 y u) hz hTI hTO h1 h2 (by omega) (by omega) (by omega) fun h' tk hk => ⟨rfl, I.turnedL (t' := tk) (ch := [z, TI, TO, i1, i2]) (fun c o hb q =>
      hk c o (fun q' => hb (by simp [q'])) (fun q' => hb (by simp [q'])) (fun q' => hb (by simp [q'])) (fun q' => hb (by simp [q'])) q) hf⟩
  self := fun A i s Q E st h => wpAny_pyIter_zip st.1 h
def iZipS (ta : TA) : TI := fun σ H R => ta σ H fun vs H1 => ∃ x y, vs = [.str x, .str y] ∧ R (ItZS x y) H1
theorem pi_zipS {X : Cx} {e e2 : Expr} {ta : TA} {p pos tpos : Pos} {elts : List Expr} {kk : Nat} (hg : Gl X "zip") (hm : X.mg "zip" = none) (ha : PA X [e, e2] ta)
    (hs : starEach [e, e2] X.env = (false, eval e X.env) :: starEach [e2] X.env := by rfl) (hpl : (backTo pos (starEach [e2] X.env)).any (·.1) = false := by rfl) :
    PI X (.Tuple elts kk tpos) (.Call (.Name "zip" p) [e, e2] [] pos) (iZipS ta) := by
  refine ⟨fun pins s σ H R I h => ?_⟩
  refine Call_ (ld_blt I hg hm PyProof.Rows.boot_zip (PyProof.Rows.callWith_type1 (thn (ha.run pos pins s σ H _ I h) fun us s1 ⟨vs, H1, I1, r1, q1⟩ => ?_) hs hpl))
  obtain ⟨x, y, ex, q⟩ := q1
  subst ex
  cases r1 with
  | cons r rr =>
    cases rr with
    | cons r' rr =>
      cases rr
      obtain ⟨t, rfl⟩ := r
      obtain ⟨u, rfl⟩ := r'
      refine zip_begins2 (begins_text x t) (begins_text y u) trivial trivial fun h' hz hTI hTO h1 h2 hsz hk => wpAny_pyIter_zip hz ?_
      have I2 : Inv X pins σ H1 { s1 with heap := h' } := I1.kept (t' := s1.toks) hk
      refine ⟨s1.heap.objs.size + 4, [s1.heap.objs.size + 4, s1.heap.objs.size + 2, s1.heap.objs.size + 3, s1.heap.objs.size, s1.heap.objs.size + 1], _, _, H1, rfl, I2, turn_zipS x y t u (zip_sep2 (fp1 := []) (fp2 := []) (by simp) (by simp)), ⟨hz, hTI, ⟨_, _, hTO⟩, ⟨_, h1, rfl, rfl⟩, ⟨_, h2, rfl, rfl⟩, Nat.zero_le _⟩, fun c hcm => ?_, q⟩
      have e' : c = s1.heap.objs.size + 4 ∨ c = s1.heap.objs.size + 2 ∨ c = s1.heap.objs.size + 3 ∨ c = s1.heap.objs.size ∨ c = s1.heap.objs.size + 1 := by simpa using hcm
      have hle : s1.heap.objs.size ≤ c := by
        rcases e' with z | z | z | z | z
        · rw [z]; exact Nat.le_add_right _ _
        · rw [z]; exact Nat.le_add_right _ _
        · rw [z]; exact Nat.le_add_right _ _
        · rw [z]; exact Nat.le_refl _
        · rw [z]; exact Nat.le_add_right _ _
      exact I1.fpOk hle (I1.hok.fresh hle)
end L2

namespace Ib
open PySem PySem.Spec PyProof.Rows L2
section
variable {X : Cx} {W : WX} {ga : SEnv → Cells → Out (List D)} {p pos tpos : Pos} {e e2 : Expr} {elts : List Expr} {kk : Nat}
def enumL (xs : List D) : List D := xs.zipIdx.map fun q => .tup [.int (q.2 : Nat), q.1]
/-- enumerate(x): a list (a tree or a cell), a text -/
def srcEnum (ce : Cells) : List D → Option Src
  | [d] => match look ce d with
    | .lst xs => some ⟨xs.length, fun ce => match look ce d with
      | .lst ys => some (enumL ys)
      | _ => none⟩
    | .str x => some (srcC (enumL (x.map fun c => .str [c])))
    | .tup xs => some (srcC (enumL xs))
    | _ => none
  | _ => none
def zipL (xs ys : List D) : List D := List.zipWith (fun a b => .tup [a, b]) xs ys
def srcZip (ce : Cells) : List D → Option Src
  | [d, e] => match look ce d, look ce e with
    | .lst xs, .lst ys => some ⟨min xs.length ys.length, fun ce => match look ce d, look ce e with
      | .lst xs', .lst ys' => if xs'.length = xs.length ∧ ys'.length = ys.length then some (zipL xs' ys') else none
      | _, _ => none⟩
    | .str x, .str y => some (srcC (zipL (x.map fun c => .str [c]) (y.map fun c => .str [c])))
    | _, _ => none
  | _ => none
def eSrcC (f : Cells → List D → Option Src) (ga : SEnv → Cells → Out (List D)) : SEnv → Cells → Out Src := fun sl ce => (ga sl ce).bind fun xs ce1 => match f ce1 xs with
  | some s => .ok s ce1
  | none => .bad
theorem PI.or2 {tg e : Expr} {t1 t2 : TI} (h1 : PI X tg e t1) (h2 : PI X tg e t2) : PI X tg e (fun σ H R => t1 σ H R ∨ t2 σ H R) :=
  ⟨fun pins s σ H R I h => h.elim (h1.run pins s σ H R I) (h2.run pins s σ H R I)⟩
theorem enumL_get {xs : List D} {i : Nat} : (enumL xs)[i]? = xs[i]?.map fun d => .tup [.int (i : Nat), d] := by
  unfold enumL
  rw [List.getElem?_map, List.getElem?_zipIdx]
  cases xs[i]? <;> simp
theorem ji_enum (hg : Gl X "enumerate") (hm : X.mg "enumerate" = none) (ha : JA X W [e] ga) (hs : starEach [e] X.env = [(false, eval e X.env)]) : JI X W (.Tuple elts kk tpos) (.Call (.Name "enumerate" p) [e] [] pos) (eSrcC srcEnum ga) := by
  refine PI.weak (PI.or2 (PI.or2 (pi_enum hg hm ha hs) (pi_enumS hg hm ha hs)) (pi_enumT hg hm ha hs)) fun σ H R h => ?_
  obtain ⟨τ, O, sl, ce, w, s, h⟩ := h
  have h := PostG.bind h
  cases q : ga sl ce with
  | bad => rw [q] at h; exact h.elim
  | ex x ce1 => rw [q] at h; exact .inl (.inl ⟨τ, O, sl, ce, w, s, by rw [q]; exact h⟩)
  | ok ds ce1 =>
    rw [q] at h
    have mk : ∀ Q', (∀ τ1 O1 H1 vs, Ext τ O H τ1 O1 H1 → WFh (cfg X) τ1 O1 ce1 H1 → Reps (cfg X) τ1 O1 H1 ds vs → Q' vs H1) → tA (cfg X) W ga σ H Q' := fun Q' hq => ⟨τ, O, sl, ce, w, s, by
      rw [q]
      exact fun τ1 O1 H1 e1 w1 v r => hq τ1 O1 H1 v e1 w1 r⟩
    have bad : srcEnum ce1 ds = none → tA (cfg X) W ga σ H (fun vs H1 => ∃ a xs, vs = [.ref a] ∧ SqL X.K H1 a xs ∧ R (Ite X.K a) H1) := fun n => mk _ fun τ1 O1 H1 v e1 w1 r => by
      have h1 := h τ1 O1 H1 e1 w1
      simp only [n] at h1
      exact h1.elim
    match ds, bad, h, mk, q with
    | [], bad, _, _, _ => exact .inl (.inl (bad rfl))
    | _ :: _ :: _, bad, _, _, _ => exact .inl (.inl (bad rfl))
    | [d], bad, h, mk, q =>
      cases hk : look ce1 d with
      | lst xs =>
        refine .inl (.inl (mk _ fun τ1 O1 H1 vs e1 w1 r => ?_))
        obtain ⟨v, _, rfl, r, rfl⟩ := r
        have h1 := h τ1 O1 H1 e1 w1
        simp only [srcEnum, hk] at h1
        have rv := r.view w1
        rw [hk] at rv
        obtain ⟨p, ws, rfl, h2, h3⟩ := rv.lst
        refine ⟨p, ws, rfl, h2, h1.done w1 _ ?_⟩
        intro τ2 O2 ce2 H2 zs e2 w2 hi hl
        have rv2 := (r.ext e2).view w2
        simp only at hi
        split at hi
        · rename_i ys hy
          cases hi
          rw [hy] at rv2
          obtain ⟨p', us, ep, h4, h5⟩ := rv2.lst
          cases ep
          have hl' : ys.length = xs.length := by simpa [enumL] using hl
          have hu := h5.length
          have h4' : SqL X.K H2 p us := h4
          refine ⟨fun i hi => ⟨us, us[i]'(by have : i < xs.length := hi; omega), h4', by simp⟩, ⟨us, h4', by show us.length ≤ xs.length; omega⟩, fun i v H' hi y => ?_⟩
          obtain ⟨T, x, rfl, hT, rfl, hx⟩ := y
          obtain ⟨d', e3, e4⟩ := h5.getV (hx us h4')
          have sm := same_upd (o := .tup [.int (i : Nat), x]) hT
          have ext : Ext τ2 O2 H2 τ2 O2 (upd H2 T (.tup [.int (i : Nat), x])) := .same sm
          refine ⟨.tup [.int (i : Nat), d'], by rw [enumL_get, e3]; rfl, sm, repT_tup.mpr ⟨T, _, rfl, ⟨fun z => w2.trk T z hT, upd_same⟩, repTs_cons.mpr ⟨_, _, rfl, repT_int.mpr rfl, RepTs.one (e4.ext ext)⟩⟩⟩
        · cases hi
      | str x =>
        refine .inl (.inr (mk _ fun τ1 O1 H1 vs e1 w1 r => ?_))
        obtain ⟨v, _, rfl, r, rfl⟩ := r
        have h1 := h τ1 O1 H1 e1 w1
        simp only [srcEnum, hk] at h1
        have rv := r.view w1
        rw [hk] at rv
        have rs := rv.str
        refine ⟨⟨x.toArray⟩, by rw [rs.1], h1.done w1 _ ?_⟩
        intro τ2 O2 ce2 H2 zs e2 w2 hi hl
        cases hi
        refine ⟨fun i hi => by simpa [srcC, ItES, enumL] using hi, by simp [ItES, srcC, enumL], fun i v H' hi y => ?_⟩
        obtain ⟨T, c, rfl, hT, rfl, hc⟩ := y
        have hc : x[i]? = some c := by simpa using hc
        have sm := same_upd (o := .tup [.int (i : Nat), .str ⟨#[c]⟩]) hT
        have ext : Ext τ2 O2 H2 τ2 O2 (upd H2 T (.tup [.int (i : Nat), .str ⟨#[c]⟩])) := .same sm
        refine ⟨.tup [.int (i : Nat), .str [c]], by rw [enumL_get, List.getElem?_map, hc]; rfl, sm, repT_tup.mpr ⟨T, _, rfl, ⟨fun z => w2.trk T z hT, upd_same⟩, repTs_cons.mpr ⟨_, _, rfl, repT_int.mpr rfl, RepTs.one (repT_str.mpr ⟨rfl, by simp, fun k hk => ?_⟩)⟩⟩⟩
        have e : k = c := by simpa using hk
        rw [e]
        exact rs.2.2 c (List.mem_of_getElem? hc)
      | non => exact .inl (.inl (bad (by simp [srcEnum, hk])))
      | bl _ => exact .inl (.inl (bad (by simp [srcEnum, hk])))
      | int _ => exact .inl (.inl (bad (by simp [srcEnum, hk])))
      | ty _ => exact .inl (.inl (bad (by simp [srcEnum, hk])))
      | gl _ => exact .inl (.inl (bad (by simp [srcEnum, hk])))
      | tup xs =>
        refine .inr (mk _ fun τ1 O1 H1 vs e1 w1 r => ?_)
        obtain ⟨v, _, rfl, r, rfl⟩ := r
        have h1 := h τ1 O1 H1 e1 w1
        simp only [srcEnum, hk] at h1
        have rv := r.view w1
        rw [hk] at rv
        obtain ⟨p, ws, rfl, h2, h3⟩ := rv.tup
        refine ⟨p, ws, rfl, h2.sq, h1.done w1 _ ?_⟩
        intro τ2 O2 ce2 H2 zs e2 w2 hi hl
        cases hi
        have h4 := (h2.ext e2).sq
        have hu := h3.length
        have hz : (enumL xs).length = xs.length := by simp [enumL]
        refine ⟨fun i hi => ⟨by have : i < (enumL xs).length := hi; omega, h4⟩, ⟨by show ws.length ≤ (enumL xs).length; omega, h4⟩, fun i v H' hi y => ?_⟩
        obtain ⟨T, x, rfl, hT, rfl, hx⟩ := y
        obtain ⟨d', e3, e4⟩ := h3.getV hx
        have sm := same_upd (o := .tup [.int (i : Nat), x]) hT
        have ext : Ext τ2 O2 H2 τ2 O2 (upd H2 T (.tup [.int (i : Nat), x])) := .same sm
        refine ⟨.tup [.int (i : Nat), d'], by rw [enumL_get, e3]; rfl, sm, repT_tup.mpr ⟨T, _, rfl, ⟨fun z => w2.trk T z hT, upd_same⟩, repTs_cons.mpr ⟨_, _, rfl, repT_int.mpr rfl, RepTs.one ((e4.ext e2).ext ext)⟩⟩⟩
      | dk _ _ => exact .inl (.inl (bad (by simp [srcEnum, hk])))
      | dt _ _ => exact .inl (.inl (bad (by simp [srcEnum, hk])))
      | st _ => exact .inl (.inl (bad (by simp [srcEnum, hk])))
      | adr _ => exact .inl (.inl (bad (by simp [srcEnum, hk])))
      | tn _ => exact .inl (.inl (bad (by simp [srcEnum, hk])))
      | cel _ => exact .inl (.inl (bad (by simp [srcEnum, hk])))
theorem zipL_get {xs ys : List D} {i : Nat} {a b : D} (h1 : xs[i]? = some a) (h2 : ys[i]? = some b) : (zipL xs ys)[i]? = some (.tup [a, b]) := by
  unfold zipL
  rw [List.getElem?_zipWith, h1, h2]
theorem ji_zip (hg : Gl X "zip") (hm : X.mg "zip" = none) (ha : JA X W [e, e2] ga) (hs : starEach [e, e2] X.env = (false, eval e X.env) :: starEach [e2] X.env) (hpl : (backTo pos (starEach [e2] X.env)).any (·.1) = false) :
    JI X W (.Tuple elts kk tpos) (.Call (.Name "zip" p) [e, e2] [] pos) (eSrcC srcZip ga) := by
  refine PI.weak (PI.or2 (pi_zip hg hm ha hs hpl) (pi_zipS hg hm ha hs hpl)) fun σ H R h => ?_
  obtain ⟨τ, O, sl, ce, w, s, h⟩ := h
  have h := PostG.bind h
  cases q : ga sl ce with
  | bad => rw [q] at h; exact h.elim
  | ex x ce1 => rw [q] at h; exact .inl ⟨τ, O, sl, ce, w, s, by rw [q]; exact h⟩
  | ok ds ce1 =>
    rw [q] at h
    have mk : ∀ Q', (∀ τ1 O1 H1 vs, Ext τ O H τ1 O1 H1 → WFh (cfg X) τ1 O1 ce1 H1 → Reps (cfg X) τ1 O1 H1 ds vs → Q' vs H1) → tA (cfg X) W ga σ H Q' := fun Q' hq => ⟨τ, O, sl, ce, w, s, by
      rw [q]
      exact fun τ1 O1 H1 e1 w1 v r => hq τ1 O1 H1 v e1 w1 r⟩
    have bad : srcZip ce1 ds = none → tA (cfg X) W ga σ H (fun vs H1 => ∃ a b xs ys, vs = [.ref a, .ref b] ∧ SqL X.K H1 a xs ∧ SqL X.K H1 b ys ∧ R (Itz X.K a b) H1) := fun n => mk _ fun τ1 O1 H1 v e1 w1 r => by
      have h1 := h τ1 O1 H1 e1 w1
      simp only [n] at h1
      exact h1.elim
    match ds, bad, h, mk, q with
    | [], bad, _, _, _ => exact .inl (bad rfl)
    | [_], bad, _, _, _ => exact .inl (bad rfl)
    | _ :: _ :: _ :: _, bad, _, _, _ => exact .inl (bad rfl)
    | [d, e'], bad, h, mk, q =>
      by_cases hL : ∃ xs ys, look ce1 d = .lst xs ∧ look ce1 e' = .lst ys
      · obtain ⟨xs, ys, hk1, hk2⟩ := hL
        refine .inl (mk _ fun τ1 O1 H1 vs e1 w1 r => ?_)
        obtain ⟨v, _, rfl, r1, v2, _, rfl, r2, rfl⟩ := r
        have h1 := h τ1 O1 H1 e1 w1
        simp only [srcZip, hk1, hk2] at h1
        have rv1 := r1.view w1
        have rv2 := r2.view w1
        rw [hk1] at rv1
        rw [hk2] at rv2
        obtain ⟨p1, ws1, rfl, a2, a3⟩ := rv1.lst
        obtain ⟨p2, ws2, rfl, b2, b3⟩ := rv2.lst
        refine ⟨p1, p2, ws1, ws2, rfl, a2, b2, h1.done w1 _ ?_⟩
        intro τ2 O2 ce2 H2 zs e2 w2 hi hl
        have rw1 := (r1.ext e2).view w2
        have rw2 := (r2.ext e2).view w2
        simp only at hi
        split at hi
        · rename_i xs' ys' hx' hy'
          split at hi
          · rename_i hle
            cases hi
            rw [hx'] at rw1
            rw [hy'] at rw2
            obtain ⟨q1, us1, ep1, c2, c3⟩ := rw1.lst
            obtain ⟨q2, us2, ep2, d2, d3⟩ := rw2.lst
            cases ep1
            cases ep2
            have l1 := c3.length
            have l2 := d3.length
            have k1 : SqL X.K H2 p1 us1 := c2
            have k2 : SqL X.K H2 p2 us2 := d2
            refine ⟨fun i hi => ⟨us1, us2, us1[i]'(by have : i < min xs.length ys.length := hi; omega), us2[i]'(by have : i < min xs.length ys.length := hi; omega), k1, k2, by simp, by simp⟩,
              ⟨us1, us2, k1, k2, by show us1.length ≤ min xs.length ys.length ∨ us2.length ≤ min xs.length ys.length; omega⟩, fun i v H' hi y => ?_⟩
            obtain ⟨T, x, y, rfl, hT, rfl, hx, hy⟩ := y
            obtain ⟨d1, e3, e4⟩ := c3.getV (hx us1 k1)
            obtain ⟨d4, e5, e6⟩ := d3.getV (hy us2 k2)
            have sm := same_upd (o := .tup [x, y]) hT
            have ext : Ext τ2 O2 H2 τ2 O2 (upd H2 T (.tup [x, y])) := .same sm
            exact ⟨.tup [d1, d4], zipL_get e3 e5, sm, repT_tup.mpr ⟨T, _, rfl, ⟨fun z => w2.trk T z hT, upd_same⟩, repTs_cons.mpr ⟨_, _, rfl, e4.ext ext, RepTs.one (e6.ext ext)⟩⟩⟩
          · cases hi
        · cases hi
      · by_cases hS : ∃ xs ys, look ce1 d = .str xs ∧ look ce1 e' = .str ys
        · obtain ⟨x, y, hk1, hk2⟩ := hS
          refine .inr (mk _ fun τ1 O1 H1 vs e1 w1 r => ?_)
          obtain ⟨v, _, rfl, r1, v2, _, rfl, r2, rfl⟩ := r
          have h1 := h τ1 O1 H1 e1 w1
          simp only [srcZip, hk1, hk2] at h1
          have rv1 := r1.view w1
          have rv2 := r2.view w1
          rw [hk1] at rv1
          rw [hk2] at rv2
          have s1 := rv1.str
          have s2 := rv2.str
          refine ⟨⟨x.toArray⟩, ⟨y.toArray⟩, by rw [s1.1, s2.1], h1.done w1 _ ?_⟩
          intro τ2 O2 ce2 H2 zs e2 w2 hi hl
          cases hi
          have hn : (srcC (zipL (x.map fun c => D.str [c]) (y.map fun c => D.str [c]))).n = min x.length y.length := by simp [srcC, zipL]
          rw [hn]
          refine ⟨fun i hi => by simpa [ItZS] using hi, by simp [ItZS], fun i v H' hi yy => ?_⟩
          obtain ⟨T, c, d', rfl, hT, rfl, hc, hd⟩ := yy
          have hc : x[i]? = some c := by simpa using hc
          have hd : y[i]? = some d' := by simpa using hd
          have sm := same_upd (o := .tup [.str ⟨#[c]⟩, .str ⟨#[d']⟩]) hT
          refine ⟨.tup [.str [c], .str [d']], zipL_get (by rw [List.getElem?_map, hc]; rfl) (by rw [List.getElem?_map, hd]; rfl), sm, repT_tup.mpr ⟨T, _, rfl, ⟨fun z => w2.trk T z hT, upd_same⟩, repTs_cons.mpr ⟨_, _, rfl, repT_str.mpr ⟨rfl, by simp, fun k hk => ?_⟩, RepTs.one (repT_str.mpr ⟨rfl, by simp, fun k hk => ?_⟩)⟩⟩⟩
          · have e : k = c := by simpa using hk
            rw [e]
            exact s1.2.2 c (List.mem_of_getElem? hc)
          · have e : k = d' := by simpa using hk
            rw [e]
            exact s2.2.2 d' (List.mem_of_getElem? hd)
        · refine .inl (bad ?_)
          unfold srcZip
          simp only
          split
          · rename_i xs ys h1 h2
            exact (hL ⟨xs, ys, h1, h2⟩).elim
          · rename_i xs ys h1 h2
            exact (hS ⟨xs, ys, h1, h2⟩).elim
          · rfl

/-! ### join -/
theorem joinL_flat (a x : List Nat) : ∀ ys : List (List Nat), joinL a (x :: ys) = x ++ ys.flatMap fun y => a ++ y
  | [] => by simp [joinL]
  | y :: r => by
    show x ++ a ++ joinL a (y :: r) = _
    rw [joinL_flat a y r]
    simp
theorem glued_fold (a : List Nat) : ∀ (ys : List (List Nat)) (acc : List Nat), ((ys.map toStr).foldl (fun (acc : Array Nat) p => acc ++ (toStr a).cps ++ p.cps) acc.toArray) = (acc ++ ys.flatMap fun y => a ++ y).toArray
  | [], acc => by simp
  | y :: r, acc => by
    rw [List.map_cons, List.foldl_cons]
    have e : acc.toArray ++ (toStr a).cps ++ (toStr y).cps = (acc ++ a ++ y).toArray := by simp [toStr]
    rw [e, glued_fold a r]
    simp
theorem join_txt (a : List Nat) : ∀ ys : List (List Nat), PySem.Txt.join (toStr a) (ys.map toStr) = toStr (joinL a ys)
  | [] => rfl
  | x :: ys => by
    show (⟨(ys.map toStr).foldl (fun (acc : Array Nat) p => acc ++ (toStr a).cps ++ p.cps) (toStr x).cps⟩ : Str) = _
    have := glued_fold a ys x
    show (⟨(ys.map toStr).foldl (fun (acc : Array Nat) p => acc ++ (toStr a).cps ++ p.cps) x.toArray⟩ : Str) = _
    rw [this, joinL_flat]
    rfl
theorem mj_join : MtJ X "str.join" dJoin := by
  refine mj_intr mt_join fun H Q O dx ds d x vs trk r0 r1 e q => ?_
  unfold dJoin at e
  split at e
  · rename_i a xs
    cases h : asStrs xs with
    | none => rw [h] at e; cases e
    | some ys =>
      rw [h] at e
      simp only at e
      split at e
      · rename_i hl
        cases e
        obtain ⟨v, rfl, rv⟩ := r1.one
        obtain ⟨p, ws, rfl, h1, k⟩ := rv.lst
        rw [asStrs_eq h] at k
        refine ⟨_, p, ys.map toStr, r0.str.1, rfl, .inl ?_, ?_, q _ H (.refl _) (repT_str.mpr ⟨?_, Nat.le_trans (joinL_len a ys) hl, fun k' hk => ?_⟩)⟩
        · rw [List.map_map]
          have := k.strs
          rw [this] at h1
          exact h1
        · have e1 : (ys.map toStr).map (·.length) = ys.map (·.length) := by
            rw [List.map_map]
            refine List.map_congr_left fun z _ => ?_
            show Array.size _ = _
            simp [toStr]
          rw [e1]
          show _ + _ * (Array.size _) ≤ _
          simp
          omega
        · show V.str (PySem.Txt.join (toStr a) (ys.map toStr)) = _
          rw [join_txt]
          rfl
        · rcases joinL_mem a ys k' hk with h2 | ⟨z, h2, h3⟩
          · exact r0.str.2.2 k' h2
          · exact (k.okS z h2).2 k' h3
      · cases e
  · cases e

/-! ### lists as cells: append, pop, x[i] = e -/
/-- the cell that a value is -/
def eAppend (go : EDen) (ga : SEnv → Cells → Out (List D)) : EDen := fun sl ce => (go sl ce).bind fun x ce1 => if dTy "list" (look ce1 x) then (ga sl ce1).bind fun xs ce2 => match x, xs with
  | .cel k, [y] => match (frz ce2 y).2[k]? with
    | some (.lst acc) => if acc.length < 1000000 then .ok .non ((frz ce2 y).2.set k (.lst (acc ++ [(frz ce2 y).1]))) else .bad
    | _ => .bad
  | _, _ => .bad else .bad
def ePop (go : EDen) : EDen := fun sl ce => (go sl ce).bind fun x ce1 => match x with
  | .cel k => match ce1[k]? with
    | some (.lst xs) => match xs[xs.length - 1]? with
      | some d => .ok d (ce1.set k (.lst xs.dropLast))
      | none => .bad
    | _ => .bad
  | _ => .bad
def ePopAt (go : EDen) (ga : SEnv → Cells → Out (List D)) : EDen := fun sl ce => (go sl ce).bind fun x ce1 => if dTy "list" (look ce1 x) then (ga sl ce1).bind fun ys ce2 => match x, ys with
  | .cel k, [.int i] => match ce2[k]? with
    | some (.lst xs) => match ixN xs.length i with
      | some j => match xs[j]? with
        | some d => if xs.length ≤ 1000000 then .ok d (ce2.set k (.lst (xs.eraseIdx j))) else .bad
        | none => .bad
      | none => .bad
    | _ => .bad
  | _, _ => .bad else .bad
section
variable {o : Expr} {es : List Expr} {go : EDen} {name : Str} {apos cpos : Pos}
theorem je_append (ho : JE X W o go) (ha : JA X W (e :: es) ga) (hbase : attributeBase o "append" X.env (eval o X.env) = eval o X.env)
    (hfew : ((backTo cpos (starEach (e :: es) X.env)).all (fun x => !x.1) && (backToKw cpos (keywordEach [] X.env)).all (fun x => x.1.isSome)
      && decide ((e :: es).length + ([] : List Keyword).length + (if ([] : List Keyword).isEmpty then 0 else 1) < 30)) = true)
    (hline : (apos.endLine == cpos.line) = true) (hs : starEach (e :: es) X.env = (false, eval e X.env) :: starEach es X.env) (hplain : (backTo cpos (starEach es X.env)).any (·.1) = false) :
    JE X W (.Call (.Attribute o "append" apos) (e :: es) [] cpos) (eAppend go ga) := by
  refine PE.weak (pe_bm PySem.F.plainAttrs_list PySem.F.slot_list_append PySem.F.type_list_append mt_append ho ha hbase hfew hline hs hplain) fun σ H Q h => ?_
  obtain ⟨τ, O, sl, ce, w, s, h⟩ := h
  refine ⟨τ, O, sl, ce, w, s, (PostG.bind h).mono fun τ1 O1 ce1 H1 d e1 w1 h1 v r => ?_⟩
  split at h1
  · rename_i ht
    refine ⟨tyV_of (r.view w1) ht, τ1, O1, sl, ce1, w1, s.ext e1, (PostG.bind h1).mono fun τ2 O2 ce2 H2 xs e2 w2 h2 vs rs => ?_⟩
    replace r := r.ext e2
    split at h2
    · rename_i k y
      obtain ⟨a, hk, rfl⟩ := r
      obtain ⟨u, _, rfl, ru, rfl⟩ := rs
      obtain ⟨O3, e3, w3, r3⟩ := frz_ok w2 ru
      split at h2
      · rename_i acc hacc
        split at h2
        · rename_i hl
          obtain ⟨hO, us, hu, rus⟩ := w3.cell k a _ hk hacc
          have em : Ext τ2 O3 H2 τ2 O3 (upd H2 a (.lst (us ++ [u]))) := .mut hO
          refine ⟨a, us, u, rfl, rfl, hu, by rw [← rus.length]; exact Nat.lt_of_lt_of_le hl sz1, ?_⟩
          exact h2 τ2 O3 _ (e3.trans em) (w3.set hk hO (show CellOk (cfg X) O3 _ a (.lst (acc ++ [(frz ce2 y).1])) from ⟨hO, _, upd_same, (rus.ext em).append (RepTs.one (r3.ext em))⟩)) _ (RepT.rep (repT_non.mpr rfl))
        · exact h2.elim
      · exact h2.elim
    · exact h2.elim
  · exact h1.elim
theorem je_pop (ho : JE X W o go) (hbase : attributeBase o "pop" X.env (eval o X.env) = eval o X.env) (hline : (apos.endLine == cpos.line) = true) : JE X W (.Call (.Attribute o "pop" apos) [] [] cpos) (ePop go) := by
  refine PE.weak (pe_bm0 PySem.F.plainAttrs_list PySem.F.slot_list_pop PySem.F.type_list_pop mt_pop ho hbase hline) fun σ H Q h => ?_
  obtain ⟨τ, O, sl, ce, w, s, h⟩ := h
  refine ⟨τ, O, sl, ce, w, s, (PostG.bind h).mono fun τ1 O1 ce1 H1 d e1 w1 h1 v r => ?_⟩
  split at h1
  · rename_i k
    obtain ⟨a, hk, rfl⟩ := r
    split at h1
    · rename_i xs hx
      split at h1
      · rename_i d' hd
        obtain ⟨hO, us, hu, rus⟩ := w1.cell k a _ hk hx
        obtain ⟨y, hy, ry⟩ := rus.get hd
        have em : Ext τ1 O1 H1 τ1 O1 (upd H1 a (.lst us.dropLast)) := .mut hO
        refine ⟨.inl ⟨rfl, us, .of hu⟩, a, us, y, rfl, rfl, hu, by rw [← rus.length]; exact hy, ?_⟩
        have rd : RepTs (cfg X) O1 H1 xs.dropLast us.dropLast := by
          rw [List.dropLast_eq_take, List.dropLast_eq_take, rus.length]
          exact rus.take _
        exact h1 τ1 O1 _ em (w1.set hk hO (show CellOk (cfg X) O1 _ a (.lst xs.dropLast) from ⟨hO, _, upd_same, rd.ext em⟩)) _ (ry.ext em).rep
      · exact h1.elim
    · exact h1.elim
  · exact h1.elim
theorem je_popAt (ho : JE X W o go) (ha : JA X W (e :: es) ga) (hbase : attributeBase o "pop" X.env (eval o X.env) = eval o X.env)
    (hfew : ((backTo cpos (starEach (e :: es) X.env)).all (fun x => !x.1) && (backToKw cpos (keywordEach [] X.env)).all (fun x => x.1.isSome)
      && decide ((e :: es).length + ([] : List Keyword).length + (if ([] : List Keyword).isEmpty then 0 else 1) < 30)) = true)
    (hline : (apos.endLine == cpos.line) = true) (hs : starEach (e :: es) X.env = (false, eval e X.env) :: starEach es X.env) (hplain : (backTo cpos (starEach es X.env)).any (·.1) = false) :
    JE X W (.Call (.Attribute o "pop" apos) (e :: es) [] cpos) (ePopAt go ga) := by
  refine PE.weak (pe_bm PySem.F.plainAttrs_list PySem.F.slot_list_pop PySem.F.type_list_pop mt_popAt ho ha hbase hfew hline hs hplain) fun σ H Q h => ?_
  obtain ⟨τ, O, sl, ce, w, s, h⟩ := h
  refine ⟨τ, O, sl, ce, w, s, (PostG.bind h).mono fun τ1 O1 ce1 H1 d e1 w1 h1 v r => ?_⟩
  split at h1
  · rename_i ht
    refine ⟨tyV_of (r.view w1) ht, τ1, O1, sl, ce1, w1, s.ext e1, (PostG.bind h1).mono fun τ2 O2 ce2 H2 xs e2 w2 h2 vs rs => ?_⟩
    replace r := r.ext e2
    split at h2
    · rename_i k i
      obtain ⟨a, hk, rfl⟩ := r
      obtain ⟨u, _, rfl, ru, rfl⟩ := rs
      have eu := ru.toInt
      subst eu
      split at h2
      · rename_i acc hacc
        split at h2
        · rename_i j hj
          split at h2
          · rename_i d' hd
            split at h2
            · rename_i hle
              obtain ⟨hO, us, hu, rus⟩ := w2.cell k a _ hk hacc
              obtain ⟨y, hy, ry⟩ := rus.get hd
              have em : Ext τ2 O2 H2 τ2 O2 (upd H2 a (.lst (us.eraseIdx j))) := .mut hO
              rw [rus.length] at hj hle
              obtain ⟨g1, g2, g3, g4⟩ := ixN_seq hj
              refine ⟨a, us, i, j, y, rfl, rfl, hu, by omega, by omega, g1, hy, ?_⟩
              exact h2 τ2 O2 _ em (w2.set hk hO (show CellOk (cfg X) O2 _ a (.lst (acc.eraseIdx j)) from ⟨hO, _, upd_same, (rus.eraseIdx j).ext em⟩)) _ (ry.ext em).rep
            · exact h2.elim
          · exact h2.elim
        · exact h2.elim
      · exact h2.elim
    · exact h2.elim
  · exact h1.elim
end
/-- x[i] = e, x a cell -/
def sSetIx (go gi ge : EDen) : SDen := fun sl ce => (ge sl ce).st sl fun v ce1 => (go sl ce1).st sl fun x ce2 => (gi sl ce2).st sl fun i ce3 => match x, i with
  | .cel k, .int i => match (frz ce3 v).2[k]? with
    | some (.lst xs) => match ixN xs.length i with
      | some j => .nx sl ((frz ce3 v).2.set k (.lst (xs.set j (frz ce3 v).1)))
      | none => .bad
    | _ => .bad
  | _, _ => .bad
theorem js_setIx {o i e : Expr} {go gi ge : EDen} {p1 pos : Pos} (he : JE X W e ge) (ho : JE X W o go) (hi : JE X W i gi)
    (ha : ∀ v, assign (.Subscript o i p1) X.env v = (do
      let ov ← holding [v] (eval o X.env)
      let iv ← holding [v, ov] (eval i X.env)
      standAt p1
      holding [v, ov, iv] (setItem ov iv v)
      release [v, ov, iv] [])) (hs : swapsWithSole [.Subscript o i p1] e pos.line X.env = pure false) (hw : swappedStores [.Subscript o i p1] e X.env = pure none)
    (h1 : (assignEach [.Subscript o i p1] X.env).map (·.2) = [assign (.Subscript o i p1) X.env]) : JS X W (.Assign [.Subscript o i p1] e pos) (sSetIx go gi ge) := by
  refine PS.weak (ps_asg he (pg_sub ho hi set_list ha) hs hw h1) fun D σ H h => ?_
  obtain ⟨τ, O, sl, ce, w, s, h⟩ := h
  refine ⟨τ, O, sl, ce, w, s, (PostS.st s h).mono fun τ1 O1 ce1 H1 dv e1 w1 h1 v rv => ?_⟩
  refine ⟨τ1, O1, sl, ce1, w1, s.ext e1, (PostS.st (s.ext e1) h1).mono fun τ2 O2 ce2 H2 dx e2 w2 h2 x rx => ?_⟩
  refine ⟨τ2, O2, sl, ce2, w2, (s.ext e1).ext e2, (PostS.st ((s.ext e1).ext e2) h2).mono fun τ3 O3 ce3 H3 di e3 w3 h3 i ri => ?_⟩
  replace rx := rx.ext e3
  replace rv := (rv.ext e2).ext e3
  split at h3
  · rename_i k j
    obtain ⟨a, hk, rfl⟩ := rx
    have ei := ri.toInt
    subst ei
    obtain ⟨O4, e4, w4, r4⟩ := frz_ok w3 rv
    split at h3
    · rename_i xs hx
      split at h3
      · rename_i j' hj
        obtain ⟨hO, us, hu, rus⟩ := w4.cell k a _ hk hx
        have em : Ext τ3 O4 H3 τ3 O4 (upd H3 a (.lst (us.set j' v))) := .mut hO
        refine ⟨a, us, j, j', rfl, rfl, hu, by rw [← rus.length]; exact hj, ?_⟩
        exact h3 τ3 O4 σ _ (e4.trans em) (w4.set hk hO (show CellOk (cfg X) O4 _ a (.lst (xs.set j' (frz ce3 dv).1)) from ⟨hO, _, upd_same, (rus.ext em).set j' (r4.ext em)⟩)) ((((s.ext e1).ext e2).ext e3).ext (e4.trans em))
      · exact h3.elim
    · exact h3.elim
  · exact h3.elim
/-- x op= e -/
def sAug (i : Nat) (g : D → D → Option D) (ge : EDen) : SDen := fun sl ce => match sl[i]? with
  | some (some x) => (ge sl ce).st sl fun y ce1 => match g (look ce1 x) (look ce1 y) with
    | some d => .nx (sl.set i (some d)) ce1
    | none => .bad
  | _ => .bad
theorem js_aug (i : Nat) {x : Str} {e : Expr} {op : Operator} {g : D → D → Option D} {ge : EDen} {pos' pos : Pos} (hN : X.N.Nodup) (hi : X.N[i]? = some x) (hx : Loc X.env.scope x) (he : JE X W e ge) (ho : OpJ X (inplaceOp op) g) (hf : X.fn x = true ∨ X.env.scope.names.lookup x = some .local) :
    JS X W (.AugAssign (.Name x pos') op e pos) (sAug i g ge) := by
  refine PS.weak (ps_aug (ti := rJ (cfg X) g) hN hi hx he (fun pins s σ H x y v u Q I r1 r2 h => ho pins s σ H x y v u Q I r1 r2 h) hf) fun D σ H h => ?_
  obtain ⟨τ, O, sl, ce, w, s, h⟩ := h
  unfold sAug at h
  split at h
  · rename_i dx hx
    obtain ⟨v, hv, rv⟩ := s.at_ i dx hx
    refine ⟨v, hv, τ, O, sl, ce, w, s, (PostS.st s h).mono fun τ1 O1 ce1 H1 dy e1 w1 h1 y ry => ?_⟩
    split at h1
    · rename_i d hd
      refine ⟨O1, _, _, d, w1.trk, (rv.ext e1).view w1, ry.view w1, hd, fun u H' sm ru => ?_⟩
      exact h1 τ1 O1 _ H' (.same sm) (w1.same sm) (((s.ext e1).ext (.same sm)).set i ru.rep)
    · exact h1.elim
  · exact h.elim

/-! ### list(range(..)), tuple(range(..)) -/
def rgOk (a b : Int) : Bool := decide (-1000000 ≤ a) && decide (a ≤ 1000000) && decide (-1000000 ≤ b) && decide (b ≤ 1000000)
theorem rgOk_ok {a b : Int} (h : rgOk a b = true) : RgOk a b := by
  simp [rgOk] at h
  exact ⟨by omega, by omega, by omega, by omega, by omega⟩
def eLR (f : Int → Int → Cells → Out D) (ga : SEnv → Cells → Out (Int × Int)) : EDen := fun sl ce => (ga sl ce).bind fun q ce1 => if rgOk q.1 q.2 then f q.1 q.2 ce1 else .bad
def asI (d : D) (ce : Cells) : Out Int := match d with
  | .int i => .ok i ce
  | _ => .bad
def rg1 (ga : EDen) : SEnv → Cells → Out (Int × Int) := fun sl ce => (ga sl ce).bind fun d ce1 => (asI d ce1).bind fun n ce2 => .ok (0, n) ce2
def rg2 (ga gb : EDen) : SEnv → Cells → Out (Int × Int) := fun sl ce => (ga sl ce).bind fun d ce1 => (gb sl ce1).bind fun d' ce2 => (asI d ce2).bind fun n ce3 => (asI d' ce3).bind fun m ce4 => .ok (n, m) ce4
def lrTree (a b : Int) (ce : Cells) : Out D := .ok (.lst (rangeL a (b - a).toNat)) ce
def lrCell (a b : Int) (ce : Cells) : Out D := .ok (.cel ce.length) (ce ++ [.lst (rangeL a (b - a).toNat)])
def trTree (a b : Int) (ce : Cells) : Out D := .ok (.tup (rangeL a (b - a).toNat)) ce
theorem rgV_rep {c : Cfg} {O : List Addr} {H : Hp} {a b : Int} : RepTs c O H (rangeL a (b - a).toNat) (rgV a b) := by
  unfold rangeL rgV
  generalize (b - a).toNat = n
  have : ∀ l : List Nat, RepTs c O H (l.map fun (i : Nat) => D.int (a + (i : Nat))) (l.map fun (i : Nat) => V.int (a + (i : Nat))) := fun l => by
    induction l with
    | nil => exact repTs_nil.mpr rfl
    | cons x l ih => exact repTs_cons.mpr ⟨_, _, rfl, repT_int.mpr rfl, ih⟩
  exact this _
/-- what makes a range, by its ends -/
def JRg (X : Cx) (W : WX) (e : Expr) (g : SEnv → Cells → Out (Int × Int)) : Prop := PRg X e fun σ H Q => ∃ τ O sl ce, WFh (cfg X) τ O ce H ∧ SRep (cfg X) τ O H sl σ ∧ PostG (cfg X) W τ O H σ (g sl ce) fun τ' O' ce' H' q => Q q.1 q.2 H'
theorem jrg_1 {a : Expr} {gA : EDen} {p pos : Pos} (hg : Gl X "range") (hm : X.mg "range" = none) (ha : JE X W a gA) (na : starEach [a] X.env = (false, eval a X.env) :: starEach [] X.env) : JRg X W (.Call (.Name "range" p) [a] [] pos) (rg1 gA) := by
  intro pins s σ H Q I h
  refine prg_1 hg hm ha na pins s σ H Q I ?_
  obtain ⟨τ, O, sl, ce, w, sr, h⟩ := h
  refine ⟨τ, O, sl, ce, w, sr, (PostG.bind h).mono fun τ1 O1 ce1 H1 d e1 w1 h1 v r => ?_⟩
  cases d with
  | int i => exact ⟨i, r.toInt, h1.done w1⟩
  | _ => exact h1.elim
theorem jrg_2 {a b : Expr} {gA gB : EDen} {p pos : Pos} (hg : Gl X "range") (hm : X.mg "range" = none) (ha : JE X W a gA) (hb : JE X W b gB) (na : starEach [a, b] X.env = (false, eval a X.env) :: starEach [b] X.env) (nb : starEach [b] X.env = (false, eval b X.env) :: starEach [] X.env)
    (hp : (backTo pos (starEach [b] X.env)).any (·.1) = false) : JRg X W (.Call (.Name "range" p) [a, b] [] pos) (rg2 gA gB) := by
  intro pins s σ H Q I h
  refine prg_2 hg hm ha hb na nb hp pins s σ H Q I ?_
  obtain ⟨τ, O, sl, ce, w, sr, h⟩ := h
  refine ⟨τ, O, sl, ce, w, sr, (PostG.bind h).mono fun τ1 O1 ce1 H1 d e1 w1 h1 v r => ?_⟩
  refine ⟨τ1, O1, sl, ce1, w1, sr.ext e1, (PostG.bind h1).mono fun τ2 O2 ce2 H2 d2 e2 w2 h2 v2 r2 => ?_⟩
  cases d with
  | int i =>
    cases d2 with
    | int j => exact ⟨i, j, (r.ext e2).toInt, r2.toInt, h2.done w2⟩
    | _ => exact h2.elim
  | _ => exact h2.elim
theorem je_lr {p pos : Pos} {g : SEnv → Cells → Out (Int × Int)} (hc : X.calm = true) (hg : Gl X "list") (hm : X.mg "list" = none) (he : JRg X W e g) (na : starEach [e] X.env = (false, eval e X.env) :: starEach [] X.env) : JE X W (.Call (.Name "list" p) [e] [] pos) (eLR lrTree g) := by
  refine PE.weak (pe_listRg hc hg hm he na) fun σ H Q h => ?_
  obtain ⟨τ, O, sl, ce, w, s, h⟩ := h
  refine ⟨τ, O, sl, ce, w, s, (PostG.bind h).mono fun τ1 O1 ce1 H1 q e1 w1 h1 => ?_⟩
  split at h1
  · rename_i hk
    exact ⟨rgOk_ok hk, fun p hp => h1 τ1 O1 _ (.same (same_upd hp)) (w1.same (same_upd hp)) _ (RepT.rep (new_lst w1.trk hp rgV_rep))⟩
  · exact h1.elim
theorem je_lrC {p pos : Pos} {g : SEnv → Cells → Out (Int × Int)} (hc : X.calm = true) (hg : Gl X "list") (hm : X.mg "list" = none) (he : JRg X W e g) (na : starEach [e] X.env = (false, eval e X.env) :: starEach [] X.env) : JE X W (.Call (.Name "list" p) [e] [] pos) (eLR lrCell g) := by
  refine PE.weak (pe_listRg hc hg hm he na) fun σ H Q h => ?_
  obtain ⟨τ, O, sl, ce, w, s, h⟩ := h
  refine ⟨τ, O, sl, ce, w, s, (PostG.bind h).mono fun τ1 O1 ce1 H1 q e1 w1 h1 => ?_⟩
  split at h1
  · rename_i hk
    refine ⟨rgOk_ok hk, fun p hp => ?_⟩
    have ex : Ext τ1 O1 H1 (τ1 ++ [p]) (p :: O1) (upd H1 p (.lst (rgV q.1 q.2))) := .cell hp
    refine h1 (τ1 ++ [p]) (p :: O1) _ ex (w1.push hp ⟨List.mem_cons_self, _, upd_same, rgV_rep⟩) _ ⟨p, ?_, rfl⟩
    rw [← w1.len, List.getElem?_append_right (Nat.le_refl _)]
    simp
  · exact h1.elim
theorem je_tr {p pos : Pos} {g : SEnv → Cells → Out (Int × Int)} (hc : X.calm = true) (hg : Gl X "tuple") (hm : X.mg "tuple" = none) (he : JRg X W e g) (na : starEach [e] X.env = (false, eval e X.env) :: starEach [] X.env) : JE X W (.Call (.Name "tuple" p) [e] [] pos) (eLR trTree g) := by
  refine PE.weak (pe_tupRg hc hg hm he na) fun σ H Q h => ?_
  obtain ⟨τ, O, sl, ce, w, s, h⟩ := h
  refine ⟨τ, O, sl, ce, w, s, (PostG.bind h).mono fun τ1 O1 ce1 H1 q e1 w1 h1 => ?_⟩
  split at h1
  · rename_i hk
    exact ⟨rgOk_ok hk, fun p hp => h1 τ1 O1 _ (.same (same_upd hp)) (w1.same (same_upd hp)) _ (RepT.rep (new_tup w1.trk hp rgV_rep))⟩
  · exact h1.elim
/-- raise X('..') -/
def sRaise (x : Str) : SDen := fun sl ce => .ex x sl ce
theorem js_raise {x m : Str} {C : Addr} {bmB : List Value} {B newId initId : String} {j : Nat} {p p2 pos rpos : Pos} (hc : X.calm = true) (tk : L2N.Takes X W) (F : ExcBaseFacts B newId initId bmB) (q : PySem.W.excIn X.K C bmB newId = true) (gC : X.mg x = some (.ref C)) (kC : PySem.W.keepIn X.K (.ref C) = true)
    (r : Raises X (.ref C)) (hg : Gl X x) (hdb : (x == ("__debug__" : Str)) = false) : JS X W (.Raise (some (.Call (.Name x p) [.Constant (.str m) j p2] [] pos)) none rpos) (sRaise x) := by
  refine PS.weak (L2N.ps_raise hc tk (L2N.pmk_own F q gC kC r hg hdb)) fun D σ H h => ?_
  obtain ⟨τ, O, sl, ce, w, s, h⟩ := h
  exact h τ O σ H .refl w s _ gC
end
end Ib

set_option Elab.async false
set_option linter.all false
set_option maxRecDepth 100000
set_option maxHeartbeats 2000000
/-! The J layer, part F: callees by name, chains, the law's own end. -/
namespace Ib
open PySem PySem.Spec PyProof.Rows L2
/-- the def of the name x, of n parameters, keeps to the denotation F; k: its level -/
def Cal (P : Program) (w : World) (K : PySem.W.Frag) (mg : Str → Option Value) (base : Heap) (k : Nat) (x : Str) (n : Nat) (F : FDen) : Prop :=
  ∃ (f : Addr) (fd : FuncData) (ps : List Str), ps.length = n ∧ FnOk P w K mg base (L2N.CX P w) k f fd ps (spG ⟨P, w, K, mg⟩ n F) ∧ mg x = some (.ref f) ∧ PySem.W.keepIn K (.ref f) = true ∧ Binds K fd ps []
theorem cal_mk {P : Program} {w : World} {K : PySem.W.Frag} {mg : Str → Option Value} {base : Heap} {x : Str} {st : Stmt} {f : Addr} {fd : FuncData} {N ps : List Str} {k : Nat} {g : SDen} (F : Fun K x x st f fd) (hm : mg x = some (.ref f)) (S : FnScope N ps (defScope st))
    (hb : ∀ (kV doc pm : Value) (an : Option Addr) (cdv ct : Value) (us : List Value), us.length = ps.length → bindArgs (PySem.W.fnOf x x (defArgs st) (defBody st) (defScope st) .none kV doc pm an cdv ct) ⟨us, []⟩ = pure (ps.zip us))
    (hbody : ∀ (cdv : Value) (A : Around) (outer : List Env) (s : Shared) (H : Hp) (E : XK), Room k (A.deeper (envOfC x (defScope st) s.heap.objs.size f cdv)) →
      JSs (cxOf (L2N.CX P w) P w K mg base N x (defScope st) f cdv A outer s H E) (fun cls d _ H => E cls d H) (defBody st) g) :
    Cal P w K mg base (k + 1) x ps.length (runF ps.length N.length g) := ⟨f, fd, ps, rfl, fn_ok F S hbody, hm, F.kp, F.binds hb⟩
/-- nothing is promised -/
theorem cal_bad {P : Program} {w : World} {K : PySem.W.Frag} {mg : Str → Option Value} {base : Heap} {x : Str} {st : Stmt} {f : Addr} {fd : FuncData} {ps : List Str} {k n : Nat} (F : Fun K x x st f fd) (hm : mg x = some (.ref f))
    (hb : ∀ (kV doc pm : Value) (an : Option Addr) (cdv ct : Value) (us : List Value), us.length = ps.length → bindArgs (PySem.W.fnOf x x (defArgs st) (defBody st) (defScope st) .none kV doc pm an cdv ct) ⟨us, []⟩ = pure (ps.zip us)) (hn : ps.length = n) :
    Cal P w K mg base k x n (fun _ _ => .bad) := by
  refine ⟨f, fd, ps, hn, ⟨fun vs H Q E h => ?_, fun A outer s H args us vs Q E _ _ _ _ h => ?_⟩, hm, F.kp, F.binds hb⟩
  · obtain ⟨τ, O, ce, ds, hl, _, _, h⟩ := h
    exact h.elim
  · obtain ⟨τ, O, ce, ds, hl, _, _, h⟩ := h
    exact h.elim
/-- nothing is let out -/
theorem takes0N {X : Cx} : L2N.Takes X (fun _ _ _ _ => False) := fun _ _ x => by
  obtain ⟨_, _, _, _, _, _, _, _, _, _, _, _, _, _, _, _, z⟩ := x
  exact z.elim
section
variable {X : Cx} {W : WX} {k n : Nat} {F : FDen} {x : Str} {p pos : Pos} {e : Expr} {es : List Expr} {ga : SEnv → Cells → Out (List D)}
theorem je_cal (tk : L2N.Takes X W) (C : Cal X.prog X.w X.K X.mg X.base k x n F) (hlen : (e :: es).length = n) (hr : Room k X.A) (hg : Gl X x)
    (ha : JA X W (e :: es) ga) (hga : ∀ sl ce ds ce', ga sl ce = .ok ds ce' → ds.length = (e :: es).length) (hdb : (x == ("__debug__" : Str)) = false) (he : starEach (e :: es) X.env = (false, eval e X.env) :: starEach es X.env) (hpl : (backTo pos (starEach es X.env)).any (·.1) = false) :
    JE X W (.Call (.Name x p) (e :: es) [] pos) (eFn F ga) := by
  obtain ⟨f, fd, ps, rfl, G, hm, hk, hb⟩ := C
  exact je_fn tk G hlen hr hg hm hk hb ha hga hdb he hpl
variable {a b c : Expr} {A B C : EDen} {o1 o2 : CmpOp} {g g' : D → D → Option D}
theorem chain_t : ∀ σ H Q, tE (cfg X) W (eChain g g' A B C) σ H Q → tChain (rJ (cfg X) g) (rJ (cfg X) g') (tE (cfg X) W A) (tE (cfg X) W B) (tE (cfg X) W C) σ H Q := by
  intro σ H Q h
  obtain ⟨τ, O, sl, ce, w, s, h⟩ := h
  refine ⟨τ, O, sl, ce, w, s, (PostG.bind h).mono fun τ1 O1 ce1 H1 x e1 w1 h1 v r => ?_⟩
  refine ⟨τ1, O1, sl, ce1, w1, s.ext e1, (PostG.bind h1).mono fun τ2 O2 ce2 H2 y e2 w2 h2 u r2 => ?_⟩
  cases q : g (look ce2 x) (look ce2 y) with
  | none => rw [q] at h2; exact h2.elim
  | some d =>
    rw [q] at h2
    refine ⟨O2, _, _, d, w2.trk, (r.ext e2).view w2, r2.view w2, q, fun z H' sm rz => ?_⟩
    have ex : Ext τ2 O2 H2 τ2 O2 H' := .same sm
    cases d with
    | bl kk =>
      refine ⟨kk, repT_bl.mp rz, ?_⟩
      cases kk with
      | true =>
        rw [if_pos rfl]
        refine ⟨τ2, O2, sl, ce2, w2.same sm, ((s.ext e1).ext e2).ext ex, (PostG.bind (PostG.ext ex h2)).mono fun τ3 O3 ce3 H3 zz e3 w3 h3 u3 r3 => ?_⟩
        obtain ⟨d', ed, q'⟩ := post_lift w3 h3
        exact ⟨O3, _, _, d', w3.trk, ((r2.ext ex).ext e3).view w3, r3.view w3, ed, q'⟩
      | false =>
        rw [if_neg Bool.false_ne_true]
        exact h2 τ2 O2 H' ex (w2.same sm) _ .ofBl
    | _ => exact h2.elim
theorem je_chain (h1 : OpJ X (compareOp o1) g) (h2 : OpJ X (compareOp o2) g') (ha : JE X W a A) (hb : JE X W b B) (hc : JE X W c C) (hm : lastMarks [o1, o2] [b, c] = false) : JE X W (.Compare a [o1, o2] [b, c] pos) (eChain g g' A B C) :=
  PE.weak (pe_chain h1 h2 ha hb hc hm) chain_t
theorem jt_chain (h1 : OpJ X (compareOp o1) g) (h2 : OpJ X (compareOp o2) g') (ha : JE X W a A) (hb : JE X W b B) (hc : JE X W c C) (hm : lastMarks [o1, o2] [b, c] = false) : JT X W (.Compare a [o1, o2] [b, c] pos) (tOf (eChain g g' A B C)) :=
  PT.weak (pt_chain h1 h2 ha hb hc hm) fun σ H Q h => chain_t σ H _ (tst_t (t := fun _ _ _ => True) σ H Q h)
end
/-- the law's promise: on every script it gives True -/
theorem law_spT {P : Program} {w : World} {K : PySem.W.Frag} {mg : Str → Option Value} {F : FDen} (n : Nat) (hF : ∀ ns : List Int, ns.length ≤ n → ∃ ce, F [.lst (ns.map D.int)] [] = .ok (.bl true) ce) (H : Hp) (a : Addr) (ns : List Int) (hl : ns.length ≤ n) (hS : SqL K H a (ns.map V.int))
    (hT : ∀ p ∈ tbls ⟨P, w, K, mg⟩, H p.1 = some (.tbl #[])) : spG ⟨P, w, K, mg⟩ 1 F [.ref a] H (fun v _ => v = .bl true) fun _ _ _ => False := by
  obtain ⟨ce, h⟩ := hF ns hl
  have inT : ∀ b ∈ (tbls ⟨P, w, K, mg⟩).map (·.1), H b = some (.tbl #[]) := fun b hb => by
    obtain ⟨p, hp, e⟩ := List.mem_map.mp hb
    rw [← e]
    exact hT p hp
  refine ⟨[], (tbls ⟨P, w, K, mg⟩).map (·.1), [], [.lst (ns.map D.int)], rfl, ⟨rfl, fun b hb => (by rw [inT b hb]; exact fun z => nomatch z), List.nodup_nil, (by simp), fun b hb x q z => (by rw [inT b hb] at z; unfold LamX.CodeO at z; cases z),
    fun p hp => ⟨List.mem_map.mpr ⟨p, hp, rfl⟩, by simp, LamX.TabS.nil (hT p hp)⟩, fun b hb x z => (by rw [inT b hb] at z; cases z)⟩, ⟨.ref a, [], rfl, ?_, rfl⟩, ?_⟩
  · refine repT_lst.mpr ⟨a, _, rfl, hS.elim (fun z => .inl ⟨fun hb => ?_, z⟩) .inr, RepTs.ofInts ns⟩
    have e := inT a hb
    rcases z with z | ⟨o, z⟩
    · rw [e] at z; cases z
    · rw [e] at z; cases z
  · rw [h]
    exact fun τ' O' H' e w v r => r.toBl
theorem law_sp {P : Program} {w : World} {K : PySem.W.Frag} {mg : Str → Option Value} {F : FDen} (n : Nat) (hF : ∀ ns : List Int, ns.length ≤ n → ∃ ce, F [.lst (ns.map D.int)] [] = .ok (.bl true) ce) (H : Hp) (a : Addr) (ns : List Int) (hl : ns.length ≤ n) (hS : SqL K H a (ns.map V.int))
    (h0 : LAMS = [] := by rfl) : spG ⟨P, w, K, mg⟩ 1 F [.ref a] H (fun v _ => v = .bl true) fun _ _ _ => False :=
  law_spT n hF H a ns hl hS fun p hp => by
    have e : tbls ⟨P, w, K, mg⟩ = [] := by
      unfold tbls
      rw [h0]
      rfl
    rw [e] at hp
    cases hp
end Ib

set_option Elab.async false
set_option linter.all false
set_option maxRecDepth 100000
set_option maxHeartbeats 2000000
/-! The J layer, part S: sorted(..) of a tuple. -/
namespace SrtO
open PySem PyProof.Rows Srt
section
variable {prog : Program} {w : World} {A : Around} {E : Value → Shared → Prop} {s : Shared}
/-- what is collected stands in a heap that has grown -/
theorem collect_grown {R : List Value → Shared → Prop} (x : Addr) {T : String} {ob : Obj} {xs : Array Value} {c : Nat} (hT : T = "list" ∨ T = "tuple")
    (h0 : s.heap.get? x = some ob) (h1 : ob.cls = .type T) (h2 : ob.data = .seq xs c) (hz : xs.size ≤ sizeLine)
    (fin : ∀ hp, (∀ b o, s.heap.get? b = some o → hp.get? b = some o) → s.heap.objs.size ≤ hp.objs.size → R xs.toList { s with heap := hp }) :
    wpAny (model prog w) A (collect (.ref x)) R E s := by
  let base : Heap := s.heap.push { cls := .type "list", data := .seq ([] : List Value).toArray }
  have new0 : base.get? s.heap.objs.size = some { cls := .type "list", data := .seq #[] 0 } := Heap.get?_push_size _ rfl
  have new1 := Heap.get?_update_self (Obj.mapSeq (fun z => z ++ xs)) new0 rfl
  let grown : Heap := base.update s.heap.objs.size (Obj.mapSeq (fun z => z ++ xs))
  have kept : ∀ b o, s.heap.get? b = some o → grown.get? b = some o := fun b o hb =>
    Eq.trans (Heap.get?_update_other _ _ (Nat.ne_of_gt (Heap.lt_size hb))) (Heap.get?_push_of_some _ hb)
  have sz : s.heap.objs.size ≤ grown.objs.size := by
    show s.heap.objs.size ≤ (base.update s.heap.objs.size (Obj.mapSeq (fun z => z ++ xs))).objs.size
    rw [Heap.size_update, size_push']; omega
  have last : wpAny (model prog w) A (match Value.ref s.heap.objs.size with
      | Value.ref a => do
        match (← load a).data with
          | Data.seq zs _ => pure zs.toList
          | _ => unsupported "internal:collect"
      | _ => unsupported "internal:collect") R E { s with heap := grown } := by
    show wpAny _ A (load s.heap.objs.size >>= _) _ _ _
    apply wpAny_bind
    refine wpAny_load new1 (wpAny_pure ?_)
    have e : ((#[] : Array Value) ++ xs).toList = xs.toList := by simp
    show R ((#[] : Array Value) ++ xs).toList _
    rw [e]
    exact fin grown kept sz
  unfold collect
  apply wpAny_bind
  apply wpAny_runValue
  apply codeAny_builtin F.entry_proto_collect
  rw [Around.under_plainId F.plain_proto_collect]
  show wpAny _ A.in1 (newList [] >>= fun n => again (.builtin "list.__iadd__" ⟨[n, .ref x], []⟩)) _ _ s
  apply wpAny_bind
  refine wpAny_newObj_type (wpAny_pure ⟨plainId_quiet F.plain_list_iadd _, ?_⟩)
  apply codeAny_builtin F.entry_list_iadd
  rw [Around.under_plainId F.plain_list_iadd]
  refine wpAny_mono (wpAny_extend_seq (hsz := hz) (A := A) (s := { s with heap := base }) (R := fun r t => r = .ok (.ret (.ref s.heap.objs.size)) ∧ t = { s with heap := grown }) _ x _ 0 hT new0 (Heap.get?_push_of_some _ h0) h1 h2 ⟨rfl, rfl⟩) ?_ ?_
  · intro f t h
    cases f with
    | done g =>
      obtain ⟨e, rfl⟩ := h
      cases e
      exact last
    | again d => exact ⟨h.1, codeAny_mono h.2 fun r t' hr => by obtain ⟨rfl, rfl⟩ := hr; exact last⟩
  · intro e t h
    exact absurd h.1 (by simp)
theorem sorted_seqv {it : Addr} {T : String} {oT : Obj} {vs : List Value} {nT : Nat} {cmp : Value → Value → Bool} {Q : Value → Shared → Prop} (hT : T = "list" ∨ T = "tuple") (ho : s.heap.get? it = some oT) (hc : oT.cls = .type T) (hd : oT.data = .seq vs.toArray nT) (O : Swo cmp) (hz : vs.length ≤ sizeLine)
    (able : 2 ≤ vs.length → ∀ (hp : Heap) (a : Addr), SortableO prog w A.in1.in1 { s with heap := hp } a vs cmp)
    (fin : ∀ (out : List Value) (hp : Heap) (a : Addr), Srtd cmp out → Stb cmp out vs → (∀ b ob, s.heap.get? b = some ob → hp.get? b = some ob) → s.heap.objs.size ≤ a → (∃ e, hp.get? a = some { cls := .type "list", data := .seq out.toArray e }) → Q (.ref a) { s with heap := hp }) :
    wpAny (model prog w) A (call (.builtin "sorted") [.ref it]) Q E s := by
  refine Calls.call_function_entry kind_sorted plain_sorted entry_sorted (args_sorted1 _) ?_
  unfold Builtin.«sorted»
  refine wpAny_bind (m := checkCount "sorted" 1 1 _) (wpAny_pure ?_)
  refine wpAny_bind (collect_grown it hT ho hc hd (by simpa using hz) fun h1 k1 sz => ?_)
  refine wpAny_bind (wpAny_newList ?_ (by simpa using hz))
  have at1 : (h1.push (seqObj "list" vs.toArray 0)).get? h1.objs.size = some (seqObj "list" vs.toArray 0) := Heap.get?_push_size _ rfl
  show wpAny _ _ _ _ _ { s with heap := h1.push (seqObj "list" vs.toArray 0) }
  refine wpAny_bind (wpAny_holding (wpAny_call_entry slot_list_sort ⟨_, at1, rfl⟩ entry_list_sort (list_sort_ord (s := { s with heap := h1.push (seqObj "list" vs.toArray 0) }) O at1 hz (fun h2 => able h2 _ _) fun out g1 g2 => ⟨_, rfl, ?_⟩) (args_list_sort _)))
  refine wpAny_pure ⟨_, rfl, fin out _ _ g1 g2 (fun b ob q => ?_) sz ?_⟩
  · have lt := Heap.lt_size (k1 b ob q)
    refine (sortedHeap_old (Nat.ne_of_lt lt) (by rw [size_push']; exact Nat.lt_succ_of_lt lt)).trans ?_
    rw [Heap.get?_push_ne _ _ _ (Nat.ne_of_lt lt)]
    exact k1 b ob q
  · exact sortedHeap_at (n := 0) at1
end
end SrtO
namespace Ib
open PySem PySem.Spec PyProof.Rows L2
section
variable {X : Cx}
def rSortTI (K : PySem.W.Frag) : List V → Hp → VK → Prop := fun vs H Q => ∃ (a : Addr) (ns : List Int), vs = [V.ref a] ∧ (SqL K H a (ns.map V.int) ∨ SqT K H a (ns.map V.int)) ∧
  ∀ (ms : List Int) (p : Addr), ms.Perm ns → ms.Pairwise (· ≤ ·) → H p = none → Q (.ref p) (upd H p (.lst (ms.map V.int)))
theorem cr_sortTI : CallR X (.builtin "sorted") (rSortTI X.K) := by
  intro pins s σ H vs us Q I r h
  obtain ⟨a, ns, rfl, hs, q⟩ := h
  rw [Vals.ref1 r]
  have go : ∀ (its : List Value) (T : String) (ob : Obj) (n : Nat), Vals (ns.map V.int) its → (ns.map V.int).length ≤ sizeLine → (T = "list" ∨ T = "tuple") → s.heap.get? a = some ob → ob.cls = .type T → ob.data = .seq its.toArray n →
      wpAny (model X.prog X.w) X.A (call (.builtin "sorted") [.ref a]) (EP X pins σ Q) X.xe s := by
    intro its T ob n rv hz hT ho hc hd
    have hi := rv.ints
    refine SrtO.sorted_seqv hT ho hc hd SrtO.swo_int (by rw [← rv.length]; exact hz) (fun h2 _ _ => SrtO.ints_sortable hi h2) fun out hp b g1 g2 kept sz at2 => ?_
    obtain ⟨k1, k2, k3⟩ := SrtO.ints_out hi g1 g2
    obtain ⟨ep, at2⟩ := at2
    have hlen : ((out.map SrtO.iv).map V.int).length ≤ sizeLine := by
      rw [List.length_map, k2.length_eq]
      rw [List.length_map] at hz
      exact hz
    exact ⟨.ref b, upd H b (.lst ((out.map SrtO.iv).map V.int)), I.laid (t' := s.toks) kept sz ⟨hlen, out, ep, vals_of_ints k1, at2⟩, rfl, q _ _ k2 k3 (I.hok.fresh sz)⟩
  rcases hs with hs | hs
  · obtain ⟨its, rv, pl, hz⟩ := I.list hs
    obtain ⟨o, ho, hc, n, hd⟩ := pl.isList
    exact go its "list" o n rv hz (.inl rfl) ho hc hd
  · obtain ⟨its, rv, pl, hz⟩ := I.tuple hs
    obtain ⟨o, ho, hc, n, hd⟩ := pl
    exact go its "tuple" o n rv hz (.inr rfl) ho hc hd
/-- sorted(x): ints, a list or a tuple -/
def dSort2 : List D → Option D
  | [.lst xs] => (asInts xs).map fun ns => .lst ((sortI ns).map D.int)
  | [.tup xs] => (asInts xs).map fun ns => .lst ((sortI ns).map D.int)
  | _ => none
theorem cj_sort2 : CallJ X (.builtin "sorted") dSort2 := by
  refine cj_intr cr_sortTI fun H Q O ds d vs trk r e q => ?_
  unfold dSort2 at e
  split at e
  · rename_i xs
    cases h : asInts xs with
    | none => rw [h] at e; cases e
    | some ns =>
      rw [h] at e
      cases e
      obtain ⟨v, rfl, r1⟩ := r.one
      obtain ⟨p, rfl, k⟩ := r1.ints h
      refine ⟨p, ns, rfl, .inl k, fun ms p2 h1 h2 h3 => q _ _ (same_upd h3) ?_⟩
      rw [sortI_only h1 h2]
      exact new_lst trk h3 (RepTs.ofInts _)
  · rename_i xs
    cases h : asInts xs with
    | none => rw [h] at e; cases e
    | some ns =>
      rw [h] at e
      cases e
      obtain ⟨v, rfl, r1⟩ := r.one
      obtain ⟨p, ws, rfl, k, kk⟩ := r1.tup
      have hw : ws = ns.map V.int := by rw [asInts_eq h] at kk; exact kk.ints
      refine ⟨p, ns, rfl, .inr (hw ▸ k.sq), fun ms p2 h1 h2 h3 => q _ _ (same_upd h3) ?_⟩
      rw [sortI_only h1 h2]
      exact new_lst trk h3 (RepTs.ofInts _)
  · cases e
end
end Ib

set_option Elab.async false
set_option linter.all false
set_option maxRecDepth 100000
set_option maxHeartbeats 2000000
/-! The J layer, part V: list(..) of a text. -/
namespace Ib
open PySem PySem.Spec PyProof.Rows L2
section
variable {X : Cx}
def rListS : List V → Hp → VK → Prop := fun xs H Q => ∃ z : Str, xs = [.str z] ∧ z.cps.size ≤ sizeLine ∧ ∀ l, H l = none → Q (.ref l) (upd H l (.lst (z.cps.toList.map fun c => V.str ⟨#[c]⟩)))
theorem cr_listS (hc : X.calm = true) : CallR X (.type "list") rListS := by
  intro pins s σ H xs us Q I r h
  obtain ⟨z, rfl, hz, q⟩ := h
  obtain ⟨u, rfl, rx⟩ := vals1 r
  obtain ⟨t, rfl⟩ := rx
  refine call_list_str (hn := hz) (I.ok.hd hc) z t fun hp tk acc c kept at0 its => ?_
  refine ⟨.ref s.heap.objs.size, upd H s.heap.objs.size (.lst (z.cps.toList.map fun c => V.str ⟨#[c]⟩)), I.laid kept (Nat.le_refl _) (show ObjOk X.prog X.w _ _ _ (.lst (z.cps.toList.map fun c => V.str ⟨#[c]⟩)) from ⟨?_, acc.toList, c, ?_, ?_⟩), rfl, q _ (I.hok.fresh (Nat.le_refl _))⟩
  · simpa using hz
  · refine vals_of_at (by simp [its.1]) fun j x w h1 h2 => ?_
    obtain ⟨k, u, hk, rfl⟩ := its.2 j w (by rw [← Array.getElem?_toList]; exact h2)
    rw [List.getElem?_map, Array.getElem?_toList, hk] at h1
    cases h1
    exact ⟨u, rfl⟩
  · rw [Array.toArray_toList]; exact at0
def dList2 : List D → Option D
  | [.str x] => some (.lst (x.map fun c => .str [c]))
  | [.lst xs] => some (.lst xs)
  | [.tup xs] => some (.lst xs)
  | _ => none
theorem signs_rep {c : Cfg} {O : List Addr} {H : Hp} : ∀ x : List Nat, (∀ k ∈ x, k < 128) → RepTs c O H (x.map fun c => .str [c]) (x.map fun c => V.str ⟨#[c]⟩)
  | [], _ => repTs_nil.mpr rfl
  | k :: x, h => repTs_cons.mpr ⟨_, _, rfl, repT_str.mpr ⟨rfl, by simp, fun j hj => by rw [List.mem_singleton.mp hj]; exact h k List.mem_cons_self⟩, signs_rep x fun j hj => h j (List.mem_cons_of_mem _ hj)⟩
theorem cj_list2 (hc : X.calm = true) : CallJ X (.type "list") dList2 := by
  refine cj_intr ((cr_listS hc).or call_list_of) fun H Q O ds d vs trk r e q => ?_
  unfold dList2 at e
  split at e
  · cases e
    obtain ⟨v, rfl, r1⟩ := r.one
    rename_i x
    refine .inl ⟨_, by rw [r1.str.1], ?_, fun l hl => q _ _ (same_upd hl) (new_lst trk hl ?_)⟩
    · simpa using Nat.le_trans r1.str.2.1 sz1
    · exact signs_rep x r1.str.2.2
  · cases e
    obtain ⟨v, rfl, r1⟩ := r.one
    obtain ⟨p, ws, rfl, h, k⟩ := r1.lst
    exact .inr ⟨p, ws, rfl, .inl h, fun l hl => q _ _ (same_upd hl) (new_lst trk hl k)⟩
  · cases e
    obtain ⟨v, rfl, r1⟩ := r.one
    obtain ⟨p, ws, rfl, h, k⟩ := r1.tup
    exact .inr ⟨p, ws, rfl, .inr h.sq, fun l hl => q _ _ (same_upd hl) (new_lst trk hl k)⟩
  · cases e
end
end Ib

set_option Elab.async false
set_option linter.all false
set_option maxRecDepth 100000
set_option maxHeartbeats 2000000
/-! The J layer, part N: dicts whose keys are ints or texts. -/
namespace Ib
open PySem PySem.Spec PyProof.Rows L2
def keyD : D → Option Key
  | .int i => some (.inl i)
  | .str x => some (.inr (toStr x))
  | _ => none
theorem keyD_view {c : Cfg} {O : List Addr} {H : Hp} {d : D} {k : Key} {v : V} (e : keyD d = some k) (r : RepV c O H d v) : v = kV k := by
  cases d with
  | int i => cases e; exact r.int
  | str x => cases e; exact r.str.1
  | _ => cases e
def valD {κ : Type} [DecidableEq κ] : List κ → List D → κ → Option D
  | k' :: ks, x :: xs, k => if k' = k then some x else valD ks xs k
  | _, _, _ => none
def putXs {κ : Type} [DecidableEq κ] : List κ → List D → κ → D → List D
  | k' :: ks, x :: xs, k, d => (if k' = k then d else x) :: putXs ks xs k d
  | _, xs, _, _ => xs
def hasK {κ : Type} [DecidableEq κ] (ks : List κ) (k : κ) : Bool := ks.any fun k' => decide (k' = k)
def putKs {κ : Type} [DecidableEq κ] (ks : List κ) (k : κ) : List κ := if hasK ks k = true then ks else ks ++ [k]
def putDs {κ : Type} [DecidableEq κ] (ks : List κ) (xs : List D) (k : κ) (d : D) : List D := if hasK ks k = true then putXs ks xs k d else xs ++ [d]
section
variable {c : Cfg} {O : List Addr} {H : Hp} {κ : Type} [DecidableEq κ]
theorem valD_rep : ∀ {ks : List κ} {xs : List D} {vs : List V} (k : κ), RepTs c O H xs vs → ks.length = vs.length →
    (∀ d, valD ks xs k = some d → ∃ v, valV (ks.zip vs) k = some v ∧ RepT c O H d v) ∧ (valD ks xs k = none → valV (ks.zip vs) k = none)
  | [], xs, vs, k, r, hl => ⟨fun d e => by simp [valD] at e, fun _ => rfl⟩
  | k' :: ks, [], vs, k, r, hl => by rw [repTs_nil.mp r] at hl; cases hl
  | k' :: ks, x :: xs, _, k, r, hl => by
    obtain ⟨v, vs, rfl, r1, r2⟩ := repTs_cons.mp r
    obtain ⟨h1, h2⟩ := valD_rep (ks := ks) k r2 (by simpa using hl)
    rw [List.zip_cons_cons]
    unfold valD
    by_cases e : k' = k
    · rw [if_pos e, valV_pos (p := (k', v)) e]
      exact ⟨fun d q => by cases q; exact ⟨v, rfl, r1⟩, fun q => by cases q⟩
    · rw [if_neg e, valV_neg (p := (k', v)) e]
      exact ⟨h1, h2⟩
theorem any_mem {ks : List κ} {vs : List V} (k : κ) (hl : ks.length = vs.length) : ((ks.zip vs).any fun kv => decide (kv.1 = k)) = hasK ks k := by
  induction ks generalizing vs with
  | nil => simp [hasK]
  | cons k' ks ih =>
    cases vs with
    | nil => cases hl
    | cons v vs =>
      rw [List.zip_cons_cons, List.any_cons, ih (by simpa using hl)]
      rfl
theorem putXs_rep : ∀ {ks : List κ} {xs : List D} {vs : List V} {k : κ} {d : D} {v : V}, RepTs c O H xs vs → ks.length = vs.length → RepT c O H d v →
    ∃ ws, (ks.zip vs).map (fun kv => if kv.1 = k then (kv.1, v) else kv) = ks.zip ws ∧ ks.length = ws.length ∧ RepTs c O H (putXs ks xs k d) ws
  | [], xs, vs, k, d, v, r, hl, rd => ⟨vs, rfl, hl, by simpa [putXs] using r⟩
  | k' :: ks, [], vs, k, d, v, r, hl, rd => by rw [repTs_nil.mp r] at hl; cases hl
  | k' :: ks, x :: xs, _, k, d, v, r, hl, rd => by
    obtain ⟨u, us, rfl, r1, r2⟩ := repTs_cons.mp r
    obtain ⟨ws, h1, h2, h3⟩ := putXs_rep (ks := ks) (k := k) r2 (by simpa using hl) rd
    refine ⟨(if k' = k then v else u) :: ws, ?_, by simp [h2], ?_⟩
    · rw [List.zip_cons_cons, List.map_cons, h1, List.zip_cons_cons]
      by_cases e : k' = k
      · simp [e]
      · simp [e]
    · unfold putXs
      refine repTs_cons.mpr ⟨_, _, rfl, ?_, h3⟩
      by_cases e : k' = k
      · rw [if_pos e, if_pos e]; exact rd
      · rw [if_neg e, if_neg e]; exact r1
theorem put_rep {ks : List κ} {xs : List D} {vs : List V} {k : κ} {d : D} {v : V} (r : RepTs c O H xs vs) (hl : ks.length = vs.length) (rd : RepT c O H d v) :
    ∃ ws, putK (ks.zip vs) k v = (putKs ks k).zip ws ∧ (putKs ks k).length = ws.length ∧ RepTs c O H (putDs ks xs k d) ws := by
  unfold putK putKs putDs
  rw [any_mem k hl]
  by_cases e : hasK ks k = true
  · rw [if_pos e, if_pos e, if_pos e]
    exact putXs_rep r hl rd
  · rw [if_neg e, if_neg e, if_neg e]
    refine ⟨vs ++ [v], ?_, by simp [hl], r.append (RepTs.one rd)⟩
    rw [List.zip_append hl]
    rfl
end
/-! d[k], d.get(k, x) -/
def dDGet : D → D → Option D
  | .dk ks xs, i => (keyD i).bind (valD ks xs)
  | _, _ => none
def isDk : D → Bool
  | .dk _ _ => true
  | _ => false
def dDGetO : D → D → Option (Option D)
  | .dk ks xs, i => (keyD i).map (valD ks xs)
  | _, _ => none
def eDGetD (go gi gx : EDen) : EDen := fun sl ce => (go sl ce).bind fun x ce1 => if isDk (look ce1 x) = true then (gi sl ce1).bind fun i ce2 => (gx sl ce2).bind fun z ce3 => match dDGetO (look ce3 x) (look ce3 i) with
  | some (some d) => .ok d ce3
  | some none => .ok z ce3
  | none => .bad else .bad
theorem RepV.dk {c : Cfg} {O : List Addr} {H : Hp} {ks : List Key} {xs : List D} {v : V} (h : RepV c O H (.dk ks xs) v) : ∃ p vs, v = .ref p ∧ H p = some (.dK (ks.zip vs)) ∧ ks.length = vs.length ∧ RepTs c O H xs vs := h
section
variable {X : Cx} {W : WX} {o i e f : Expr} {go gi gx : EDen} {pos pos' apos cpos : Pos}
theorem je_dget (hu : X.A.units + 1 < cLine) (ho : JE X W o go) (hi : JE X W i gi) (hs : NoSl i) : JE X W (.Subscript o i pos) (eBin dDGet go gi) := by
  refine PE.weak (pe_dget hu ho hi hs) fun σ H Q h => ?_
  obtain ⟨τ, O, sl, ce, w, s, h⟩ := h
  refine ⟨τ, O, sl, ce, w, s, (PostG.bind h).mono fun τ1 O1 ce1 H1 x e1 w1 h1 v r => ?_⟩
  refine ⟨τ1, O1, sl, ce1, w1, s.ext e1, (PostG.bind h1).mono fun τ2 O2 ce2 H2 y e2 w2 h2 u r2 => ?_⟩
  obtain ⟨d, ed, q⟩ := post_lift w2 h2
  have rx := (r.ext e2).view w2
  have ry := r2.view w2
  cases q1 : look ce2 x with
  | dk ks xs =>
    rw [q1] at ed rx
    obtain ⟨a, vs, rfl, hp, hl, rs⟩ := rx.dk
    cases q2 : keyD (look ce2 y) with
    | none => rw [dDGet, q2] at ed; cases ed
    | some k =>
      rw [dDGet, q2] at ed
      obtain ⟨v', hv, rv⟩ := (valD_rep k rs hl).1 d ed
      refine ⟨a, v', rfl, ?_, q v' H2 (.refl _) rv⟩
      have := DGet.k (k := k) hp
      rw [hv, ← keyD_view q2 ry] at this
      exact this
  | _ => rw [q1] at ed; cases ed
theorem je_dgetD (hu : X.A.units + 1 < cLine) (ho : JE X W o go) (he : JE X W e gi) (hf : JE X W f gx) (m : M2 X o "get" apos e f cpos) : JE X W (.Call (.Attribute o "get" apos) [e, f] [] cpos) (eDGetD go gi gx) := by
  refine PE.weak (pe_dget2 hu ho he hf m) fun σ H Q h => ?_
  obtain ⟨τ, O, sl, ce, w, s, h⟩ := h
  refine ⟨τ, O, sl, ce, w, s, (PostG.bind h).mono fun τ1 O1 ce1 H1 x e1 w1 h1 v r => ?_⟩
  split at h1
  · rename_i hd
    have rx := r.view w1
    have hex : ∃ a, v = .ref a ∧ IsD H1 a := by
      cases q1 : look ce1 x with
      | dk ks xs =>
        rw [q1] at rx
        obtain ⟨a, vs, rfl, hp, hl, rs⟩ := rx.dk
        exact ⟨a, rfl, .inl ⟨_, .of hp⟩⟩
      | _ => rw [q1] at hd; cases hd
    obtain ⟨a, rfl, isd⟩ := hex
    refine ⟨a, rfl, isd, τ1, O1, sl, ce1, w1, s.ext e1, (PostG.bind h1).mono fun τ2 O2 ce2 H2 y e2 w2 h2 u r2 => ?_⟩
    refine ⟨τ2, O2, sl, ce2, w2, (s.ext e1).ext e2, (PostG.bind h2).mono fun τ3 O3 ce3 H3 z e3 w3 h3 uz rz => ?_⟩
    have rx3 := ((r.ext e2).ext e3).view w3
    have ry := (r2.ext e3).view w3
    cases q1 : look ce3 x with
    | dk ks xs =>
      rw [q1] at rx3
      obtain ⟨a', vs, ea, hp, hl, rs⟩ := rx3.dk
      cases ea
      cases q2 : keyD (look ce3 y) with
      | none => simp only [dDGetO, q1, q2, Option.map_none] at h3; exact h3.elim
      | some k =>
        simp only [dDGetO, q1, q2, Option.map_some] at h3
        have hg := DGet.k (k := k) hp
        rw [← keyD_view q2 ry] at hg
        refine ⟨_, hg, ?_⟩
        cases q3 : valD ks xs k with
        | none =>
          rw [q3] at h3
          rw [(valD_rep k rs hl).2 q3]
          exact h3.done w3 uz rz
        | some d =>
          rw [q3] at h3
          obtain ⟨v', hv, rv⟩ := (valD_rep k rs hl).1 d q3
          rw [hv]
          exact h3.done w3 v' rv.rep
    | _ => simp only [dDGetO, q1] at h3; exact h3.elim
  · exact h1.elim
end
/-! {}, {k: v} -/
def eDNew : EDen := fun _ ce => .ok (.cel ce.length) (ce ++ [.dk [] []])
/-- the new dict stands, empty, while key and value are made -/
def eDisp1 (gk gv : EDen) : EDen := fun sl ce => (gk sl (ce ++ [.dk [] []])).bind fun k ce1 => (gv sl ce1).bind fun v ce2 => match keyD (look (frz ce2 v).2 k), (frz ce2 v).2[ce.length]? with
  | some key, some (.dk [] []) => .ok (.cel ce.length) ((frz ce2 v).2.set ce.length (.dk [key] [(frz ce2 v).1]))
  | _, _ => .bad
section
variable {X : Cx} {W : WX} {k v : Expr} {gk gv : EDen} {pos : Pos}
theorem cell_at {τ : List Addr} {ce : Cells} {p : Addr} (h : τ.length = ce.length) : (τ ++ [p])[ce.length]? = some p := by
  rw [← h, List.getElem?_append_right (Nat.le_refl _)]; simp
theorem je_dnew : JE X W (.Dict [] [] pos) eDNew := by
  refine PE.weak pe_dnewK fun σ H Q h p hp => ?_
  obtain ⟨τ, O, sl, ce, w, s, h⟩ := h
  have ex : Ext τ O H (τ ++ [p]) (p :: O) (upd H p (.dK [])) := .cell hp
  exact h (τ ++ [p]) (p :: O) _ ex (w.push hp ⟨List.mem_cons_self, [], upd_same, rfl, repTs_nil.mpr rfl⟩) _ ⟨p, cell_at w.len, rfl⟩
theorem je_disp1 (hk : JE X W k gk) (hv : JE X W v gv) : JE X W (.Dict [some k] [v] pos) (eDisp1 gk gv) := by
  refine PE.weak (pe_disp (pps_cons hk hv pps_nil) rfl rfl (by simp) (by simp)) fun σ H Q h p hp => ?_
  obtain ⟨τ, O, sl, ce, w, s, h⟩ := h
  have e0 : Ext τ O H (τ ++ [p]) (p :: O) (upd H p (.dK [])) := .cell hp
  have w0 : WFh (cfg X) (τ ++ [p]) (p :: O) (ce ++ [.dk [] []]) (upd H p (.dK [])) := w.push hp ⟨List.mem_cons_self, [], upd_same, rfl, repTs_nil.mpr rfl⟩
  refine ⟨τ ++ [p], p :: O, sl, ce ++ [.dk [] []], w0, s.ext e0, (PostG.bind (PostG.ext e0 h)).mono fun τ1 O1 ce1 H1 x e1 w1 h1 vx rx => ?_⟩
  refine ⟨τ1, O1, sl, ce1, w1, (s.ext e0).ext e1, (PostG.bind h1).mono fun τ2 O2 ce2 H2 y e2 w2 h2 vy ry => ?_⟩
  have ht : τ2[ce.length]? = some p := e2.pre _ _ (e1.pre _ _ (cell_at w.len))
  obtain ⟨O3, e3, w3, r3⟩ := frz_ok w2 ry
  have rk := ((rx.ext e2).ext e3).view w3
  cases q2 : keyD (look (frz ce2 y).2 x) with
  | none => simp only [q2] at h2; exact h2.elim
  | some key =>
    cases q3 : (frz ce2 y).2[ce.length]? with
    | none => simp only [q2, q3] at h2; exact h2.elim
    | some m =>
      simp only [q2, q3] at h2
      split at h2
      · rename_i hm1 hm2
        cases hm1
        cases hm2
        obtain ⟨hO, vs, hH, hl, rs⟩ := w3.cell _ p _ ht q3
        have hv0 : vs = [] := repTs_nil.mp rs
        subst hv0
        refine ⟨hH, [(key, vy)], by rw [keyD_view q2 rk]; rfl, by simp, ?_⟩
        have em : Ext τ2 O3 H2 τ2 O3 (upd H2 p (.dK [(key, vy)])) := .mut hO
        exact h2 τ2 O3 _ (e3.trans em) (w3.set ht hO (show CellOk (cfg X) O3 _ p (.dk [key] [(frz ce2 y).1]) from ⟨hO, [vy], upd_same, rfl, RepTs.one (r3.ext em)⟩)) _ ⟨p, ht, rfl⟩
      · exact h2.elim
end
/-! d[k] = v, d[k] += v -/
def sDPut (go gi ge : EDen) : SDen := fun sl ce => (ge sl ce).st sl fun v ce1 => (go sl ce1).st sl fun x ce2 => (gi sl ce2).st sl fun i ce3 => match x, keyD (look ce3 i) with
  | .cel k, some key => match (frz ce3 v).2[k]? with
    | some (.dk ks xs) => if ks.length < 1000000 then .nx sl ((frz ce3 v).2.set k (.dk (putKs ks key) (putDs ks xs key (frz ce3 v).1))) else .bad
    | _ => .bad
  | _, _ => .bad
/-- of ints alone -/
def sDInc (go gi ge : EDen) : SDen := fun sl ce => (go sl ce).st sl fun x ce1 => (gi sl ce1).st sl fun i ce2 => match dDGet (look ce2 x) (look ce2 i) with
  | some (.int a) => (ge sl ce2).st sl fun y ce3 => match x, keyD (look ce2 i), y with
    | .cel k, some key, .int b => match ce3[k]? with
      | some (.dk ks xs) => if ks.length < 1000000 then .nx sl (ce3.set k (.dk (putKs ks key) (putDs ks xs key (.int (a + b))))) else .bad
      | _ => .bad
    | _, _, _ => .bad
  | _ => .bad
section
variable {X : Cx} {W : WX} {o i e : Expr} {go gi ge : EDen} {pos pos' tpos : Pos}
theorem js_dput (hu : X.A.units + 1 < cLine) (ho : JE X W o go) (hi : JE X W i gi) (he : JE X W e ge) (hs : swapsWith e (some (.Subscript o i pos')) pos.line X.env = pure false) : JS X W (.Assign [.Subscript o i pos'] e pos) (sDPut go gi ge) := by
  refine PS.weak (ps_dput hu ho hi he hs) fun D σ H h => ?_
  obtain ⟨τ, O, sl, ce, w, s, h⟩ := h
  refine ⟨τ, O, sl, ce, w, s, (PostS.st s h).mono fun τ1 O1 ce1 H1 dv e1 w1 h1 v rv => ?_⟩
  refine ⟨τ1, O1, sl, ce1, w1, s.ext e1, (PostS.st (s.ext e1) h1).mono fun τ2 O2 ce2 H2 dx e2 w2 h2 x rx => ?_⟩
  refine ⟨τ2, O2, sl, ce2, w2, (s.ext e1).ext e2, (PostS.st ((s.ext e1).ext e2) h2).mono fun τ3 O3 ce3 H3 di e3 w3 h3 y ry => ?_⟩
  replace rx := rx.ext e3
  replace rv := (rv.ext e2).ext e3
  split at h3
  · rename_i k key hkey
    obtain ⟨a, hk, rfl⟩ := rx
    obtain ⟨O4, e4, w4, r4⟩ := frz_ok w3 rv
    split at h3
    · rename_i ks xs hx
      split at h3
      · rename_i hl
        obtain ⟨hO, us, hu', hlen, rus⟩ := w4.cell k a _ hk hx
        obtain ⟨ws, p1, p2, p3⟩ := put_rep (k := key) rus hlen r4
        have em : Ext τ3 O4 H3 τ3 O4 (upd H3 a (.dK ((putKs ks key).zip ws))) := .mut hO
        have hput := DPut.k (k := key) (v := v) hu' (by rw [List.length_zip, ← hlen, Nat.min_self]; exact Nat.lt_of_lt_of_le hl sz1)
        rw [p1, ← keyD_view hkey (ry.view w3)] at hput
        refine ⟨a, _, rfl, hput, ?_⟩
        exact h3 τ3 O4 σ _ (e4.trans em) (w4.set hk hO (show CellOk (cfg X) O4 _ a (.dk (putKs ks key) (putDs ks xs key (frz ce3 dv).1)) from ⟨hO, ws, upd_same, p2, p3.ext em⟩)) ((((s.ext e1).ext e2).ext e3).ext (e4.trans em))
      · exact h3.elim
    · exact h3.elim
  · exact h3.elim
theorem js_dinc (hu : X.A.units + 1 < cLine) (ho : JE X W o go) (hi : JE X W i gi) (he : JE X W e ge)
    (ha : ∀ ov iv new, augStore i ov iv new = (do holding [new, ov, iv] (setItem ov iv new); release [new, ov, iv] []; pure .next)) : JS X W (.AugAssign (.Subscript o i tpos) .Add e pos) (sDInc go gi ge) := by
  refine PS.weak (ps_daug hu ho hi he in_add ha) fun D σ H h => ?_
  obtain ⟨τ, O, sl, ce, w, s, h⟩ := h
  refine ⟨τ, O, sl, ce, w, s, (PostS.st s h).mono fun τ1 O1 ce1 H1 dx e1 w1 h1 x rx => ?_⟩
  refine ⟨τ1, O1, sl, ce1, w1, s.ext e1, (PostS.st (s.ext e1) h1).mono fun τ2 O2 ce2 H2 di e2 w2 h2 y ry => ?_⟩
  have rx2 := (rx.ext e2).view w2
  have ry2 := ry.view w2
  split at h2
  · rename_i i0 hd0
    cases q1 : look ce2 dx with
    | dk ks0 xs0 =>
      rw [q1] at hd0 rx2
      obtain ⟨a, vs0, rfl, hp, hl0, rs0⟩ := rx2.dk
      cases q2 : keyD (look ce2 di) with
      | none => simp only [dDGet, q2] at hd0; cases hd0
      | some key =>
        simp only [dDGet, q2] at hd0
        obtain ⟨v', hv, rv⟩ := (valD_rep key rs0 hl0).1 _ hd0
        have ev := repT_int.mp rv
        subst ev
        have hg := DGet.k (k := key) hp
        rw [hv, ← keyD_view q2 ry2] at hg
        refine ⟨a, _, rfl, hg, τ2, O2, sl, ce2, w2, (s.ext e1).ext e2, (PostS.st ((s.ext e1).ext e2) h2).mono fun τ3 O3 ce3 H3 dy e3 w3 h3 z rz => ?_⟩
        have rx3 := (rx.ext e2).ext e3
        simp only [q2] at h3
        split at h3
        · rename_i k key' j hk1
          cases hk1
          obtain ⟨a', hk, ea⟩ := rx3
          cases ea
          have ej := rz.toInt
          subst ej
          split at h3
          · rename_i ks xs hx
            split at h3
            · rename_i hl
              obtain ⟨hO, us, hu', hlen, rus⟩ := w3.cell k a _ hk hx
              obtain ⟨ws, p1, p2, p3⟩ := put_rep (k := key) rus hlen (show RepT (cfg X) O3 H3 (.int (i0 + j)) (.int (i0 + j)) from repT_int.mpr rfl)
              have em : Ext τ3 O3 H3 τ3 O3 (upd H3 a (.dK ((putKs ks key).zip ws))) := .mut hO
              have hput := DPut.k (k := key) (v := .int (i0 + j)) hu' (by rw [List.length_zip, ← hlen, Nat.min_self]; exact Nat.lt_of_lt_of_le hl sz1)
              rw [p1, ← keyD_view q2 ry2] at hput
              refine ⟨i0, j, rfl, rfl, _, hput, ?_⟩
              exact h3 τ3 O3 σ _ em (w3.set hk hO (show CellOk (cfg X) O3 _ a (.dk (putKs ks key) (putDs ks xs key (.int (i0 + j)))) from ⟨hO, ws, upd_same, p2, p3.ext em⟩)) ((((s.ext e1).ext e2).ext e3).ext em)
            · exact h3.elim
          · exact h3.elim
        · exact h3.elim
    | _ => rw [q1] at hd0; cases hd0
  · exact h2.elim
end
/-! sorted(d) -/
def keyInts : List Key → Option (List Int)
  | [] => some []
  | .inl i :: ks => (keyInts ks).map (i :: ·)
  | .inr _ :: _ => none
theorem keyInts_eq : ∀ {ks : List Key} {ns : List Int}, keyInts ks = some ns → ks = ns.map Sum.inl
  | [], ns, h => by cases h; rfl
  | .inl i :: ks, ns, h => by
    cases q : keyInts ks with
    | none => simp [keyInts, q] at h
    | some ms =>
      simp only [keyInts, q, Option.map_some, Option.some.injEq] at h
      rw [← h, keyInts_eq q]; rfl
  | .inr _ :: _, ns, h => by cases h
def dSortD : List D → Option D
  | [.dk ks _] => match keyInts ks with
    | some ns => if ns.length < 64 then some (.lst ((sortI ns).map D.int)) else none
    | none => none
  | _ => none
theorem cj_sortD {X : Cx} (hc : X.calm = true) : CallJ X (.builtin "sorted") dSortD := by
  refine cj_intr (call_sortedDI hc) fun H Q O ds d vs trk r e q => ?_
  unfold dSortD at e
  split at e
  · rename_i ks xs
    cases h : keyInts ks with
    | none => rw [h] at e; cases e
    | some ns =>
      simp only [h] at e
      split at e
      · rename_i h64
        cases e
        obtain ⟨v, rfl, r1⟩ := r.one
        obtain ⟨p, us, rfl, hp, hl, rs⟩ := r1.dk
        refine ⟨p, _, ns, rfl, .of hp, ?_, h64, fun ys p2 h1 h2 h3 => q _ _ (same_upd h3) ?_⟩
        · rw [List.map_fst_zip (by omega)]; exact keyInts_eq h
        · rw [sortI_only h1 h2]
          exact new_lst trk h3 (RepTs.ofInts _)
      · cases e
  · cases e
theorem hu1 {n : Nat} (h : n + 64 < cLine) : n + 1 < cLine := by omega
/-! [a, ..] * n, text * n -/
def eRepL (ga : SEnv → Cells → Out (List D)) (gn : EDen) : EDen := fun sl ce => (ga sl ce).bind fun xs ce1 => if xs.length ≤ 1000 then (gn sl (frzs ce1 xs).2).bind fun d ce2 => match d with
  | .int k => if -1000 ≤ k ∧ k ≤ 1000 then .ok (.lst (List.replicate k.toNat (frzs ce1 xs).1).flatten) ce2 else .bad
  | _ => .bad else .bad
def dMulS : D → D → Option D
  | .str x, .int k => if x.length ≤ 1000 ∧ -1000 ≤ k ∧ k ≤ 1000 then some (.str (List.replicate k.toNat x).flatten) else none
  | _, _ => none
theorem flat_len {α : Type} (xs : List α) : ∀ n : Nat, (List.replicate n xs).flatten.length = n * xs.length
  | 0 => by simp
  | n + 1 => by rw [List.replicate_succ, List.flatten_cons, List.length_append, flat_len xs n, Nat.succ_mul, Nat.add_comm]
theorem RepTs.flat {c : Cfg} {O : List Addr} {H : Hp} {xs : List D} {vs : List V} (r : RepTs c O H xs vs) : ∀ n : Nat, RepTs c O H (List.replicate n xs).flatten (List.replicate n vs).flatten
  | 0 => repTs_nil.mpr rfl
  | n + 1 => by
    rw [List.replicate_succ, List.replicate_succ, List.flatten_cons, List.flatten_cons]
    exact r.append (RepTs.flat r n)
section
variable {X : Cx} {W : WX} {es : List Expr} {b : Expr} {ga : SEnv → Cells → Out (List D)} {gn : EDen} {p pos : Pos}
theorem je_repL (ha : JA X W es ga) (hn : JE X W b gn) : JE X W (.BinOp (.List es p) .Mult b pos) (eRepL ga gn) := by
  refine PE.weak (pe_op op_rep (pe_lst ha) hn) fun σ H Q h => ?_
  obtain ⟨τ, O, sl, ce, w, s, h⟩ := h
  refine ⟨τ, O, sl, ce, w, s, (PostG.bind h).mono fun τ1 O1 ce1 H1 xs e1 w1 h1 vs r => ?_⟩
  split at h1
  · rename_i hl
    obtain ⟨O2, e2, w2, q2⟩ := frzs_ok w1 r
    refine ⟨by rw [← r.length]; exact le1000 hl, fun a ha => ?_⟩
    have sm := same_upd (o := .lst vs) ha
    have e3 : Ext τ1 O2 H1 τ1 O2 (upd H1 a (.lst vs)) := .same sm
    have na : a ∉ O2 := fun z => w2.trk a z ha
    refine ⟨τ1, O2, sl, _, w2.same sm, (s.ext e1).ext (e2.trans e3), (PostG.bind (PostG.ext (e2.trans e3) h1)).mono fun τ3 O3 ce3 H3 d e4 w3 h3 v rv => ?_⟩
    cases d with
    | int k =>
      simp only at h3
      split at h3
      · rename_i hk
        have q4 := (q2.ext e3).ext e4
        refine ⟨a, k, vs, rfl, rv.toInt, e4.keep na upd_same, by omega, by omega, ?_, fun p hp => ?_⟩
        · have h1 : vs.length * k.toNat ≤ 1000 * 1000 := Nat.mul_le_mul (by rw [← r.length]; exact hl) (by omega)
          exact Nat.le_trans h1 sz1
        · have s5 := same_upd (o := .lst (List.replicate k.toNat vs).flatten) hp
          exact h3 τ3 O3 _ (.same s5) (w3.same s5) _ (new_lst w3.trk hp (q4.flat _)).rep
      · exact h3.elim
    | _ => exact h3.elim
  · exact h1.elim
def rMulS : R2 := fun x y H Q => ∃ a n, x = .str a ∧ y = .int n ∧ MulOk a n ∧ Q (.str (Txt.mul a n)) H
theorem op_mulS : OpR X (binaryOp .Mult) rMulS := by
  intro pins s σ H x y v u Q I rx ry h
  obtain ⟨a, n, rfl, rfl, hok, q⟩ := h
  obtain ⟨t, rfl⟩ := rx
  obtain ⟨t', rfl⟩ := ry
  exact SB.mul hok fun t2 k => ⟨.str (Txt.mul a n), H, I.tok _, ⟨t2, rfl⟩, q⟩
theorem flat_arr (x : List Nat) : ∀ n : Nat, (List.replicate n x.toArray).foldl (· ++ ·) #[] = (List.replicate n x).flatten.toArray := by
  have key : ∀ (n : Nat) (acc : List Nat), (List.replicate n x.toArray).foldl (· ++ ·) acc.toArray = (acc ++ (List.replicate n x).flatten).toArray := by
    intro n
    induction n with
    | zero => intro acc; simp
    | succ n ih =>
      intro acc
      rw [List.replicate_succ, List.foldl_cons, List.append_toArray, ih, List.replicate_succ, List.flatten_cons, List.append_assoc]
  intro n
  exact key n []
theorem txt_mul {x : List Nat} {k : Int} : Txt.mul (toStr x) k = toStr (List.replicate k.toNat x).flatten := by
  unfold Txt.mul
  by_cases h1 : k < 1
  · rw [if_pos h1]
    have : k.toNat = 0 := by omega
    rw [this]; rfl
  · rw [if_neg h1]
    split
    · rename_i h2
      rcases Bool.or_eq_true_iff.mp h2 with h2 | h2
      · have : k = 1 := by simpa using h2
        subst this
        show toStr x = toStr _
        simp
      · have : x = [] := by
          have : (toStr x).length = 0 := by simpa using h2
          have h3 : x.length = 0 := by simpa [toStr, PySem.Str.length] using this
          exact List.length_eq_zero_iff.mp h3
        subst this
        show toStr [] = toStr _
        congr 1
        have : ∀ n : Nat, (List.replicate n ([] : List Nat)).flatten = [] := fun n => by induction n <;> simp_all [List.replicate_succ]
        rw [this]
    · show Str.mk _ = Str.mk _
      congr 1
      exact flat_arr x _
theorem oj_mulS : OpJ X (binaryOp .Mult) dMulS := by
  refine oj_intr op_mulS fun H Q O dx dy d x y trk r1 r2 e q => ?_
  unfold dMulS at e
  split at e
  · rename_i z k
    split at e
    · rename_i hk
      cases e
      refine ⟨toStr z, k, r1.str.1, r2.int, ?_, ?_⟩
      · refine mulOk_of 1000 1000 ?_ ?_ ?_ (by decide) (by decide)
        · simpa [toStr, PySem.Str.length] using hk.1
        · omega
        · omega
      · rw [txt_mul]
        refine q _ H (.refl _) (repT_str.mpr ⟨rfl, ?_, fun c hc => ?_⟩)
        · rw [flat_len]
          have : k.toNat * z.length ≤ 1000 * 1000 := Nat.mul_le_mul (by omega) hk.1
          exact this
        · obtain ⟨l, hl, hcl⟩ := List.mem_flatten.mp hc
          rw [(List.mem_replicate.mp hl).2] at hcl
          exact r1.str.2.2 c hcl
    · cases e
  · cases e
end
end Ib

set_option Elab.async false
set_option linter.all false
set_option maxRecDepth 100000
set_option maxHeartbeats 2000000
/-! The J layer, part Z: sets of ints and texts as data: set(..), len, sorted, in. -/
namespace Ib
open PySem PySem.Spec PyProof.Rows L2
theorem perm_map_of {α β : Type} {f : α → β} {ys ks : List β} (p : ys.Perm ks) : ∀ {ts : List α}, ys = ts.map f → ∃ l : List α, ks = l.map f ∧ l.Perm ts := by
  induction p with
  | nil =>
    intro ts e
    cases ts with
    | nil => exact ⟨[], rfl, .refl _⟩
    | cons a r => cases e
  | cons x p ih =>
    intro ts e
    cases ts with
    | nil => cases e
    | cons a r =>
      rw [List.map_cons] at e
      injection e with e1 e2
      obtain ⟨l, h1, h2⟩ := ih e2
      exact ⟨a :: l, by rw [List.map_cons, h1, e1], h2.cons a⟩
  | swap x y l =>
    intro ts e
    match ts, e with
    | a :: b :: r, e =>
      rw [List.map_cons, List.map_cons] at e
      injection e with e1 e2
      injection e2 with e2 e3
      exact ⟨b :: a :: r, by rw [List.map_cons, List.map_cons, e1, e2, e3], .swap _ _ _⟩
  | trans p1 p2 i1 i2 =>
    intro ts e
    obtain ⟨l, h1, h2⟩ := i1 e
    obtain ⟨l2, h3, h4⟩ := i2 h1
    exact ⟨l2, h3, h4.trans h2⟩
theorem vals_perm {us vs : List Value} (p : us.Perm vs) : ∀ {xs : List V}, Vals xs us → ∃ ys, Vals ys vs ∧ ys.Perm xs := by
  induction p with
  | nil => exact fun h => ⟨_, h, .refl _⟩
  | cons x p ih =>
    intro xs h
    cases h with
    | cons h1 h2 =>
      obtain ⟨ys, h3, h4⟩ := ih h2
      exact ⟨_, .cons h1 h3, h4.cons _⟩
  | swap x y l =>
    intro xs h
    cases h with
    | cons h1 h2 =>
      cases h2 with
      | cons h2 h3 => exact ⟨_, .cons h2 (.cons h1 h3), .swap _ _ _⟩
  | trans p1 p2 i1 i2 =>
    intro xs h
    obtain ⟨ys, h1, h2⟩ := i1 h
    obtain ⟨zs, h3, h4⟩ := i2 h1
    exact ⟨zs, h3, h4.trans h2⟩
section
variable {X : Cx}
theorem cr_setQ (hc : X.calm = true) : CallR X (.type "set") (fun xs H Q => ∃ ks : List Key, ((∃ z : Str, xs = [.str z] ∧ ks = z.cps.toList.map fun c => .inr ⟨#[c]⟩) ∨ ∃ a, xs = [.ref a] ∧ SqL X.K H a (ks.map kV)) ∧ ks.length + 1 < scanBound ∧
    ∀ p, H p = none → Q (.ref p) (upd H p (SetQO X.w p (unqK ks)))) := by
  intro pins s σ H xs us Q I r h
  obtain ⟨ks, hx, hb, q⟩ := h
  have hh := I.ok.hd hc
  have fin : ∀ h' tk, SetQ X.w h' s.heap.objs.size (unqK ks) → (∀ b o, s.heap.get? b = some o → h'.get? b = some o) → EP X pins σ Q (.ref s.heap.objs.size) { s with heap := h', toks := tk } := fun h' tk R k =>
    ⟨.ref _, upd H s.heap.objs.size (SetQO X.w s.heap.objs.size (unqK ks)), I.laid (t' := tk) k (Nat.le_refl _) (setQO_new R), rfl, q _ (I.hok.fresh (Nat.le_refl _))⟩
  rcases hx with ⟨z, rfl, hk⟩ | ⟨a, rfl, hs⟩
  · obtain ⟨u, rfl, rx⟩ := vals1 r
    obtain ⟨t, rfl⟩ := rx
    exact call_setQ (S := unqK ks) hh (upd_str hk hb) fin
  · obtain ⟨its, rv, hl, _⟩ := I.list hs
    rw [Vals.ref1 r]
    exact call_setQ (S := unqK ks) hh (upd_list hl.isList rv hb) fin
theorem cr_lenQ : CallR X (.builtin "len") (fun xs H Q => ∃ a S, xs = [.ref a] ∧ H a = some (SetQO X.w a S) ∧ Q (.int S.length) H) := by
  intro pins s σ H xs us Q I r h
  obtain ⟨a, S, rfl, ha, q⟩ := h
  rw [Vals.ref1 r]
  obtain ⟨o, es, ep, t, ks, ho, hx, hd, he, hp, nd, hb, hf, hr, hl⟩ := setQO_get I ha
  have e : es.size = S.length := by rw [← Array.length_toList, he.len, hp.length_eq]
  have hb' : es.size < 4096 := hb
  refine call_len_set ho hx hd hf (by omega) ?_
  rw [e]
  exact ⟨.int S.length, H, I.tok _, ⟨_, rfl⟩, q⟩
theorem cr_sortedQ (hc : X.calm = true) : CallR X (.builtin "sorted") (fun xs H Q => ∃ a S, xs = [.ref a] ∧ H a = some (SetQO X.w a S) ∧ S.length < 64 ∧
    ((∃ ts : List Str, S = ts.map Sum.inr ∧ ∀ (ys : List Str) p, ys.Perm ts → sortedS ys = true → H p = none → Q (.ref p) (upd H p (.lst (ys.map V.str)))) ∨
     ∃ ns : List Int, S = ns.map Sum.inl ∧ ∀ (ys : List Int) p, ys.Perm ns → ys.Pairwise (· ≤ ·) → H p = none → Q (.ref p) (upd H p (.lst (ys.map V.int))))) := by
  intro pins s σ H xs us Q I r h
  obtain ⟨a, S, rfl, ha, h64, q⟩ := h
  rw [Vals.ref1 r]
  obtain ⟨o, es, ep, t, ks, ho, hx, hd, he, hp, nd, hb, hf, hr, hl⟩ := setQO_get I ha
  refine Calls.call_function_entry kind_sorted plain_sorted entry_sorted (args_sorted1 _) ?_
  unfold Builtin.«sorted»
  refine wpAny_bind (m := checkCount "sorted" 1 1 _) (wpAny_pure ?_)
  refine wpAny_bind (collect_set (A := X.A.in1) (I.ok.hd hc) ⟨o, ho, hx.1, hd⟩ hf hb hr hl fun s1 vs k1 sz g1 o1 pm => ?_)
  have hvl : vs.length = S.length := by rw [pm.length_eq, List.length_map, he.len, hp.length_eq]
  refine wpAny_bind (wpAny_newList ?_ (by rw [hvl, sizeLine_eq]; omega))
  have hoL : (s1.heap.push (seqObj "list" vs.toArray 0)).get? s1.heap.objs.size = some (seqObj "list" vs.toArray 0) := Heap.get?_push_size _ rfl
  have es1 : s1 = { s with heap := s1.heap, gens := s1.gens, drawn := s1.drawn, toks := s1.toks } := by
    cases s1
    cases s
    cases o1
    rfl
  have keep : ∀ (out : Array Value) b u, s.heap.get? b = some u → (sortedHeap (s1.heap.push (seqObj "list" vs.toArray 0)) s1.heap.objs.size vs out).get? b = some u := fun out b u e => by
    have e1 := k1 b u e
    have hlt := Heap.lt_size e1
    rw [sortedHeap_old (Nat.ne_of_lt hlt) (by rw [size_push']; exact Nat.lt_succ_of_lt hlt)]
    exact Heap.get?_push_of_some _ e1
  have hn : H s1.heap.objs.size = none := I.hok.fresh sz
  have fin : ∀ (out : Array Value) (xs : List V) (tk : Tok), xs.length < 64 → Vals xs out.toList → Q (.ref s1.heap.objs.size) (upd H s1.heap.objs.size (.lst xs)) →
      EP X pins σ Q (.ref s1.heap.objs.size) { s1 with heap := sortedHeap (s1.heap.push (seqObj "list" vs.toArray 0)) s1.heap.objs.size vs out, toks := tk } := fun out xs tk hlx rv qx => by
    obtain ⟨c, hcx⟩ := sortedHeap_at (vs := vs) (out := out) hoL
    have J : Inv X pins σ (upd H s1.heap.objs.size (.lst xs)) { s with heap := sortedHeap (s1.heap.push (seqObj "list" vs.toArray 0)) s1.heap.objs.size vs out, gens := s1.gens, drawn := s1.drawn, toks := tk } :=
      I.call (ch := []) (Un.laid (keep out) sz hn) (I.hok.laid (keep out) sz ⟨by rw [sizeLine_eq]; omega, out.toList, c, rv, by rw [Array.toArray_toList]; exact hcx⟩) (by rw [g1]; exact I.bare) (fun _ z => nomatch z)
    rw [es1]
    exact ⟨.ref _, _, J, rfl, qx⟩
  rcases q with ⟨ts, rfl, q⟩ | ⟨ns, rfl, q⟩
  · obtain ⟨ts1, ek, pt⟩ := perm_map_of hp.symm rfl
    have v0 := he.vals
    rw [ek, List.map_map] at v0
    obtain ⟨ys0, v1, v2⟩ := vals_perm pm.symm v0
    obtain ⟨ts2, e2, p2⟩ := perm_map_of v2.symm (ts := ts1) rfl
    rw [e2] at v1
    have hS : StrsAre vs ts2 := Vals.strs v1
    refine wpAny_bind (wpAny_holding (wpAny_call_entry slot_list_sort ⟨_, hoL, rfl⟩ entry_list_sort
      (list_sort_treeK strKind_oneLt (s := { s1 with heap := s1.heap.push (seqObj "list" vs.toArray 0) }) hoL hS.keysOf (fun v₁ v₂ rest e => keyKind_strs (by rw [← e]; exact hS)) (by rw [hvl]; exact h64) fun st' a1 a2 => ⟨_, rfl, ?_⟩) (args_list_sort _)))
    obtain ⟨ys, g1', g2, g3⟩ := sorted_out_str hS a1 a2
    refine wpAny_pure ⟨_, rfl, ?_⟩
    refine fin _ (ys.map V.str) _ ?_ (vals_of_strs g1') (q ys _ (g2.trans (p2.trans pt)) g3 hn)
    rw [List.length_map, g2.length_eq, p2.length_eq, pt.length_eq]
    simpa using h64
  · obtain ⟨ns1, ek, pt⟩ := perm_map_of hp.symm rfl
    have v0 := he.vals
    rw [ek, List.map_map] at v0
    obtain ⟨ys0, v1, v2⟩ := vals_perm pm.symm v0
    obtain ⟨ns2, e2, p2⟩ := perm_map_of v2.symm (ts := ns1) rfl
    rw [e2] at v1
    have hI : IntsAre vs ns2 := Vals.ints v1
    refine wpAny_bind (wpAny_holding (wpAny_call_entry slot_list_sort ⟨_, hoL, rfl⟩ entry_list_sort (list_sort_tree hoL hI (by rw [hvl]; exact h64) fun out ys a1 a2 a3 => ⟨_, rfl, ?_⟩) (args_list_sort _)))
    refine wpAny_pure ⟨_, rfl, ?_⟩
    refine fin _ (ys.map V.int) _ ?_ (vals_of_ints a1) (q ys _ (a2.trans (p2.trans pt)) a3 hn)
    rw [List.length_map, a2.length_eq, p2.length_eq, pt.length_eq]
    simpa using h64
end

/-! ### the same as denotations -/
def keysD : List D → Option (List Key)
  | [] => some []
  | d :: ds => match keyD d, keysD ds with
    | some k, some ks => some (k :: ks)
    | _, _ => none
section
variable {c : Cfg} {O : List Addr} {H : Hp}
theorem keyD_rep {d : D} {k : Key} {v : V} (e : keyD d = some k) (r : RepT c O H d v) : v = kV k ∧ okK k := by
  cases d with
  | int i => cases e; exact ⟨repT_int.mp r, trivial⟩
  | str x =>
    cases e
    obtain ⟨h1, h2⟩ := repT_str.mp r
    exact ⟨h1, by simpa [okK, toStr] using h2⟩
  | _ => cases e
theorem keysD_rep : ∀ {ds : List D} {ks : List Key} {vs : List V}, keysD ds = some ks → RepTs c O H ds vs → vs = ks.map kV ∧ ks.length = ds.length ∧ ∀ k ∈ ks, okK k
  | [], ks, vs, e, r => by
    cases e
    exact ⟨repTs_nil.mp r, rfl, fun k hk => by cases hk⟩
  | d :: ds, ks, vs, e, r => by
    obtain ⟨v, r', rfl, r1, r2⟩ := repTs_cons.mp r
    unfold keysD at e
    cases h1 : keyD d with
    | none => simp [h1] at e
    | some k =>
      cases h2 : keysD ds with
      | none => simp [h1, h2] at e
      | some ks' =>
        simp only [h1, h2, Option.some.injEq] at e
        subst e
        obtain ⟨e1, e2⟩ := keyD_rep h1 r1
        obtain ⟨e3, e4, e5⟩ := keysD_rep h2 r2
        refine ⟨by rw [e1, e3]; rfl, by simp [e4], fun j hj => ?_⟩
        rcases List.mem_cons.mp hj with z | z
        · rw [z]; exact e2
        · exact e5 j z
theorem new_st {p : Addr} {ks : List Key} (trk : ∀ a ∈ O, H a ≠ none) (hp : H p = none) (h : ∀ k ∈ ks, okK k) : RepT c O (upd H p (SetQO c.w p ks)) (.st ks) (.ref p) :=
  repT_st.mpr ⟨p, rfl, fun z => trk p z hp, upd_same, h⟩
end
def sgK (k : Nat) : Key := .inr (toStr [k])
def dSet : List D → Option D
  | [.str x] => if x.length ≤ 4000 then some (.st (unqK (x.map sgK))) else none
  | [.lst xs] => if xs.length ≤ 4000 then (keysD xs).map fun ks => .st (unqK ks) else none
  | _ => none
theorem sb4 {n : Nat} (h : n ≤ 4000) : n + 1 < scanBound := by
  have : scanBound = 4096 := rfl
  omega
section
variable {X : Cx}
theorem cj_set (hc : X.calm = true) : CallJ X (.type "set") dSet := by
  refine cj_intr (cr_setQ hc) fun H Q O ds d vs trk r e q => ?_
  unfold dSet at e
  split at e
  · rename_i x
    split at e
    · rename_i hl
      cases e
      obtain ⟨v, rfl, r1⟩ := r.one
      refine ⟨x.map sgK, .inl ⟨_, by rw [r1.str.1], by simp [sgK, toStr]⟩, sb4 (by rw [List.length_map]; exact hl), fun p hp => q _ _ (same_upd hp) (new_st trk hp fun k hk => ?_)⟩
      obtain ⟨j, h1, rfl⟩ := List.mem_map.mp (mem_unqK.mp hk)
      refine ⟨by simp [toStr], fun c hc => ?_⟩
      have : c = j := by simpa [toStr] using hc
      rw [this]
      exact r1.str.2.2 j h1
    · cases e
  · rename_i xs
    split at e
    · rename_i hl
      cases h : keysD xs with
      | none => rw [h] at e; cases e
      | some ks =>
        rw [h] at e
        cases e
        obtain ⟨v, rfl, r1⟩ := r.one
        obtain ⟨p, ws, rfl, h1, h2⟩ := r1.lst
        obtain ⟨e1, e2, e3⟩ := keysD_rep h h2
        subst e1
        exact ⟨ks, .inr ⟨p, rfl, h1⟩, sb4 (by rw [e2]; exact hl), fun p2 hp => q _ _ (same_upd hp) (new_st trk hp fun k hk => e3 k (mem_unqK.mp hk))⟩
    · cases e
  · cases e
theorem RepV.st {c : Cfg} {O : List Addr} {H : Hp} {ks : List Key} {v : V} (h : RepV c O H (.st ks) v) : ∃ p, v = .ref p ∧ H p = some (SetQO c.w p ks) ∧ ∀ k ∈ ks, okK k := h
def dLenQ : List D → Option D
  | [.st ks] => some (.int ks.length)
  | _ => none
theorem cj_lenQ : CallJ X (.builtin "len") dLenQ := by
  refine cj_intr cr_lenQ fun H Q O ds d vs trk r e q => ?_
  unfold dLenQ at e
  split at e
  · cases e
    obtain ⟨v, rfl, r1⟩ := r.one
    obtain ⟨p, rfl, h2, h3⟩ := r1.st
    exact ⟨p, _, rfl, h2, int_end q⟩
  · cases e
/-! texts in order -/
def insT (x : List Nat) : List (List Nat) → List (List Nat)
  | [] => [x]
  | y :: r => if x ≤ y then x :: y :: r else y :: insT x r
def sortT : List (List Nat) → List (List Nat)
  | [] => []
  | x :: r => insT x (sortT r)
theorem insT_perm (x : List Nat) : ∀ r, (insT x r).Perm (x :: r)
  | [] => .refl _
  | y :: r => by
    unfold insT
    split
    · exact .refl _
    · exact ((insT_perm x r).cons y).trans (.swap x y r)
theorem sortT_perm : ∀ r, (sortT r).Perm r
  | [] => .refl _
  | x :: r => (insT_perm x _).trans ((sortT_perm r).cons x)
theorem insT_sorted (x : List Nat) : ∀ r, r.Pairwise (· ≤ ·) → (insT x r).Pairwise (· ≤ ·)
  | [], _ => by simp [insT]
  | y :: r, h => by
    unfold insT
    have h' := List.pairwise_cons.mp h
    split
    · rename_i hxy
      refine List.pairwise_cons.mpr ⟨fun z hz => ?_, h⟩
      rcases List.mem_cons.mp hz with rfl | hz
      · exact hxy
      · exact List.le_trans hxy (h'.1 z hz)
    · rename_i hxy
      refine List.pairwise_cons.mpr ⟨fun z hz => ?_, insT_sorted x r h'.2⟩
      rcases List.mem_cons.mp ((insT_perm x r).mem_iff.mp hz) with rfl | hz
      · exact (List.le_total z y).resolve_left hxy
      · exact h'.1 z hz
theorem sortT_sorted : ∀ r, (sortT r).Pairwise (· ≤ ·)
  | [] => .nil
  | x :: r => insT_sorted x _ (sortT_sorted r)
theorem sortT_only {l r : List (List Nat)} (hp : l.Perm r) (hs : l.Pairwise (· ≤ ·)) : l = sortT r :=
  List.Perm.eq_of_pairwise (fun a b _ _ h1 h2 => List.le_antisymm h1 h2) hs (sortT_sorted r) (hp.trans (sortT_perm r).symm)
theorem risingS_pair : ∀ (p : Str) (l : List Str), risingS p l = true → ((p :: l).map fun z => z.cps.toList).Pairwise (· ≤ ·)
  | p, [], _ => by simp
  | p, x :: r, h => by
    have h : (!ltCps x.cps.toList p.cps.toList && risingS x r) = true := h
    obtain ⟨h1, h2⟩ := Bool.and_eq_true_iff.mp h
    have ih := risingS_pair x r h2
    rw [ltCps_eq] at h1
    have h1 : ¬ x.cps.toList < p.cps.toList := by simpa using h1
    rw [List.map_cons]
    refine List.pairwise_cons.mpr ⟨fun z hz => ?_, ih⟩
    rw [List.map_cons] at hz ih
    rcases List.mem_cons.mp hz with e | hz
    · rw [e]; exact h1
    · exact List.le_trans (show p.cps.toList ≤ x.cps.toList from h1) ((List.pairwise_cons.mp ih).1 z hz)
theorem sortedS_pair {l : List Str} (h : sortedS l = true) : (l.map fun z => z.cps.toList).Pairwise (· ≤ ·) := by
  cases l with
  | nil => exact .nil
  | cons x r => exact risingS_pair x r h
theorem toStr_list (z : Str) : toStr z.cps.toList = z := by
  unfold toStr
  rw [Array.toArray_toList]
theorem sortedS_only {ys : List Str} {ts : List (List Nat)} (hp : ys.Perm (ts.map toStr)) (hs : sortedS ys = true) : ys = (sortT ts).map toStr := by
  have h1 := sortT_only (r := ts) (by
    have z := hp.map fun z : Str => z.cps.toList
    rw [List.map_map] at z
    have e : ts.map ((fun z : Str => z.cps.toList) ∘ toStr) = ts := by
      conv => rhs; rw [← List.map_id ts]
      exact List.map_congr_left fun x _ => by simp [toStr]
    rw [e] at z
    exact z) (sortedS_pair hs)
  rw [← h1, List.map_map]
  conv => lhs; rw [← List.map_id ys]
  exact List.map_congr_left fun x _ => (toStr_list x).symm
def keyStrs : List Key → Option (List (List Nat))
  | [] => some []
  | .inr x :: ks => (keyStrs ks).map (x.cps.toList :: ·)
  | .inl _ :: _ => none
theorem keyStrs_eq : ∀ {ks : List Key} {ts : List (List Nat)}, keyStrs ks = some ts → ks = (ts.map toStr).map Sum.inr
  | [], ns, h => by cases h; rfl
  | .inr x :: ks, ns, h => by
    cases q : keyStrs ks with
    | none => simp [keyStrs, q] at h
    | some ms =>
      simp only [keyStrs, q, Option.map_some, Option.some.injEq] at h
      rw [← h, keyStrs_eq q, List.map_cons, List.map_cons, toStr_list]
  | .inl _ :: _, ns, h => by cases h
theorem sortT_ok {ts : List (List Nat)} (h : ∀ t ∈ ts, okS t) : ∀ t ∈ sortT ts, okS t := fun t ht => h t ((sortT_perm ts).mem_iff.mp ht)
def dSortQ : List D → Option D
  | [.st ks] => if ks.length < 64 then (match keyStrs ks with
    | some ts => some (.lst ((sortT ts).map D.str))
    | none => (keyInts ks).map fun ns => .lst ((sortI ns).map D.int)) else none
  | _ => none
theorem cj_sortQ (hc : X.calm = true) : CallJ X (.builtin "sorted") dSortQ := by
  refine cj_intr (cr_sortedQ hc) fun H Q O ds d vs trk r e q => ?_
  unfold dSortQ at e
  split at e
  · rename_i ks
    split at e
    · rename_i h64
      obtain ⟨v, rfl, r1⟩ := r.one
      obtain ⟨p, rfl, h2, h3⟩ := r1.st
      refine ⟨p, ks, rfl, h2, h64, ?_⟩
      split at e
      · rename_i ts ht
        cases e
        have ek := keyStrs_eq ht
        refine .inl ⟨ts.map toStr, ek, fun ys p2 a1 a2 a3 => q _ _ (same_upd a3) ?_⟩
        rw [sortedS_only a1 a2]
        rw [List.map_map]
        refine new_lst trk a3 (RepTs.ofStrs _ (sortT_ok fun t ht2 => ?_))
        have z := h3 (.inr (toStr t)) (by rw [ek]; exact List.mem_map.mpr ⟨_, List.mem_map.mpr ⟨t, ht2, rfl⟩, rfl⟩)
        simpa [okK, toStr] using z
      · cases hi : keyInts ks with
        | none => rw [hi] at e; cases e
        | some ns =>
          rw [hi] at e
          cases e
          refine .inr ⟨ns, keyInts_eq hi, fun ys p2 a1 a2 a3 => q _ _ (same_upd a3) ?_⟩
          rw [sortI_only a1 a2]
          exact new_lst trk a3 (RepTs.ofInts _)
    · cases e
  · cases e
/-- sorted(a list of texts) -/
theorem RepTs.oks {c : Cfg} {O : List Addr} {H : Hp} : ∀ {ts : List (List Nat)} {vs : List V}, RepTs c O H (ts.map D.str) vs → ∀ (t : List Nat), t ∈ ts → Ib.okS t
  | [], _, _, t, h => by cases h
  | x :: ts, vs, r, t, h => by
    obtain ⟨v, r', rfl, r1, r2⟩ := repTs_cons.mp r
    rcases List.mem_cons.mp h with z | z
    · rw [z]; exact (repT_str.mp r1).2
    · exact RepTs.oks r2 t z
def dSortT : List D → Option D
  | [.lst xs] => if xs.length < 64 then (asStrs xs).map fun ts => .lst ((sortT ts).map D.str) else none
  | _ => none
theorem cj_sortT : CallJ X (.builtin "sorted") dSortT := by
  refine cj_intr cr_sortedS fun H Q O ds d vs trk r e q => ?_
  unfold dSortT at e
  split at e
  · rename_i xs
    split at e
    · rename_i h64
      cases h : asStrs xs with
      | none => rw [h] at e; cases e
      | some ts =>
        rw [h] at e
        cases e
        obtain ⟨v, rfl, r1⟩ := r.one
        obtain ⟨p, ws, rfl, h1, h2⟩ := r1.lst
        have ex := asStrs_eq h
        rw [ex] at h2
        have hw : ws = (ts.map toStr).map V.str := by rw [h2.strs, List.map_map]; rfl
        subst hw
        refine ⟨p, ts.map toStr, rfl, h1, ?_, fun ys p2 a1 a2 a3 => q _ _ (same_upd a3) ?_⟩
        · rw [List.length_map]
          rw [ex, List.length_map] at h64
          exact h64
        · rw [sortedS_only a1 a2]
          rw [List.map_map]
          exact new_lst trk a3 (RepTs.ofStrs _ (sortT_ok h2.oks))
    · cases e
  · cases e
/-- k in s -/
def dInQ : D → D → Option D
  | x, .st ks => match keyD x with
    | some k => some (.bl (decide (k ∈ ks)))
    | none => none
  | _, _ => none
def dNotInQ (x y : D) : Option D := notR (dInQ x y)
theorem op_inQ : OpR X (compareOp .In) (fun x y H Q => ∃ k a S, x = kV k ∧ y = .ref a ∧ H a = some (SetQO X.w a S) ∧ Q (.bl (decide (k ∈ S))) H) := by
  intro pins s σ H x y v u Q I rx ry h
  obtain ⟨k, a, S, rfl, rfl, ha, q⟩ := h
  cases ry
  exact wpAny_inSet_of (kV_is rx) (rel_scan rx) (setQO_get I ha).setOf ⟨.bl _, H, I.tok _, rfl, q⟩
theorem op_notinQ : OpR X (compareOp .NotIn) (fun x y H Q => ∃ k a S, x = kV k ∧ y = .ref a ∧ H a = some (SetQO X.w a S) ∧ Q (.bl (!decide (k ∈ S))) H) := by
  intro pins s σ H x y v u Q I rx ry h
  obtain ⟨k, a, S, rfl, rfl, ha, q⟩ := h
  cases ry
  exact wpAny_notInSet_of (kV_is rx) (rel_scan rx) (setQO_get I ha).setOf ⟨.bl _, H, I.tok _, rfl, q⟩
theorem inQ_cases {c : Cfg} {O : List Addr} {H : Hp} {dx dy d : D} {x y : V} (e : dInQ dx dy = some d) (r1 : RepV c O H dx x) (r2 : RepV c O H dy y) : ∃ k a S, x = kV k ∧ y = .ref a ∧ H a = some (SetQO c.w a S) ∧ d = .bl (decide (k ∈ S)) := by
  unfold dInQ at e
  split at e
  · rename_i ks
    split at e
    · rename_i k hk
      cases e
      obtain ⟨p, rfl, h2, h3⟩ := r2.st
      exact ⟨k, p, ks, keyD_view hk r1, rfl, h2, rfl⟩
    · cases e
  · cases e
theorem oj_inQ : OpJ X (compareOp .In) dInQ := by
  refine oj_intr op_inQ fun H Q O dx dy d x y trk r1 r2 e q => ?_
  obtain ⟨k, a, S, h1, h2, h3, rfl⟩ := inQ_cases e r1 r2
  exact ⟨k, a, S, h1, h2, h3, bl_end q⟩
theorem oj_notinQ : OpJ X (compareOp .NotIn) dNotInQ := by
  refine oj_intr op_notinQ fun H Q O dx dy d x y trk r1 r2 e q => ?_
  unfold dNotInQ at e
  cases ed : dInQ dx dy with
  | none => rw [ed] at e; cases e
  | some d' =>
    rw [ed] at e
    obtain ⟨k, a, S, h1, h2, h3, rfl⟩ := inQ_cases ed r1 r2
    cases e
    exact ⟨k, a, S, h1, h2, h3, bl_end q⟩
end

/-! ### tuple(range(a, b, step)) -/
def rgC (i k : Int) (n : Nat) : List V := (List.range n).map fun m => V.int (i + (m : Nat) * k)
theorem vals_rgC {i k : Int} {n : Nat} {acc : Array Value} (h : ItemsOf (fun m v => ∃ t, v = .int (i + m * k) t) acc n) : Vals (rgC i k n) acc.toList := by
  have e : acc.toList.length = n := by rw [Array.length_toList]; exact h.1
  unfold rgC
  rw [← e]
  refine vals_of_get acc.toList _ fun j u hj => ?_
  obtain ⟨t, rfl⟩ := h.2 j u (by rw [← hj, Array.getElem?_toList])
  exact ⟨t, rfl⟩
theorem rgC_rep {c : Cfg} {O : List Addr} {H : Hp} {i k : Int} {n : Nat} : RepTs c O H (rangeC i k n) (rgC i k n) := by
  unfold rangeC rgC
  have : ∀ l : List Nat, RepTs c O H (l.map fun (m : Nat) => D.int (i + (m : Nat) * k)) (l.map fun (m : Nat) => V.int (i + (m : Nat) * k)) := fun l => by
    induction l with
    | nil => exact repTs_nil.mpr rfl
    | cons x l ih => exact repTs_cons.mpr ⟨_, _, rfl, repT_int.mpr rfl, ih⟩
  exact this _
def tr3 : List D → Option (List D)
  | [.int i, .int j, .int k] => if decide (k ≠ 0) && decide (k.natAbs < 1073741824) && Builtin.Range.small i j k && decide (0 ≤ Builtin.Range.rangeSize i j k) && decide (Builtin.Range.rangeSize i j k ≤ 1000000) then some (rangeC i k (Builtin.Range.rangeSize i j k).toNat) else none
  | _ => none
def eTR3 (ga : SEnv → Cells → Out (List D)) : EDen := fun sl ce => (ga sl ce).bind fun ds ce1 => match tr3 ds with
  | some xs => .ok (.tup xs) ce1
  | none => .bad
section
variable {X : Cx} {W : WX}
theorem pe_tup3 {a b c : Expr} {ta : TA} {p pos p2 pos2 : Pos} (hc : X.calm = true) (ht : Gl X "tuple") (hmt : X.mg "tuple" = none) (hg : Gl X "range") (hm : X.mg "range" = none) (ha : PA X [a, b, c] ta)
    (hs : starEach [a, b, c] X.env = (false, eval a X.env) :: starEach [b, c] X.env) (hpl : (backTo pos2 (starEach [b, c] X.env)).any (·.1) = false)
    (na : starEach [.Call (.Name "range" p2) [a, b, c] [] pos2] X.env = (false, eval (.Call (.Name "range" p2) [a, b, c] [] pos2) X.env) :: starEach [] X.env) :
    PE X (.Call (.Name "tuple" p) [.Call (.Name "range" p2) [a, b, c] [] pos2] [] pos) (fun σ H Q => ta σ H fun vs H1 => ∃ i j k n, vs = [.int i, .int j, .int k] ∧ k ≠ 0 ∧ k.natAbs < 1073741824 ∧ Builtin.Range.small i j k = true ∧ Builtin.Range.rangeSize i j k = (n : Nat) ∧ n ≤ 1000000 ∧
      ∀ q, H1 q = none → Q (.ref q) (upd H1 q (.tup (rgC i k n)))) := by
  refine ⟨fun pins s σ H Q I h => ?_⟩
  refine Call_ (ld_blt I ht hmt boot_tuple (PyProof.Rows.callWith_type1 (args_cons ?_ na) na))
  refine Call_ (ld_blt I hg hm boot_range (PyProof.Rows.callWith_type1 (thn (ha.run pos2 pins s σ H _ I h) fun us s1 ⟨vs, H1, I1, r1, q1⟩ => ?_) hs hpl))
  obtain ⟨i, j, k, n, e, c0, c1, c2, c3, c4, q⟩ := q1
  subst e
  cases r1 with
  | cons r rr =>
    cases rr with
    | cons r' rr =>
      cases rr with
      | cons r'' rr =>
        cases rr
        obtain ⟨t, rfl⟩ := r
        obtain ⟨t', rfl⟩ := r'
        obtain ⟨t'', rfl⟩ := r''
        refine call_range_3 c0 ?_ (.inl (PyProof.noPylong_small c1))
        refine args_nil ?_
        have I2 : Inv X pins σ H1 { s1 with heap := s1.heap.push { cls := .type "range", data := .fields #[.int i t, .int j t', .int k t''] } } := I1.kept (t' := s1.toks) fun b o e => Heap.get?_push_of_some _ e
        refine call_tuple_range (n := n) (I1.ok.hd hc) (IsRange.new ..) c2 c3 (by omega) fun h' tk acc hk hi => ?_
        have I3 : Inv X pins σ H1 { s1 with heap := h', toks := tk } := I2.kept hk
        refine ⟨.ref h'.objs.size, upd H1 h'.objs.size (.tup (rgC i k n)), I3.laid (t' := tk) (fun c o e => Heap.get?_push_of_some _ e) (Nat.le_refl _) (show ObjOk X.prog X.w _ _ _ (.tup (rgC i k n)) from ⟨?_, acc.toList, vals_rgC hi, ?_⟩), rfl, q _ (I3.hok.fresh (Nat.le_refl _))⟩
        · unfold rgC
          rw [List.length_map, List.length_range, sizeLine_eq]
          omega
        · rw [Array.toArray_toList]
          exact IsTup.new _ _
theorem je_tr3 {a b c : Expr} {ga : SEnv → Cells → Out (List D)} {p pos p2 pos2 : Pos} (hc : X.calm = true) (ht : Gl X "tuple") (hmt : X.mg "tuple" = none) (hg : Gl X "range") (hm : X.mg "range" = none) (ha : JA X W [a, b, c] ga)
    (hs : starEach [a, b, c] X.env = (false, eval a X.env) :: starEach [b, c] X.env) (hpl : (backTo pos2 (starEach [b, c] X.env)).any (·.1) = false)
    (na : starEach [.Call (.Name "range" p2) [a, b, c] [] pos2] X.env = (false, eval (.Call (.Name "range" p2) [a, b, c] [] pos2) X.env) :: starEach [] X.env) :
    JE X W (.Call (.Name "tuple" p) [.Call (.Name "range" p2) [a, b, c] [] pos2] [] pos) (eTR3 ga) := by
  refine PE.weak (pe_tup3 hc ht hmt hg hm ha hs hpl na) fun σ H Q h => ?_
  obtain ⟨τ, O, sl, ce, w, s, h⟩ := h
  refine ⟨τ, O, sl, ce, w, s, (PostG.bind h).mono fun τ1 O1 ce1 H1 ds e1 w1 h1 vs r => ?_⟩
  split at h1
  · rename_i xs hx
    unfold tr3 at hx
    split at hx
    · rename_i i j k
      split at hx
      · rename_i hk
        simp only [Bool.and_eq_true, decide_eq_true_eq] at hk
        obtain ⟨⟨⟨⟨k0, k1⟩, k2⟩, k3⟩, k4⟩ := hk
        cases hx
        obtain ⟨v1, _, rfl, a1, v2, _, rfl, a2, v3, _, rfl, a3, rfl⟩ := r
        refine ⟨i, j, k, (Builtin.Range.rangeSize i j k).toNat, by rw [a1.toInt, a2.toInt, a3.toInt], k0, k1, k2, by omega, by omega, fun q hq => ?_⟩
        exact h1 τ1 O1 _ (.same (same_upd hq)) (w1.same (same_upd hq)) _ (RepT.rep (new_tup w1.trk hq rgC_rep))
      · cases hx
    · cases hx
  · exact h1.elim
end
end Ib

set_option Elab.async false
set_option linter.all false
set_option maxRecDepth 100000
set_option maxHeartbeats 4000000
/-! Set comprehensions whose items are keys (ints, texts). -/
namespace Ib
open PySem PySem.Spec PyProof.Rows L2

/-- the new set S, one more member -/
theorem setQ_add {P : Program} {w : World} {A : Around} {E : Value → Shared → Prop} {s : Shared} {a : Addr} {S : List Key} {k : Key} {u : Value} {Q : Value → Shared → Prop} (ru : RelV (kV k) u) (R : SetQ w s.heap a S) (room : S.length + 1 < scanBound)
    (q : ∀ h', Heap.SameBut a s.heap h' → SetQ w h' a (insK S k) → Q .none { s with heap := h', toks := s.toks + 1 }) : wpAny (model P w) A (call (.builtin "set.add") [.ref a, u]) Q E s := by
  refine wpAny_call_entry F.slot_set_add (R.setOf (P := P)).typeIs F.entry_set_add ?_ (F.args_set_add_2 _ _)
  unfold Builtin.«set.add» Builtin.Frozenset.oneOther
  simp only [List.isEmpty_nil, bind_assoc]
  unfold Builtin.Frozenset.addrOf setAdd
  refine wpAny_bind (wpAny_pure ?_)
  try dsimp only
  refine wpAny_bind (wpAny_pure ?_)
  try dsimp only
  refine wpAny_bind (wpAny_holding ?_)
  refine wpAny_bind ((mixKind P w).pyHash (k := k) (kV_is ru) ?_)
  refine setQ_add_hashed (s := { s with toks := s.toks + 1 }) ru R room fun b h' sb r => ?_
  show wpAny _ _ (ret Value.none) _ _ _
  exact wpAny_pure ⟨_, rfl, q h' sb r⟩
section
variable {X : Cx}
theorem addQ_ok {pins : List (Addr × Obj)} {σ : L2.St} {H : Hp} {s : Shared} {E : Value → Shared → Prop} {D : Addr} {S : List Key} {k : Key} {u : Value} {Q : Value → Shared → Prop} (I : Inv X pins σ H s) (hD : H D = some (SetQO X.w D S)) (ru : RelV (kV k) u) (room : S.length + 1 < scanBound)
    (q : ∀ s', Inv X pins σ (upd H D (SetQO X.w D (insK S k))) s' → Q .none s') : wpAny (model X.prog X.w) X.A (call (.builtin "set.add") [.ref D, u]) Q E s := by
  refine setQ_add ru (setQO_get I hD) room fun h' sb new => ?_
  exact q _ (I.write (e := D) (t' := s.toks + 1) (by rw [hD]; trivial) (.inl rfl) (fun b u hb hu => (sb.2 b hb).trans hu) new.has (setQO_new new))
/-- {elt for tg in iter if ..}: D the new set -/
def tQc (w : World) (wi : TI) (g : TG) (tt : TT) (te : TE) (vs : List Nat) : TE := fun σ H Q => wi σ H fun J H1 => ∀ D, H1 D = none → ∃ W : Nat → Nat → Hp → Prop, (∃ m, W 0 m (upd H1 D (SetQO w D []))) ∧ ∀ i m H, W i m H →
  (J.stop i H ∧ Q (.ref D) H) ∨ (J.go i H ∧ ∃ Nx : Hp → Prop, (∀ H', Nx H' → ∃ m', m' < m ∧ W (i + 1) m' H') ∧ ∀ x H', J.yld i H x H' → g x (wipe σ vs) H' fun σ2 H2 => wipe σ2 vs = wipe σ vs ∧ tt σ2 H2 fun b H3 =>
    if b = true then te σ2 H3 fun y H4 => ∃ (k : Key) (S : List Key), y = kV k ∧ H4 D = some (SetQO w D S) ∧ S.length + 1 < scanBound ∧ Nx (upd H4 D (SetQO w D (insK S k))) else Nx H3)
theorem qc_core {pins : List (Addr × Obj)} {s : Shared} {σ : L2.St} {H : Hp} {Q : VK} {elt tg iter : Expr} {ifs : List Expr} {scope : Scope} {own : List (PySem.Str × Nat)} {pos pos' : Pos} {wi : TI} {g : TG} {tt : TT} {te : TE} {use : Option (Value → Sem Unit)} {Qf : Value → Shared → Prop}
    (calm : X.calm = true) (hN : X.N.Nodup) (I : Inv X pins σ H s) (hi : PI X tg iter wi) (ok : BlkOk X.N X.env.scope scope own)
    (hg : ∀ (s : Shared) (H : Hp) (C : Addr) (cl : List (PySem.Str × Addr)) (fp : List Addr), PG (X.blk s H scope (compEnvC scope cl C X.env) fp) tg g)
    (ht : ∀ (s : Shared) (H : Hp) (C : Addr) (cl : List (PySem.Str × Addr)) (fp : List Addr), PTs (X.blk s H scope (compEnvC scope cl C X.env) fp) ifs tt)
    (he : ∀ (s : Shared) (H : Hp) (C : Addr) (cl : List (PySem.Str × Addr)) (fp : List Addr), PE (X.blk s H scope (compEnvC scope cl C X.env) fp) elt te) (hs : ∀ x, foldedSetIterable iter X.env x = pure x)
    (q : tQc X.w wi g tt te (own.map (·.2)) σ H Q)
    (fin : ∀ D C s' m H', Inv X pins σ H' s' → Q (.ref D) H' → s'.heap.Ns C m → FpOk X pins H' C → compPost (model X.prog X.w) X.A X.xe use Qf (.ref D) C (.ok .next) s') :
    wpAny (model X.prog X.w) X.A (comprehension (.SetComp elt [⟨tg, iter, ifs, 0⟩] scope pos) scope X.env pos' (newSet (.type "set")) false (eval iter X.env) use) Qf X.xe s := by
  have hfree : ∀ y ∈ scope.names, y.2 = .free → ∃ c, X.env.cells.lookup y.1 = some c := fun y hy e => (ok.free y hy e).elim (fun z => I.ok.has _ (.inl z)) fun z => I.ok.has _ (.inr z)
  refine wpAny_comprehension_free (use := use) rfl hs (closure_ok hfree) ok.kind (fun y hy e => by rw [ok.uniq y hy, e]) (thn (hi.run pins s σ H _ I q) fun xv s1 hx => thn hx fun itv s2 h2 => ?_)
  obtain ⟨it, fp, tn, J, H2, rfl, I2, T, st2, f2, q⟩ := h2
  refine PpSet.newSet_ok (newEnv_comp ?_)
  generalize hD : s2.heap.objs.size = D
  have hDn : H2 D = none := I2.hok.fresh (Nat.le_of_eq hD)
  obtain ⟨W, ⟨m0, w0⟩, turn⟩ := q D hDn
  generalize hs3' : ({ s2 with heap := s2.heap.push { cls := .type "set", dict := none, data := .set #[] 0 (.fresh 0 0 (!X.w.params.followText "set-order")) } } : Shared) = s3
  have hs3 : s3 = { s2 with heap := s2.heap.push (newSetO X.w) } := hs3'.symm
  have I3 : Inv X pins σ (upd H2 D (SetQO X.w D [])) s3 := by
    rw [hs3]
    refine I2.laid (t' := s2.toks) (fun b o e => Heap.get?_push_of_some _ e) (Nat.le_of_eq hD) ?_
    rw [← hD]
    exact setQO_new (setQ_fresh (Heap.get?_push_size _ rfl) ⟨rfl, rfl, rfl⟩ rfl rfl)
  have h3 : s3.heap = s2.heap.push (newSetO X.w) := by rw [hs3]
  have f3 : ∀ b ∈ fp, FpOk X pins (upd H2 D (SetQO X.w D [])) b ∧ b < s3.heap.objs.size := fun b hb => by
    obtain ⟨o, e, _⟩ := T.obj _ _ st2 b hb
    have lt := Heap.lt_size e
    refine ⟨⟨?_, (f2 b hb).2⟩, by rw [h3, Heap.size_push]; exact Nat.lt_succ_of_lt lt⟩
    rw [upd_ne (by rw [← hD]; exact Nat.ne_of_lt lt)]
    exact (f2 b hb).1
  have st3 : tn 0 s3.heap := T.keep _ _ _ st2 fun b _ o e => by rw [h3]; exact Heap.get?_push_of_some _ e
  have I4 := block_start I3 ok hN f3
  obtain ⟨cl, hcl⟩ : ∃ z, z = cellsFrom (s3.heap.objs.size + 1) scope.names (cloFrom X.env.cells scope.names []) := ⟨_, rfl⟩
  rw [← hcl] at I4
  have pg := hg s3 (upd H2 D (SetQO X.w D [])) s3.heap.objs.size cl fp
  have pt := ht s3 (upd H2 D (SetQO X.w D [])) s3.heap.objs.size cl fp
  have pe := he s3 (upd H2 D (SetQO X.w D [])) s3.heap.objs.size cl fp
  show codeAny _ _ (.compStart (.SetComp elt [⟨tg, iter, ifs, 0⟩] scope pos) 0 (.ref it) (.ref D) (compEnvC scope (cellsFrom (s3.heap.objs.size + 1) scope.names (cloFrom X.env.cells scope.names [])) s3.heap.objs.size X.env)) (compPost (model X.prog X.w) X.A X.xe use Qf (.ref D) s3.heap.objs.size) { s3 with heap := pushCells (s3.heap.push { cls := .type "dict", data := .dict #[] }) scope.names }
  rw [← hcl]
  have nfp : ∀ b ∈ fp, (upd H2 D (SetQO X.w D [])) b = none := fun b hb => (f3 b hb).1.1
  generalize hce : compEnvC scope cl s3.heap.objs.size X.env = ce at I4 pg pt pe ⊢
  have cL : ce.locals = s3.heap.objs.size := by subst hce; rfl
  generalize hH3 : upd H2 D (SetQO X.w D []) = H3 at I3 I4 pg pt pe w0 nfp f3
  generalize hs4 : ({ s3 with heap := pushCells (s3.heap.push { cls := .type "dict", data := .dict #[] }) scope.names } : Shared) = s4 at I4 ⊢
  have st4 : tn 0 s4.heap := T.keep _ _ _ st3 fun b _ o e => by rw [← hs4]; exact pushCells_keeps _ _ _ _ (Heap.get?_push_of_some _ e)
  have stat : ∀ {σ' : L2.St} {H' : Hp} {s' : Shared}, Inv (X.blk s3 H3 scope ce fp) [] σ' H' s' → (∀ b ∈ fp, H' b = none) → ∀ b ∈ fp, FpOk (X.blk s3 H3 scope ce fp) [] H' b := fun {σ' H' s'} I' hn b hb =>
    ⟨hn b hb, (I'.ok.exf b hb).1, I'.ok.exfs b hb, .inl hb, fun x c e => (I'.ok.exf b hb).2 x c e, fun p hp => absurd (show p ∈ ([] : List (Addr × Obj)) ++ [] from hp) (by simp)⟩
  have loop : codeAny (model X.prog X.w) X.A (.compLoop (.SetComp elt [⟨tg, iter, ifs, 0⟩] scope pos) 0 (.ref it) (.ref D) ce) (compPost (model X.prog X.w) X.A X.xe use Qf (.ref D) s3.heap.objs.size) s4 := by
    refine PpSet.compLoopS_any (fun n s' => ∃ i H', Inv (X.blk s3 H3 scope ce fp) [] (wipe σ (own.map (·.2))) H' s' ∧ tn i s'.heap ∧ (∀ b ∈ fp, H' b = none) ∧ W i n H') ?_ m0 ⟨0, H3, I4, st4, nfp, w0⟩
    rintro n s5 ⟨i, H5, I5, st5, n5, w5⟩
    rcases turn i n H5 w5 with ⟨stop, qq⟩ | ⟨go, Nx, hNx, step⟩
    · refine thnF (T.done (X.blk s3 H3 scope ce fp) rfl rfl rfl calm i [] s5 _ H5 (fun _ _ => False) I5 (stat I5 n5) st5 stop) fun r s6 ⟨hr, I6⟩ => ?_
      subst hr
      have I7 : Inv X pins σ H5 s6 := I3.call' (ch := fp) I6.os I6.base I6.hok I6.bare fun b hb => ⟨(f3 b hb).1.2.2.2.1, (f3 b hb).1.2.1, (f3 b hb).1.2.2.2.2.1, (f3 b hb).1.2.2.2.2.2⟩
      have nC : H5 s3.heap.objs.size = none := by
        have z : H5 ce.locals = none := I6.free
        rwa [cL] at z
      obtain ⟨m, hn, _⟩ := I6.loc
      have hn : s6.heap.Ns ce.locals m := hn
      rw [cL] at hn
      exact fin D s3.heap.objs.size s6 m H5 I7 qq hn (I3.fpOk (Nat.le_refl _) nC)
    · refine thnF (T.item (X.blk s3 H3 scope ce fp) rfl rfl rfl calm i [] s5 _ H5 (fun _ _ => False) I5 (stat I5 n5) st5 go) fun r s6 ⟨u, hr, h6⟩ => ?_
      subst hr
      refine thnF h6 fun _ s7 ⟨x, H7, I7, r7, y7, st7, n7⟩ => ?_
      have I7' := I7.pinned (stat I7 n7) (T.obj _ _ st7)
      refine thnF (pg.run _ s7 _ H7 x u _ I7' r7 (step x H7 y7)) fun _ s8 ⟨σ8, H8, I8, hw8, q8⟩ => ?_
      refine thnF (pt.run _ s8 σ8 H8 _ I8 q8) fun b s9 ⟨H9, I9, q9⟩ => ?_
      have next : ∀ {s' : Shared} {H' : Hp}, Inv (X.blk s3 H3 scope ce fp) ([] ++ pinsAt fp s7.heap) σ8 H' s' → Nx H' → ∃ m, m < n ∧ ∃ i H', Inv (X.blk s3 H3 scope ce fp) [] (wipe σ (own.map (·.2))) H' s' ∧ tn i s'.heap ∧ (∀ b ∈ fp, H' b = none) ∧ W i m H' := fun {s' H'} I' nx => by
        obtain ⟨m', hm, w'⟩ := hNx H' nx
        have pin' : ∀ b ∈ fp, ∀ o, s7.heap.get? b = some o → s'.heap.get? b = some o ∧ H' b = none := fun b hb o e =>
          let z := I'.pin (b, o) (List.mem_append_right _ (List.mem_append_right _ (mem_pinsAt hb e)))
          ⟨z.1, z.2.1⟩
        have hl : (wipe σ (own.map (·.2))).length = σ8.length := by rw [← hw8, wipe_length]
        refine ⟨m', hm, i + 1, H', (I'.unpinned (pins := [])).weak hl (fun j v e => (wipe_some (by rw [hw8]; exact e)).1), T.keep _ _ _ st7 fun b hb o e => (pin' b hb o e).1, fun b hb => ?_, w'⟩
        obtain ⟨o, e, _⟩ := T.obj _ _ st7 b hb
        exact (pin' b hb o e).2
      cases b with
      | false =>
        simp only [Bool.false_eq_true, if_false] at q9 ⊢
        exact next I9 q9
      | true =>
        simp only [if_true] at q9 ⊢
        refine thnF (pe.run _ s9 σ8 H9 _ I9 q9) fun z s10 ⟨yv, H10, I10, r10, k0, S0, ey, hD10, hz10, nx⟩ => ?_
        subst ey
        exact addQ_ok (X := X.blk s3 H3 scope ce fp) I10 hD10 r10 hz10 fun s11 I11 => next I11 nx
  exact PpSet.codeAny_compStart_set loop (T.self X.A 0 _ _ _ st4 loop)
theorem pe_qc {elt tg iter : Expr} {ifs : List Expr} {scope : Scope} {own : List (PySem.Str × Nat)} {pos : Pos} {wi : TI} {g : TG} {tt : TT} {te : TE} (calm : X.calm = true) (hN : X.N.Nodup) (hi : PI X tg iter wi) (ok : BlkOk X.N X.env.scope scope own)
    (hg : ∀ (s : Shared) (H : Hp) (C : Addr) (cl : List (PySem.Str × Addr)) (fp : List Addr), PG (X.blk s H scope (compEnvC scope cl C X.env) fp) tg g)
    (ht : ∀ (s : Shared) (H : Hp) (C : Addr) (cl : List (PySem.Str × Addr)) (fp : List Addr), PTs (X.blk s H scope (compEnvC scope cl C X.env) fp) ifs tt)
    (he : ∀ (s : Shared) (H : Hp) (C : Addr) (cl : List (PySem.Str × Addr)) (fp : List Addr), PE (X.blk s H scope (compEnvC scope cl C X.env) fp) elt te) (hs : ∀ x, foldedSetIterable iter X.env x = pure x) :
    PE X (.SetComp elt [⟨tg, iter, ifs, 0⟩] scope pos) (tQc X.w wi g tt te (own.map (·.2))) := by
  refine ⟨fun pins s σ H Q I q => ?_⟩
  rw [PpSet.eval_SetComp]
  refine qc_core calm hN I hi ok hg ht he hs q fun D C s' m H' I' q hn f => ⟨m, hn, fun h'' sb => ?_⟩
  obtain ⟨f0, f1, f2, f3, f4, f5⟩ := f
  exact ⟨.ref D, H', I'.turned (t' := s'.toks) (fun b o hb e => (sb.2 b hb).trans e) f0 f1 f3 f4 f5, rfl, q⟩
end

/-! ### as denotations -/
def qloop (src : Src) (gt : GDen) (tt : SEnv → Cells → Out Bool) (ge : EDen) (sl : SEnv) (n0 : Nat) : Nat → Cells → Option Cells
  | 0, ce => match src.items ce with
    | some xs => if xs.length = src.n then some ce else none
    | none => none
  | m + 1, ce => match src.items ce with
    | some xs => if xs.length = src.n then (match xs[src.n - (m + 1)]? with
      | some d => match gt d sl with
        | some sl1 => match tt sl1 ce with
          | .ok true ce1 => match ge sl1 ce1 with
            | .ok y ce2 => match keyD y with
              | some k => match ce2[n0]? with
                | some (.st S) => if S.length < 4000 then qloop src gt tt ge sl n0 m (ce2.set n0 (.st (insK S k))) else none
                | _ => none
              | none => none
            | _ => none
          | .ok false ce1 => qloop src gt tt ge sl n0 m ce1
          | _ => none
        | none => none
      | none => none) else none
    | none => none
/-- the set that a comprehension makes, as a tree -/
def eSComp (gi : SEnv → Cells → Out Src) (us : List Nat) (gt : GDen) (tt : SEnv → Cells → Out Bool) (ge : EDen) : EDen := fun sl ce => (gi sl ce).bind fun src ce1 =>
  match qloop src gt tt ge (wipeD sl us) ce1.length src.n (ce1 ++ [.st []]) with
  | some ce2 => match ce2[ce1.length]? with
    | some (.st S) => .ok (.st S) (ce2.take ce1.length)
    | _ => .bad
  | none => .bad
theorem insK_ok {S : List Key} {k : Key} (h : ∀ j ∈ S, okK j) (hk : okK k) : ∀ j ∈ insK S k, okK j := fun j hj => (mem_insK.mp hj).elim (fun e => by rw [e]; exact hk) (h j)
section
variable {X : Cx} {W : WX} {elt tg iter : Expr} {ifs : List Expr} {scope : Scope} {own : List (Str × Nat)} {pos : Pos} {gi : SEnv → Cells → Out Src} {gt : GDen} {us : List Nat} {tt : SEnv → Cells → Out Bool} {ge : EDen}
theorem qcomp_t {c : Cfg} {τ1 O1 : List Addr} {ce1 : Cells} {H1 : Hp} {src : Src} {J : It} {sl : SEnv} {σ : L2.St} {ce' : Cells} {D : Addr} {Qd : Hp → Prop} (w1 : WFh c τ1 O1 ce1 H1) (s1 : SRep c τ1 O1 H1 sl σ) (hJ : SrcOk c src J τ1 O1 H1) (hD : H1 D = none)
    (hrun : qloop src gt tt ge (wipeD sl us) ce1.length src.n (ce1 ++ [.st []]) = some ce')
    (hd : ∀ τ O H, Ext (τ1 ++ [D]) (D :: O1) (upd H1 D (SetQO c.w D [])) τ O H → WFh c τ O ce' H → Qd H) :
    ∃ Wv : Nat → Nat → Hp → Prop, (∃ m, Wv 0 m (upd H1 D (SetQO c.w D []))) ∧ ∀ i m H, Wv i m H →
      (J.stop i H ∧ Qd H) ∨ (J.go i H ∧ ∃ Nx : Hp → Prop, (∀ H', Nx H' → ∃ m', m' < m ∧ Wv (i + 1) m' H') ∧ ∀ x H', J.yld i H x H' → tG c us gt x (wipe σ us) H' fun σ2 H2 => wipe σ2 us = wipe σ us ∧ tT c W0 tt σ2 H2 fun b H3 =>
        if b = true then tE c W0 ge σ2 H3 fun y H4 => ∃ (k : Key) (S : List Key), y = kV k ∧ H4 D = some (SetQO c.w D S) ∧ S.length + 1 < scanBound ∧ Nx (upd H4 D (SetQO c.w D (insK S k))) else Nx H3) := by
  have e0 : Ext τ1 O1 H1 (τ1 ++ [D]) (D :: O1) (upd H1 D (SetQO c.w D [])) := .cell hD
  have w0 : WFh c (τ1 ++ [D]) (D :: O1) (ce1 ++ [.st []]) (upd H1 D (SetQO c.w D [])) := w1.push hD ⟨List.mem_cons_self, upd_same, fun k hk => by cases hk⟩ fun x q => setQO_ne_code x q
  have hDk : (τ1 ++ [D])[ce1.length]? = some D := by rw [← w1.len, List.getElem?_append_right (Nat.le_refl _)]; simp
  refine ⟨fun i m H => ∃ τ O ce, m = src.n - i ∧ i ≤ src.n ∧ Ext (τ1 ++ [D]) (D :: O1) (upd H1 D (SetQO c.w D [])) τ O H ∧ WFh c τ O ce H ∧ qloop src gt tt ge (wipeD sl us) ce1.length m ce = some ce',
    ⟨src.n, τ1 ++ [D], D :: O1, _, rfl, Nat.zero_le _, .refl, w0, hrun⟩, ?_⟩
  rintro i m H2 ⟨τ2, O2, ce2, rfl, hi, e2, w2, h2⟩
  by_cases hlt : i < src.n
  · obtain ⟨m, hm⟩ : ∃ m, src.n - i = m + 1 := ⟨src.n - i - 1, by omega⟩
    rw [hm] at h2 ⊢
    have hix : src.n - (m + 1) = i := by omega
    unfold qloop at h2
    split at h2
    · rename_i xs hxs
      split at h2
      · rename_i hl
        obtain ⟨k1, k2, k3⟩ := hJ τ2 O2 ce2 H2 xs (e0.trans e2) w2 hxs hl
        rw [hix] at h2
        split at h2
        · rename_i d hd'
          split at h2
          · rename_i sl3 hsl
            refine .inr ⟨k1 i hlt, fun H' => ∃ τ O ce, Ext (τ1 ++ [D]) (D :: O1) (upd H1 D (SetQO c.w D [])) τ O H' ∧ WFh c τ O ce H' ∧ qloop src gt tt ge (wipeD sl us) ce1.length m ce = some ce', ?_, fun x H' y => ?_⟩
            · rintro H' ⟨τ', O', ce', q1, q2, q3⟩
              exact ⟨m, by omega, τ', O', ce', by omega, by omega, q1, q2, q3⟩
            · obtain ⟨d', hd2, sm, rd⟩ := k3 i x H' hlt y
              rw [hd'] at hd2
              cases hd2
              have ex : Ext τ2 O2 H2 τ2 O2 H' := .same sm
              refine ⟨τ2, O2, wipeD sl us, d, sl3, (s1.ext ((e0.trans e2).trans ex)).wipe us, rd, hsl, fun σ2 s' hw => ⟨hw.trans wipe_wipe, ?_⟩⟩
              have w2' := w2.same sm
              refine ⟨τ2, O2, sl3, ce2, w2', s', ?_⟩
              split at h2
              · rename_i ce3 htt
                refine notex ⟨true, ce3, htt, fun τ3 O3 H3 e3 w3 => L2.iteT ?_⟩
                split at h2
                · rename_i yd ce4 hge
                  refine ⟨τ3, O3, sl3, ce3, w3, s'.ext e3, notex ⟨yd, ce4, hge, fun τ4 O4 H4 e4 w4 v r => ?_⟩⟩
                  split at h2
                  · rename_i k hk
                    have rt : RepT c O4 H4 yd v := by
                      cases yd with
                      | cel j => cases hk
                      | _ => exact r
                    obtain ⟨ev, okk⟩ := keyD_rep hk rt
                    split at h2
                    · rename_i S hS
                      split at h2
                      · rename_i hlen
                        have e6 := ((e2.trans ex).trans e3).trans e4
                        have hD4 : τ4[ce1.length]? = some D := e6.pre _ _ hDk
                        obtain ⟨hO, hv, okS⟩ := w4.cell _ _ _ hD4 hS
                        refine ⟨k, S, ev, hv, sb4 (by omega), ?_⟩
                        have em : Ext τ4 O4 H4 τ4 O4 (upd H4 D (SetQO c.w D (insK S k))) := .mut hO
                        exact ⟨τ4, O4, _, e6.trans em, w4.set hD4 hO (show CellOk c O4 _ D (.st (insK S k)) from ⟨hO, upd_same, insK_ok okS okk⟩) fun x q => setQO_ne_code x q, h2⟩
                      · cases h2
                    · cases h2
                  · cases h2
                · cases h2
              · rename_i ce3 htt
                refine notex ⟨false, ce3, htt, fun τ3 O3 H3 e3 w3 => L2.iteF ?_⟩
                exact ⟨τ3, O3, ce3, (e2.trans ex).trans e3, w3, h2⟩
              · cases h2
          · cases h2
        · cases h2
      · cases h2
    · cases h2
  · have e : i = src.n := by omega
    subst e
    rw [Nat.sub_self] at h2
    unfold qloop at h2
    split at h2
    · rename_i xs hxs
      split at h2
      · rename_i hl
        obtain ⟨k1, k2, k3⟩ := hJ τ2 O2 ce2 H2 xs (e0.trans e2) w2 hxs hl
        cases h2
        exact .inl ⟨k2, hd τ2 O2 H2 e2 w2⟩
      · cases h2
    · cases h2
theorem qcomp_end {c : Cfg} {τ1 O1 : List Addr} {ce1 : Cells} {H1 : Hp} {D : Addr} {τ O : List Addr} {H : Hp} {ce' : Cells} {S : List Key} (w1 : WFh c τ1 O1 ce1 H1) (hD : H1 D = none) (e : Ext (τ1 ++ [D]) (D :: O1) (upd H1 D (SetQO c.w D [])) τ O H) (w : WFh c τ O ce' H) (hx : ce'[ce1.length]? = some (.st S)) :
    ∃ O', Ext τ1 O1 H1 (τ.take ce1.length) O' H ∧ WFh c (τ.take ce1.length) O' (ce'.take ce1.length) H ∧ RepT c O' H (.st S) (.ref D) := by
  have hDk : (τ1 ++ [D])[ce1.length]? = some D := by rw [← w1.len, List.getElem?_append_right (Nat.le_refl _)]; simp
  have hDt : τ[ce1.length]? = some D := e.pre _ _ hDk
  obtain ⟨hO, hv, okS⟩ := w.cell _ _ _ hDt hx
  have e0 : Ext τ1 O1 H1 (τ1 ++ [D]) (D :: O1) (upd H1 D (SetQO c.w D [])) := .cell hD
  have e1 := e0.trans e
  have pre : ∀ (k : Nat) a, τ1[k]? = some a → (τ.take ce1.length)[k]? = some a := fun k a h => by
    have hk : k < ce1.length := by rw [← w1.len]; exact (List.getElem?_eq_some_iff.mp h).1
    rw [List.getElem?_take_of_lt hk]
    exact e1.pre k a h
  obtain ⟨O', wc, sub, keepO, out⟩ := w.cut ce1.length
  have hDd : D ∈ τ.drop ce1.length := by
    refine List.mem_of_getElem? (i := 0) ?_
    rw [List.getElem?_drop]; exact hDt
  exact ⟨O', ⟨e1.heap, pre, fun a h => e1.avoid a (sub a h)⟩, wc, repT_st.mpr ⟨D, rfl, fun z => out D z hDd, hv, okS⟩⟩
theorem je_scomp (hc : X.calm = true) (hN : X.N.Nodup) (hi : JI X W tg iter gi) (ok : BlkOk X.N X.env.scope scope own) (hus : us = own.map (·.2))
    (hg : ∀ (s : Shared) (H : Hp) (C : Addr) (cl : List (Str × Addr)) (fp : List Addr), JG (X.blk s H scope (compEnvC scope cl C X.env) fp) tg us gt)
    (ht : ∀ (s : Shared) (H : Hp) (C : Addr) (cl : List (Str × Addr)) (fp : List Addr), JTs (X.blk s H scope (compEnvC scope cl C X.env) fp) W0 ifs tt)
    (he : ∀ (s : Shared) (H : Hp) (C : Addr) (cl : List (Str × Addr)) (fp : List Addr), JE (X.blk s H scope (compEnvC scope cl C X.env) fp) W0 elt ge)
    (hs : ∀ x, foldedSetIterable iter X.env x = pure x) : JE X W (.SetComp elt [⟨tg, iter, ifs, 0⟩] scope pos) (eSComp gi us gt tt ge) := by
  refine PE.weak (pe_qc (wi := tI (cfg X) W gi) (g := tG (cfg X) us gt) (tt := tT (cfg X) W0 tt) (te := tE (cfg X) W0 ge) hc hN hi ok hg ht he hs) fun σ H Q h => ?_
  obtain ⟨τ, O, sl, ce, w, s, h⟩ := h
  subst hus
  refine ⟨τ, O, sl, ce, w, s, (PostG.bind h).mono fun τ1 O1 ce1 H1 src e1 w1 h1 J hJ D hD => ?_⟩
  split at h1
  · rename_i ce2 hrun
    split at h1
    · rename_i S hx
      refine qcomp_t (c := cfg X) w1 (s.ext e1) hJ hD hrun fun τ' O' H' e' w' => ?_
      obtain ⟨O2, e2, w2, r2⟩ := qcomp_end w1 hD e' w' hx
      exact h1 _ _ _ e2 w2 _ r2.rep
    · exact h1.elim
  · exact h1.elim
end
end Ib

set_option Elab.async false
set_option linter.all false
set_option maxRecDepth 100000
set_option maxHeartbeats 4000000
/-! name = {..}: a set comprehension kept by name. -/
namespace Ib
open PySem PySem.Spec PyProof.Rows L2
section
variable {X : Cx}
theorem ps_setQc {i : Nat} {y : Str} {py : Pos} {elt tg iter : Expr} {ifs : List Expr} {scope : Scope} {own : List (Str × Nat)} {pos spos : Pos} {wi : TI} {g : TG} {tt : TT} {te : TE} (calm : X.calm = true) (hN : X.N.Nodup) (hy : X.N[i]? = some y) (hyl : X.env.scope.names.lookup y = some .local)
    (hsw : swapsWith (.SetComp elt [⟨tg, iter, ifs, 0⟩] scope pos) (some (.Name y py)) spos.line X.env = pure true) (hi : PI X tg iter wi) (ok : BlkOk X.N X.env.scope scope own)
    (hg : ∀ (s : Shared) (H : Hp) (C : Addr) (cl : List (Str × Addr)) (fp : List Addr), PG (X.blk s H scope (compEnvC scope cl C X.env) fp) tg g)
    (ht : ∀ (s : Shared) (H : Hp) (C : Addr) (cl : List (Str × Addr)) (fp : List Addr), PTs (X.blk s H scope (compEnvC scope cl C X.env) fp) ifs tt)
    (he : ∀ (s : Shared) (H : Hp) (C : Addr) (cl : List (Str × Addr)) (fp : List Addr), PE (X.blk s H scope (compEnvC scope cl C X.env) fp) elt te) (hs : ∀ x, foldedSetIterable iter X.env x = pure x) :
    PS X (.Assign [.Name y py] (.SetComp elt [⟨tg, iter, ifs, 0⟩] scope pos) spos) (tAsg (tQc X.w wi g tt te (own.map (·.2))) (gName i)) := by
  refine ⟨fun pins s σ H D I q => ?_⟩
  have q : tQc X.w wi g tt te (own.map (·.2)) σ H (fun x H1 => gName i x σ H1 D.nx) := q
  rw [exec_Assign_Name_used _ _ _ _ hsw]
  refine wpAny_bind (wpAny_standAt (wpAny_bind ?_))
  show wpAny _ X.A (do let _ ← comprehension (.SetComp elt [⟨tg, iter, ifs, 0⟩] scope pos) scope X.env (firstIterPos [⟨tg, iter, ifs, 0⟩] pos) (newSet (.type "set")) false (eval iter X.env) (some (assign (.Name y py) X.env))) _ _ s
  refine wpAny_bind (thn (qc_core (Qf := fun _ s' => SP X pins D .next s') calm hN I hi ok hg ht he hs q fun L C s' m H' I' qq hn f => ?_) fun _ s' hq => wpAny_pure (wpAny_pure hq))
  show wpAny _ _ (assign (.Name y py) X.env (.ref L)) _ _ _
  refine wpAny_assign_Name (store_ok2 (v := V.ref L) I' hN hy (.inl hyl) rfl (fun s2 I2 ⟨a, sb, ha⟩ => ?_) (.inr hyl))
  obtain ⟨f0, f1, f2, f3, f4, f5⟩ := f
  have ne : C ≠ a := ha.elim (fun z => by rw [z]; exact f1) fun z e => f4 y a z e.symm
  exact ⟨m, hn.sameBut sb ne, fun h3 sb3 => ⟨_, H', I2.turned (t' := s2.toks) (fun b o hb e => (sb3.2 b hb).trans e) f0 f1 f3 f4 f5, qq⟩⟩
end
section
variable {X : Cx} {W : WX} {elt tg iter : Expr} {ifs : List Expr} {scope : Scope} {own : List (Str × Nat)} {pos : Pos} {gi : SEnv → Cells → Out Src} {gt : GDen} {us : List Nat} {tt : SEnv → Cells → Out Bool} {ge : EDen}
theorem sw_trueS {gs : List Comprehension} {py : Pos} {y : Str} {l : Nat} {env : Env} (hk : env.scope.kind = .function) (hy : env.scope.names.lookup y = some .local) (hl : (py.line == pos.line) = true)
    (h : (scope.names.any fun (n, k) => n == y && (k == .local || k == .cell)) = false) : swapsWith (.SetComp elt gs scope pos) (some (.Name y py)) l env = pure true := by
  have k1 : env.kindOf y = some .local := hy
  have k2 : env.blockKind = .function := by unfold Env.blockKind; rw [hk]; rfl
  unfold swapsWith
  simp only [k2, k1, h, Expr.pos, hl]
  rfl
theorem js_setSComp (i : Nat) {y : Str} {py spos : Pos} (hc : X.calm = true) (hN : X.N.Nodup) (hy : X.N[i]? = some y) (hyl : X.env.scope.names.lookup y = some .local)
    (hsw : swapsWith (.SetComp elt [⟨tg, iter, ifs, 0⟩] scope pos) (some (.Name y py)) spos.line X.env = pure true) (hi : JI X W tg iter gi) (ok : BlkOk X.N X.env.scope scope own) (hus : us = own.map (·.2))
    (hg : ∀ (s : Shared) (H : Hp) (C : Addr) (cl : List (Str × Addr)) (fp : List Addr), JG (X.blk s H scope (compEnvC scope cl C X.env) fp) tg us gt)
    (ht : ∀ (s : Shared) (H : Hp) (C : Addr) (cl : List (Str × Addr)) (fp : List Addr), JTs (X.blk s H scope (compEnvC scope cl C X.env) fp) W0 ifs tt)
    (he : ∀ (s : Shared) (H : Hp) (C : Addr) (cl : List (Str × Addr)) (fp : List Addr), JE (X.blk s H scope (compEnvC scope cl C X.env) fp) W0 elt ge)
    (hs : ∀ x, foldedSetIterable iter X.env x = pure x) : JS X W (.Assign [.Name y py] (.SetComp elt [⟨tg, iter, ifs, 0⟩] scope pos) spos) (sSet i (eSComp gi us gt tt ge)) := by
  refine PS.weak (ps_setQc (wi := tI (cfg X) W gi) (g := tG (cfg X) us gt) (tt := tT (cfg X) W0 tt) (te := tE (cfg X) W0 ge) hc hN hy hyl hsw hi ok hg ht he hs) fun D σ H h => ?_
  obtain ⟨τ, O, sl, ce, w, s, h⟩ := h
  subst hus
  refine ⟨τ, O, sl, ce, w, s, (PostG.bind (PostS.st s h)).mono fun τ1 O1 ce1 H1 src e1 w1 h1 J hJ Dd hD => ?_⟩
  split at h1
  · rename_i ce2 hrun
    split at h1
    · rename_i S hx
      refine qcomp_t (c := cfg X) w1 (s.ext e1) hJ hD hrun fun τ' O' H' e' w' => ?_
      obtain ⟨O2, e2, w2, r2⟩ := qcomp_end w1 hD e' w' hx
      have := h1 _ _ _ e2 w2
      exact this _ _ _ _ .refl w2 (((s.ext e1).ext e2).set i r2.rep)
    · exact h1.elim
  · exact h1.elim
end
end Ib

set_option Elab.async false
set_option linter.all false
set_option maxRecDepth 100000
set_option maxHeartbeats 2000000
/-! The J layer, part G: how denotations run (plain Lean). -/
namespace Ib
open PySem PySem.Spec PyProof.Rows L2
@[simp] theorem bind_ok {α β : Type} {a : α} {ce : Cells} {f : α → Cells → Out β} : (Out.ok a ce).bind f = f a ce := rfl
@[simp] theorem bind_ex {α β : Type} {x : Str} {ce : Cells} {f : α → Cells → Out β} : (Out.ex x ce : Out α).bind f = .ex x ce := rfl
@[simp] theorem bind_bad {α β : Type} {f : α → Cells → Out β} : (Out.bad : Out α).bind f = .bad := rfl
@[simp] theorem st_ok {α : Type} {a : α} {ce : Cells} {sl : SEnv} {f : α → Cells → SOut} : (Out.ok a ce).st sl f = f a ce := rfl
@[simp] theorem st_ex {α : Type} {x : Str} {ce : Cells} {sl : SEnv} {f : α → Cells → SOut} : (Out.ex x ce : Out α).st sl f = .ex x sl ce := rfl
@[simp] theorem liftO_some {d : D} {ce : Cells} : liftO (some d) ce = .ok d ce := rfl
@[simp] theorem look_str {ce : Cells} {x : List Nat} : look ce (.str x) = .str x := rfl
@[simp] theorem look_int {ce : Cells} {x : Int} : look ce (.int x) = .int x := rfl
@[simp] theorem look_bl {ce : Cells} {x : Bool} : look ce (.bl x) = .bl x := rfl
@[simp] theorem look_non {ce : Cells} : look ce .non = .non := rfl
@[simp] theorem look_lst {ce : Cells} {x : List D} : look ce (.lst x) = .lst x := rfl
@[simp] theorem look_tup {ce : Cells} {x : List D} : look ce (.tup x) = .tup x := rfl
@[simp] theorem look_ty {ce : Cells} {n : String} : look ce (.ty n) = .ty n := rfl
@[simp] theorem frz_str {ce : Cells} {x : List Nat} : frz ce (.str x) = (.str x, ce) := rfl
@[simp] theorem frz_int {ce : Cells} {x : Int} : frz ce (.int x) = (.int x, ce) := rfl
@[simp] theorem frz_bl {ce : Cells} {x : Bool} : frz ce (.bl x) = (.bl x, ce) := rfl
@[simp] theorem frz_non {ce : Cells} : frz ce .non = (.non, ce) := rfl
@[simp] theorem frz_lst {ce : Cells} {x : List D} : frz ce (.lst x) = (.lst x, ce) := rfl
@[simp] theorem frz_tup {ce : Cells} {x : List D} : frz ce (.tup x) = (.tup x, ce) := rfl
@[simp] theorem srcC_n {xs : List D} : (srcC xs).n = xs.length := rfl
@[simp] theorem srcC_items {xs : List D} {ce : Cells} : (srcC xs).items ce = some xs := rfl

@[simp] theorem app_get0 {α : Type} {a l : List α} : (a ++ l)[a.length]? = l[0]? := by rw [List.getElem?_append_right (Nat.le_refl _), Nat.sub_self]
@[simp] theorem app_get1 {α : Type} {a l : List α} : (a ++ l)[a.length + 1]? = l[1]? := by rw [List.getElem?_append_right (by omega)]; congr 1; omega
@[simp] theorem app_get2 {α : Type} {a l : List α} : (a ++ l)[a.length + 2]? = l[2]? := by rw [List.getElem?_append_right (by omega)]; congr 1; omega
@[simp] theorem app_set0 {α : Type} {a l : List α} {x y : α} : (a ++ x :: l).set a.length y = a ++ y :: l := by rw [List.set_append_right _ _ (Nat.le_refl _), Nat.sub_self]; rfl
@[simp] theorem app_set1 {α : Type} {a l : List α} {x x' y : α} : (a ++ x :: x' :: l).set (a.length + 1) y = a ++ x :: y :: l := by
  rw [List.set_append_right _ _ (by omega)]
  have : a.length + 1 - a.length = 1 := by omega
  rw [this]; rfl
@[simp] theorem app_set2 {α : Type} {a l : List α} {x x' x'' y : α} : (a ++ x :: x' :: x'' :: l).set (a.length + 2) y = a ++ x :: x' :: y :: l := by
  rw [List.set_append_right _ _ (by omega)]
  have : a.length + 2 - a.length = 2 := by omega
  rw [this]; rfl
theorem app_getL {α : Type} {a l : List α} {k : Nat} {m : α} (h : a[k]? = some m) : (a ++ l)[k]? = some m := by
  rw [List.getElem?_append_left (List.getElem?_eq_some_iff.mp h).1]; exact h
theorem app_setL {α : Type} {a l : List α} {k : Nat} {m y : α} (h : a[k]? = some m) : (a ++ l).set k y = a.set k y ++ l := List.set_append_left _ _ (List.getElem?_eq_some_iff.mp h).1
theorem lt_of_get {α : Type} {a : List α} {k : Nat} {m : α} (h : a[k]? = some m) : k < a.length := (List.getElem?_eq_some_iff.mp h).1
theorem set_get {α : Type} {a : List α} {k : Nat} {m y : α} (h : a[k]? = some m) : (a.set k y)[k]? = some y := List.getElem?_set_self (lt_of_get h)

/-! ### loops over lists that stay -/
def forL (gt : GDen) (body : SDen) : List D → SEnv → Cells → SOut
  | [], sl, ce => .nx sl ce
  | d :: ds, sl, ce => match gt d sl with
    | some sl1 => match body sl1 ce with
      | .nx sl2 ce2 => forL gt body ds sl2 ce2
      | .ct sl2 ce2 => forL gt body ds sl2 ce2
      | .bk sl2 ce2 => .nx sl2 ce2
      | .rt d ce2 => .rt d ce2
      | .ex x sl2 ce2 => .ex x sl2 ce2
      | .bad => .bad
    | none => .bad
theorem loop_drop {src : Src} {xs : List D} (hs : src.items = fun _ => some xs) (hn : src.n = xs.length) (gt : GDen) (body : SDen) : ∀ (m : Nat) (sl : SEnv) (ce : Cells), m ≤ xs.length → loop src gt body m sl ce = forL gt body (xs.drop (xs.length - m)) sl ce := by
  intro m
  induction m with
  | zero =>
    intro sl ce _
    unfold loop
    rw [hs, hn]
    simp [forL]
  | succ m ih =>
    intro sl ce hm
    have hi : xs.length - (m + 1) < xs.length := by omega
    have hd : xs.drop (xs.length - (m + 1)) = xs[xs.length - (m + 1)] :: xs.drop (xs.length - m) := by
      rw [List.drop_eq_getElem_cons hi]
      congr 2
      omega
    unfold loop
    rw [hs, hn, hd]
    simp only [if_true, List.getElem?_eq_getElem hi, forL]
    cases gt xs[xs.length - (m + 1)] sl with
    | none => rfl
    | some sl1 =>
      simp only
      cases body sl1 ce with
      | nx a b => exact ih a b (by omega)
      | ct a b => exact ih a b (by omega)
      | _ => rfl
theorem loop_C {xs : List D} {gt : GDen} {body : SDen} {sl : SEnv} {ce : Cells} : loop (srcC xs) gt body xs.length sl ce = forL gt body xs sl ce := by
  rw [loop_drop (src := srcC xs) rfl rfl gt body xs.length sl ce (Nat.le_refl _)]
  simp
theorem sFor_C {gi : SEnv → Cells → Out Src} {gt : GDen} {body : SDen} {sl : SEnv} {ce ce1 : Cells} {xs : List D} (h : gi sl ce = .ok (srcC xs) ce1) : sFor gi gt body sl ce = forL gt body xs sl ce1 := by
  unfold sFor
  rw [h, st_ok, srcC_n, loop_C]
/-- an invariant carried through -/
theorem forL_inv {α : Type} {gt : GDen} {body : SDen} {f : α → D} (I : List α → SEnv → Cells → Prop) (xs : List α) (h0 : ∀ pre x sl ce, (∃ post, xs = pre ++ x :: post) → I pre sl ce → ∃ sl1, gt (f x) sl = some sl1 ∧ ∃ sl2 ce2, (body sl1 ce = .nx sl2 ce2 ∨ body sl1 ce = .ct sl2 ce2) ∧ I (pre ++ [x]) sl2 ce2) :
    ∀ sl ce, I [] sl ce → ∃ sl' ce', forL gt body (xs.map f) sl ce = .nx sl' ce' ∧ I xs sl' ce' := by
  have key : ∀ post pre sl ce, xs = pre ++ post → I pre sl ce → ∃ sl' ce', forL gt body (post.map f) sl ce = .nx sl' ce' ∧ I xs sl' ce' := by
    intro post
    induction post with
    | nil => intro pre sl ce e i; exact ⟨sl, ce, rfl, by rw [e]; simpa using i⟩
    | cons x post ih =>
      intro pre sl ce e i
      obtain ⟨sl1, h1, sl2, ce2, h2, i2⟩ := h0 pre x sl ce ⟨post, e⟩ i
      obtain ⟨sl', ce', h3, i3⟩ := ih (pre ++ [x]) sl2 ce2 (by rw [e]; simp) i2
      refine ⟨sl', ce', ?_, i3⟩
      rw [List.map_cons]
      unfold forL
      rw [h1]
      rcases h2 with h2 | h2 <;> (simp only [h2]; exact h3)
  exact fun sl ce i => key xs [] sl ce rfl i
/-- .. where the body may also hand back: the first one decides -/
theorem forL_ret {α : Type} {gt : GDen} {body : SDen} {f : α → D} (I : List α → SEnv → Cells → Prop) (xs : List α)
    (h0 : ∀ pre x sl ce, (∃ post, xs = pre ++ x :: post) → I pre sl ce → ∃ sl1, gt (f x) sl = some sl1 ∧ ((∃ sl2 ce2, (body sl1 ce = .nx sl2 ce2 ∨ body sl1 ce = .ct sl2 ce2) ∧ I (pre ++ [x]) sl2 ce2) ∨ ∃ d ce2, body sl1 ce = .rt d ce2)) :
    ∀ sl ce, I [] sl ce → (∃ sl' ce', forL gt body (xs.map f) sl ce = .nx sl' ce' ∧ I xs sl' ce') ∨ ∃ d ce', forL gt body (xs.map f) sl ce = .rt d ce' := by
  have key : ∀ post pre sl ce, xs = pre ++ post → I pre sl ce → (∃ sl' ce', forL gt body (post.map f) sl ce = .nx sl' ce' ∧ I xs sl' ce') ∨ ∃ d ce', forL gt body (post.map f) sl ce = .rt d ce' := by
    intro post
    induction post with
    | nil => intro pre sl ce e i; exact .inl ⟨sl, ce, rfl, by rw [e]; simpa using i⟩
    | cons x post ih =>
      intro pre sl ce e i
      obtain ⟨sl1, h1, h2⟩ := h0 pre x sl ce ⟨post, e⟩ i
      rw [List.map_cons]
      unfold forL
      rw [h1]
      rcases h2 with ⟨sl2, ce2, h2, i2⟩ | ⟨d, ce2, h2⟩
      · have h3 := ih (pre ++ [x]) sl2 ce2 (by rw [e]; simp) i2
        rcases h2 with h2 | h2 <;> (simp only [h2]; exact h3)
      · exact .inr ⟨d, ce2, by simp only [h2]⟩
  exact fun sl ce i => key xs [] sl ce rfl i

/-! ### comprehensions -/
def isCel : D → Bool
  | .cel _ => true
  | _ => false
theorem frz_tree {d : D} (h : isCel d = false) (ce : Cells) : frz ce d = (d, ce) := by
  cases d <;> first | rfl | cases h
theorem cloop_pure {α : Type} {src : Src} {ys : List α} {h : α → D} (hs : ∀ acc, src.items (ce0 ++ [.lst acc]) = some (ys.map h)) (hn : src.n = ys.length) {gt : GDen} {tt : SEnv → Cells → Out Bool} {ge : EDen} {slw : SEnv} (b : α → Bool) (f : α → D) (sl1 : α → SEnv)
    (hg : ∀ y ∈ ys, gt (h y) slw = some (sl1 y)) (ht : ∀ y ∈ ys, ∀ acc, tt (sl1 y) (ce0 ++ [.lst acc]) = .ok (b y) (ce0 ++ [.lst acc])) (he : ∀ y ∈ ys, b y = true → ∀ acc, ge (sl1 y) (ce0 ++ [.lst acc]) = .ok (f y) (ce0 ++ [.lst acc])) (hf : ∀ y ∈ ys, b y = true → isCel (f y) = false) (hl : ys.length ≤ 1000000) :
    ∀ (m : Nat), m ≤ ys.length → ∀ acc, acc.length ≤ ys.length - m → cloop src gt tt ge slw ce0.length m (ce0 ++ [.lst acc]) = some (ce0 ++ [.lst (acc ++ ((ys.drop (ys.length - m)).filter b).map f)]) := by
  intro m
  induction m with
  | zero =>
    intro _ acc _
    unfold cloop
    rw [hs, hn]
    simp
  | succ m ih =>
    intro hm acc hacc
    have hi : ys.length - (m + 1) < ys.length := by omega
    have hd : ys.drop (ys.length - (m + 1)) = ys[ys.length - (m + 1)] :: ys.drop (ys.length - m) := by
      rw [List.drop_eq_getElem_cons hi]
      congr 2
      omega
    have hmem : ys[ys.length - (m + 1)] ∈ ys := List.getElem_mem hi
    unfold cloop
    rw [hs, hn, hd]
    simp only [List.length_map, if_true, List.getElem?_map, List.getElem?_eq_getElem hi, Option.map_some, hg _ hmem, ht _ hmem]
    cases hb : b ys[ys.length - (m + 1)] with
    | true =>
      simp only [he _ hmem hb, frz_tree (hf _ hmem hb)]
      rw [app_get0]
      simp only [List.getElem?_cons_zero, app_set0]
      rw [if_pos (by omega), ih (by omega) _ (by simp; omega)]
      simp [hb]
    | false =>
      simp only
      rw [ih (by omega) _ (by omega)]
      simp [hb]
theorem comp_pure {α : Type} {gi : SEnv → Cells → Out Src} {src : Src} {us : List Nat} {gt : GDen} {tt : SEnv → Cells → Out Bool} {ge : EDen} {sl : SEnv} {ce : Cells} {fin : Nat → List D → Cells → Out D} (ys : List α) (h : α → D) (b : α → Bool) (f : α → D) (sl1 : α → SEnv) (hi : gi sl ce = .ok src ce) (hs : ∀ acc, src.items (ce ++ [.lst acc]) = some (ys.map h)) (hn : src.n = ys.length)
    (hl : ys.length ≤ 1000000) (hg : ∀ y ∈ ys, gt (h y) (wipeD sl us) = some (sl1 y)) (ht : ∀ y ∈ ys, ∀ acc, tt (sl1 y) (ce ++ [.lst acc]) = .ok (b y) (ce ++ [.lst acc])) (he : ∀ y ∈ ys, b y = true → ∀ acc, ge (sl1 y) (ce ++ [.lst acc]) = .ok (f y) (ce ++ [.lst acc])) (hf : ∀ y ∈ ys, b y = true → isCel (f y) = false) :
    eCompG fin gi us gt tt ge sl ce = fin ce.length ((ys.filter b).map f) (ce ++ [.lst ((ys.filter b).map f)]) := by
  unfold eCompG
  rw [hi, bind_ok, hn]
  rw [cloop_pure (ce0 := ce) hs hn b f sl1 hg ht he hf hl ys.length (Nat.le_refl _) [] (by simp)]
  simp
/-- a list comprehension without a test -/
theorem comp_map {α : Type} {gi : SEnv → Cells → Out Src} {src : Src} {us : List Nat} {gt : GDen} {ge : EDen} {sl : SEnv} {ce : Cells} {fin : Nat → List D → Cells → Out D} (ys : List α) (h : α → D) (f : α → D) (sl1 : α → SEnv) (hi : gi sl ce = .ok src ce) (hs : ∀ acc, src.items (ce ++ [.lst acc]) = some (ys.map h)) (hn : src.n = ys.length)
    (hl : ys.length ≤ 1000000) (hg : ∀ y ∈ ys, gt (h y) (wipeD sl us) = some (sl1 y)) (he : ∀ y ∈ ys, ∀ acc, ge (sl1 y) (ce ++ [.lst acc]) = .ok (f y) (ce ++ [.lst acc])) (hf : ∀ y ∈ ys, isCel (f y) = false) :
    eCompG fin gi us gt ttYes ge sl ce = fin ce.length (ys.map f) (ce ++ [.lst (ys.map f)]) := by
  have := comp_pure (fin := fin) ys h (fun _ => true) f sl1 hi hs hn hl hg (tt := ttYes) (fun _ _ _ => rfl) (fun y hy _ => he y hy) (fun y hy _ => hf y hy)
  rw [this, List.filter_eq_self.mpr (fun _ _ => rfl)]

/-! ### == on the kinds met -/
theorem arr_eq {a b : List Nat} : ((⟨a.toArray⟩ : Str) == ⟨b.toArray⟩) = decide (a = b) := by
  by_cases h : a = b
  · subst h; simp
  · rw [decide_eq_false h]
    refine beq_eq_false_iff_ne.mpr fun e => h ?_
    have := congrArg (fun s : Str => s.cps.toList) e
    simpa using this
@[simp] theorem dEq_str {a b : List Nat} : dEq (.str a) (.str b) = some (.bl (decide (a = b))) := by
  unfold dEq
  simp only [okE, Bool.and_self, if_true, pyD, PyData.eqv, arr_eq]
@[simp] theorem dEq_int {a b : Int} : dEq (.int a) (.int b) = some (.bl (decide (a = b))) := by
  unfold dEq
  simp only [okE, Bool.and_self, if_true, pyD, PyData.eqv, Bool.beq_eq_decide_eq]
@[simp] theorem dEq_bl {a b : Bool} : dEq (.bl a) (.bl b) = some (.bl (a == b)) := by
  unfold dEq
  simp only [okE, Bool.and_self, if_true, pyD, PyData.eqv]
@[simp] theorem dNe_of {x y : D} : dNe x y = notR (dEq x y) := by
  unfold dNe dEq
  split <;> rfl
theorem eqvAll_ints : ∀ a b : List Int, PyData.eqvAll (pyDs (a.map D.int)) (pyDs (b.map D.int)) = decide (a = b)
  | [], [] => by simp [pyDs, PyData.eqvAll]
  | [], y :: b => by simp [pyDs, PyData.eqvAll]
  | x :: a, [] => by simp [pyDs, PyData.eqvAll]
  | x :: a, y :: b => by
    simp only [List.map_cons, pyDs, PyData.eqvAll, eqvAll_ints a b, pyD, PyData.eqv]
    by_cases h : x = y <;> by_cases h2 : a = b <;> simp [h, h2]
theorem eqvAll_strs : ∀ a b : List (List Nat), PyData.eqvAll (pyDs (a.map D.str)) (pyDs (b.map D.str)) = decide (a = b)
  | [], [] => by simp [pyDs, PyData.eqvAll]
  | [], y :: b => by simp [pyDs, PyData.eqvAll]
  | x :: a, [] => by simp [pyDs, PyData.eqvAll]
  | x :: a, y :: b => by
    simp only [List.map_cons, pyDs, PyData.eqvAll, eqvAll_strs a b, pyD, PyData.eqv, arr_eq]
    by_cases h : x = y <;> by_cases h2 : a = b <;> simp [h, h2]
theorem okE_ints (n : Nat) (a : List Int) : okE (n + 1) (.lst (a.map D.int)) = true := by
  simp only [okE, List.all_map]
  exact List.all_eq_true.mpr fun x _ => by cases n <;> rfl
theorem okE_strs (n : Nat) (a : List (List Nat)) : okE (n + 1) (.lst (a.map D.str)) = true := by
  simp only [okE, List.all_map]
  exact List.all_eq_true.mpr fun x _ => by cases n <;> rfl
theorem okE_tints (n : Nat) (a : List Int) : okE (n + 1) (.tup (a.map D.int)) = true := by
  simp only [okE, List.all_map]
  exact List.all_eq_true.mpr fun x _ => by cases n <;> rfl
@[simp] theorem dEq_ints {a b : List Int} : dEq (.lst (a.map D.int)) (.lst (b.map D.int)) = some (.bl (decide (a = b))) := by
  unfold dEq
  rw [okE_ints 7, okE_ints 7]
  simp only [Bool.and_self, if_true, pyD, PyData.eqv, eqvAll_ints]
@[simp] theorem dEq_strs {a b : List (List Nat)} : dEq (.lst (a.map D.str)) (.lst (b.map D.str)) = some (.bl (decide (a = b))) := by
  unfold dEq
  rw [okE_strs 7, okE_strs 7]
  simp only [Bool.and_self, if_true, pyD, PyData.eqv, eqvAll_strs]
@[simp] theorem dEq_tints {a b : List Int} : dEq (.tup (a.map D.int)) (.tup (b.map D.int)) = some (.bl (decide (a = b))) := by
  unfold dEq
  rw [okE_tints 7, okE_tints 7]
  simp only [Bool.and_self, if_true, pyD, PyData.eqv, eqvAll_ints]
@[simp] theorem dEq_ints_nil {a : List Int} : dEq (.lst (a.map D.int)) (.lst []) = some (.bl (decide (a = []))) := dEq_ints (b := [])
@[simp] theorem notR_bl {b : Bool} : notR (some (.bl b)) = some (.bl (!b)) := rfl
/-! in -/
theorem inF_ints {i : Int} : ∀ ns : List Int, inF (.int i) (ns.map D.int) = decide (i ∈ ns)
  | [] => by simp [inF]
  | n :: ns => by
    have ih := inF_ints (i := i) ns
    unfold inF at ih ⊢
    simp only [List.map_cons, List.any_cons, ih, List.mem_cons]
    by_cases h : i = n
    · subst h; simp [eqF, toV, eqV]
    · have : (eqF (.int n) (.int i)) = false := by simp [eqF, toV, eqV]; exact fun e => h e.symm
      simp [this, h]
theorem inF_strs {i : List Nat} : ∀ ns : List (List Nat), inF (.str i) (ns.map D.str) = decide (i ∈ ns)
  | [] => by simp [inF]
  | n :: ns => by
    have ih := inF_strs (i := i) ns
    unfold inF at ih ⊢
    simp only [List.map_cons, List.any_cons, ih, List.mem_cons]
    have : eqF (.str n) (.str i) = decide (n = i) := arr_eq
    rw [this]
    by_cases h : n = i
    · subst h; simp
    · have h' : i ≠ n := fun e => h e.symm
      simp [h, h']
theorem flat_ints (ns : List Int) : (ns.map D.int).all flatD = true := by simp [List.all_map, flatD]
theorem flat_strs (ns : List (List Nat)) : (ns.map D.str).all flatD = true := by simp [List.all_map, flatD]
@[simp] theorem dIn_ints {i : Int} {ns : List Int} : dIn (.int i) (.lst (ns.map D.int)) = some (.bl (decide (i ∈ ns))) := by
  unfold dIn
  simp only [flat_ints, inF_ints]
  rfl
@[simp] theorem dIn_strs {i : List Nat} {ns : List (List Nat)} : dIn (.str i) (.lst (ns.map D.str)) = some (.bl (decide (i ∈ ns))) := by
  unfold dIn
  simp only [flat_strs, inF_strs]
  rfl
@[simp] theorem dIn_sign {k : Nat} {z : List Nat} : dIn (.str [k]) (.str z) = some (.bl (decide (k ∈ z))) := rfl
end Ib

set_option Elab.async false
set_option linter.all false
set_option maxRecDepth 100000
set_option maxHeartbeats 2000000
/-! The J layer, part H: denotations unfold by simp (plain Lean); lists. -/
namespace Ib
open PySem PySem.Spec PyProof.Rows L2
section
variable {i n : Nat} {d : D} {sl : SEnv} {ce : Cells} {g : D → D → Option D} {ga gb gc : EDen} {gt gt' : SEnv → Cells → Out Bool} {gA : SEnv → Cells → Out (List D)} {b b' : SDen} {x y : D} {c : Bool} {ds : List D}
@[simp] theorem r_eVar : eVar i sl ce = (match sl[i]? with | some (some d) => .ok d ce | _ => .bad) := Eq.trans rfl rfl
@[simp] theorem r_eC : eC d sl ce = .ok d ce := Eq.trans rfl rfl
@[simp] theorem r_eBin : eBin g ga gb sl ce = (ga sl ce).bind fun x ce1 => (gb sl ce1).bind fun y ce2 => liftO (g (look ce2 x) (look ce2 y)) ce2 := Eq.trans rfl rfl
@[simp] theorem r_eUn {g : D → Option D} : eUn g ga sl ce = (ga sl ce).bind fun x ce1 => liftO (g (look ce1 x)) ce1 := Eq.trans rfl rfl
@[simp] theorem r_asB : asB (.bl c) ce = .ok c ce := Eq.trans rfl rfl
@[simp] theorem r_tOf : tOf ga sl ce = (ga sl ce).bind asB := Eq.trans rfl rfl
@[simp] theorem r_tNotD : tNotD gt sl ce = (gt sl ce).bind fun b ce1 => .ok (!b) ce1 := Eq.trans rfl rfl
@[simp] theorem r_tAndD : tAndD gt gt' sl ce = (gt sl ce).bind fun b ce1 => if b = true then gt' sl ce1 else .ok false ce1 := Eq.trans rfl rfl
@[simp] theorem r_tOrD : tOrD gt gt' sl ce = (gt sl ce).bind fun b ce1 => if b = true then .ok true ce1 else gt' sl ce1 := Eq.trans rfl rfl
def andK (x : D) (r : Cells → Out D) (ce1 : Cells) : Out D := match x with
  | .bl true => r ce1
  | .bl false => .ok (.bl false) ce1
  | _ => .bad
def orK (x : D) (r : Cells → Out D) (ce1 : Cells) : Out D := match x with
  | .bl true => .ok (.bl true) ce1
  | .bl false => r ce1
  | _ => .bad
def notK (x : D) (ce1 : Cells) : Out D := match x with
  | .bl b => .ok (.bl (!b)) ce1
  | _ => .bad
@[simp] theorem andK_b {r : Cells → Out D} : andK (.bl c) r ce = if c = true then r ce else .ok (.bl false) ce := by cases c <;> rfl
@[simp] theorem orK_b {r : Cells → Out D} : orK (.bl c) r ce = if c = true then .ok (.bl true) ce else r ce := by cases c <;> rfl
@[simp] theorem notK_b : notK (.bl c) ce = .ok (.bl (!c)) ce := rfl
@[simp] theorem r_eAnd : eAnd ga gb sl ce = (ga sl ce).bind fun x ce1 => andK x (gb sl) ce1 := by
  unfold eAnd andK; congr 1
@[simp] theorem r_eOr : eOr ga gb sl ce = (ga sl ce).bind fun x ce1 => orK x (gb sl) ce1 := by
  unfold eOr orK; congr 1
@[simp] theorem r_eNot : eNot ga sl ce = (ga sl ce).bind fun x ce1 => notK x ce1 := by
  unfold eNot notK; congr 1
@[simp] theorem r_eIf : eIf gt ga gb sl ce = (gt sl ce).bind fun b ce1 => if b = true then ga sl ce1 else gb sl ce1 := Eq.trans rfl rfl
def chainK (r : Option D) (k : Cells → Out D) (ce2 : Cells) : Out D := match r with
  | some (.bl true) => k ce2
  | some (.bl false) => .ok (.bl false) ce2
  | _ => .bad
@[simp] theorem chainK_b {k : Cells → Out D} : chainK (some (.bl c)) k ce = if c = true then k ce else .ok (.bl false) ce := by cases c <;> rfl
@[simp] theorem r_eChain {g' : D → D → Option D} : eChain g g' ga gb gc sl ce = (ga sl ce).bind fun x ce1 => (gb sl ce1).bind fun y ce2 => chainK (g (look ce2 x) (look ce2 y)) (fun ce2 => (gc sl ce2).bind fun z ce3 => liftO (g' (look ce3 y) (look ce3 z)) ce3) ce2 := by
  unfold eChain chainK; congr 1
@[simp] theorem r_aNil : aNil sl ce = .ok [] ce := Eq.trans rfl rfl
@[simp] theorem r_aCons : aCons ga gA sl ce = (ga sl ce).bind fun x ce1 => (gA sl ce1).bind fun xs ce2 => .ok (x :: xs) ce2 := Eq.trans rfl rfl
@[simp] theorem r_eTup : eTup gA sl ce = (gA sl ce).bind fun xs ce1 => if xs.length ≤ 1000 then .ok (.tup (frzs ce1 xs).1) (frzs ce1 xs).2 else .bad := Eq.trans rfl rfl
@[simp] theorem r_eLst : eLst gA sl ce = (gA sl ce).bind fun xs ce1 => if xs.length ≤ 1000 then .ok (.lst (frzs ce1 xs).1) (frzs ce1 xs).2 else .bad := Eq.trans rfl rfl
@[simp] theorem r_eLstC : eLstC gA sl ce = (gA sl ce).bind fun xs ce1 => if xs.length ≤ 1000 then .ok (.cel ce1.length) ((frzs ce1 xs).2 ++ [.lst (frzs ce1 xs).1]) else .bad := Eq.trans rfl rfl
@[simp] theorem r_frzs0 : frzs ce [] = ([], ce) := Eq.trans rfl rfl
@[simp] theorem r_frzs1 : frzs ce (d :: ds) = ((frz ce d).1 :: (frzs (frz ce d).2 ds).1, (frzs (frz ce d).2 ds).2) := Eq.trans rfl rfl
@[simp] theorem r_eCall {g : List D → Option D} : eCall g gA sl ce = (gA sl ce).bind fun xs ce1 => liftO (g (xs.map (look ce1))) ce1 := Eq.trans rfl rfl
@[simp] theorem r_eFn {F : FDen} : eFn F gA sl ce = (gA sl ce).bind F := Eq.trans rfl rfl
@[simp] theorem r_eMeth0 {T : String} {g : D → List D → Option D} : eMeth0 T g ga sl ce = (ga sl ce).bind fun x ce1 => if dTy T (look ce1 x) then liftO (g (look ce1 x) []) ce1 else .bad := Eq.trans rfl rfl
@[simp] theorem r_eMethR {T : String} {g : D → List D → Option D} : eMethR T g ga gA sl ce = (ga sl ce).bind fun x ce1 => if dTy T (look ce1 x) then (gA sl ce1).bind fun xs ce2 => liftO (g (look ce2 x) (xs.map (look ce2))) ce2 else .bad := Eq.trans rfl rfl
@[simp] theorem r_dTyS {x : List Nat} : dTy "str" (.str x) = true := by unfold dTy; rfl
@[simp] theorem r_dTyL {x : List D} : dTy "list" (.lst x) = true := by unfold dTy; rfl
def intK (d : D) (ce : Cells) : Out (Option Int) := match d with
  | .int i => .ok (some i) ce
  | _ => .bad
@[simp] theorem intK_i {i : Int} : intK (.int i) ce = .ok (some i) ce := rfl
@[simp] theorem r_oNone : oNone sl ce = .ok none ce := Eq.trans rfl rfl
@[simp] theorem r_oSome : oSome ga sl ce = (ga sl ce).bind intK := by unfold oSome; congr 1
@[simp] theorem r_eSl {gl gh : ODen} : eSl ga gl gh sl ce = (ga sl ce).bind fun x ce1 => (gl sl ce1).bind fun lo ce2 => (gh sl ce2).bind fun hi ce3 => liftO (dSl (look ce3 x) lo hi) ce3 := Eq.trans rfl rfl
def seqK (r : SOut) (k : SDen) : SOut := match r with
  | .nx sl1 ce1 => k sl1 ce1
  | r => r
@[simp] theorem seqK_nx : seqK (.nx sl ce) b = b sl ce := rfl
@[simp] theorem seqK_rt : seqK (.rt d ce) b = .rt d ce := rfl
@[simp] theorem seqK_ct : seqK (.ct sl ce) b = .ct sl ce := rfl
@[simp] theorem seqK_bk : seqK (.bk sl ce) b = .bk sl ce := rfl
@[simp] theorem seqK_ex {e : Str} : seqK (.ex e sl ce) b = .ex e sl ce := rfl
@[simp] theorem seqK_ite {p : Prop} [Decidable p] {s t : SOut} : seqK (if p then s else t) b = if p then seqK s b else seqK t b := by split <;> rfl
@[simp] theorem r_sNil : sNil sl ce = .nx sl ce := Eq.trans rfl rfl
@[simp] theorem r_sSeq : sSeq b b' sl ce = seqK (b sl ce) b' := by unfold sSeq seqK; rfl
@[simp] theorem r_sSet : sSet i ga sl ce = (ga sl ce).st sl fun d ce1 => .nx (sl.set i (some d)) ce1 := Eq.trans rfl rfl
@[simp] theorem r_sRet : sRet ga sl ce = (ga sl ce).st sl fun d ce1 => .rt d ce1 := Eq.trans rfl rfl
@[simp] theorem r_sRetF : sRetF ga sl ce = (ga sl ce).st sl fun d ce1 => .rt (frz ce1 d).1 (frz ce1 d).2 := Eq.trans rfl rfl
@[simp] theorem r_sRetN : sRetN sl ce = .rt .non ce := Eq.trans rfl rfl
@[simp] theorem r_sExpr : sExpr ga sl ce = (ga sl ce).st sl fun _ ce1 => .nx sl ce1 := Eq.trans rfl rfl
@[simp] theorem r_sIf : sIf gt b b' sl ce = (gt sl ce).st sl fun c ce1 => if c = true then b sl ce1 else b' sl ce1 := Eq.trans rfl rfl
@[simp] theorem r_sBreak : sBreak sl ce = .bk sl ce := Eq.trans rfl rfl
@[simp] theorem r_sCont : sCont sl ce = .ct sl ce := Eq.trans rfl rfl
@[simp] theorem r_gN : gN i d sl = some (sl.set i (some d)) := Eq.trans rfl rfl
@[simp] theorem r_gsN0 : gsN [] [] sl = some sl := Eq.trans rfl rfl
@[simp] theorem r_gsN1 {is : List Nat} : gsN (i :: is) (d :: ds) sl = gsN is ds (sl.set i (some d)) := Eq.trans rfl rfl
@[simp] theorem r_gT {gs : GsDen} : gT gs n (.tup ds) sl = if ds.length = n then gs ds sl else none := Eq.trans rfl rfl
@[simp] theorem r_sMulti {is : List Nat} : sMulti is gA sl ce = (gA sl ce).st sl fun ds ce1 => match gsN is ds sl with
  | some sl' => .nx sl' ce1
  | none => .bad := Eq.trans rfl rfl
@[simp] theorem r_wipe0 : wipeD sl [] = sl := Eq.trans rfl rfl
@[simp] theorem r_wipe1 {us : List Nat} : wipeD sl (i :: us) = (wipeD sl us).set i none := Eq.trans rfl rfl
@[simp] theorem r_eLR {f : Int → Int → Cells → Out D} {gR : SEnv → Cells → Out (Int × Int)} : eLR f gR sl ce = (gR sl ce).bind fun q ce1 => if rgOk q.1 q.2 then f q.1 q.2 ce1 else .bad := Eq.trans rfl rfl
@[simp] theorem ite_bind {α β : Type} {p : Prop} [Decidable p] {s t : Out α} {f : α → Cells → Out β} : (if p then s else t).bind f = if p then s.bind f else t.bind f := by split <;> rfl
@[simp] theorem ite_st {α : Type} {p : Prop} [Decidable p] {s t : Out α} {f : α → Cells → SOut} : (if p then s else t).st sl f = if p then s.st sl f else t.st sl f := by split <;> rfl
/-! operators -/
@[simp] theorem o_add_int {i j : Int} : dAdd (.int i) (.int j) = some (.int (i + j)) := rfl
theorem o_add_str {x y : List Nat} (h : x.length + y.length ≤ 1000000) : dAdd (.str x) (.str y) = some (.str (x ++ y)) := if_pos h
theorem o_add_lst {x y : List D} (h : x.length + y.length ≤ 1000000) : dAdd (.lst x) (.lst y) = some (.lst (x ++ y)) := if_pos h
@[simp] theorem o_sub {i j : Int} : dSub (.int i) (.int j) = some (.int (i - j)) := rfl
@[simp] theorem o_lt {i j : Int} : dLt (.int i) (.int j) = some (.bl (decide (i < j))) := rfl
@[simp] theorem o_le {i j : Int} : dLe (.int i) (.int j) = some (.bl (decide (i ≤ j))) := rfl
@[simp] theorem o_gt {i j : Int} : dGt (.int i) (.int j) = some (.bl (decide (j < i))) := rfl
@[simp] theorem o_ge {i j : Int} : dGe (.int i) (.int j) = some (.bl (decide (j ≤ i))) := rfl
@[simp] theorem o_neg {i : Int} : dNeg (.int i) = some (.int (-i)) := rfl
theorem o_mod {i j : Int} (h : 0 < j) : dMod (.int i) (.int j) = some (.int (i % j)) := if_pos h
@[simp] theorem o_notin {x y : D} : dNotIn x y = notR (dIn x y) := rfl
@[simp] theorem o_len_str {x : List Nat} : dLen [.str x] = some (.int x.length) := rfl
@[simp] theorem o_len_lst {x : List D} : dLen [.lst x] = some (.int x.length) := rfl
@[simp] theorem o_len_tup {x : List D} : dLen [.tup x] = some (.int x.length) := rfl
@[simp] theorem o_upper {x : List Nat} : dUpper (.str x) [] = some (.str (x.map up1)) := rfl
@[simp] theorem o_lower {x : List Nat} : dLower (.str x) [] = some (.str (x.map lo1)) := rfl
@[simp] theorem o_islower {x : List Nat} : dIsLower (.str x) [] = some (.bl (x.any isLo && !x.any isUp)) := rfl
@[simp] theorem o_isupper {x : List Nat} : dIsUpper (.str x) [] = some (.bl (x.any isUp && !x.any isLo)) := rfl
@[simp] theorem o_sl_str {x : List Nat} {lo hi : Option Int} : dSl (.str x) lo hi = some (.str (cutL x lo hi)) := rfl
@[simp] theorem o_sl_lst {x : List D} {lo hi : Option Int} : dSl (.lst x) lo hi = some (.lst (cutL x lo hi)) := rfl
@[simp] theorem o_sl_tup {x : List D} {lo hi : Option Int} : dSl (.tup x) lo hi = some (.tup (cutL x lo hi)) := rfl
@[simp] theorem o_ix_str {x : List Nat} {i : Int} : dIx (.str x) (.int i) = (atI x i).map fun k => .str [k] := rfl
@[simp] theorem o_ix_lst {x : List D} {i : Int} : dIx (.lst x) (.int i) = atI x i := rfl
@[simp] theorem o_ix_tup {x : List D} {i : Int} : dIx (.tup x) (.int i) = atI x i := rfl
@[simp] theorem o_isi_str_str {x : List Nat} : dIsi [.str x, .ty "str"] = some (.bl true) := by simp [dIsi, tyOf, isiB]
end

section
variable {α : Type} {xs : List α} {a b : Nat}
theorem atI_nat {k : Nat} : atI xs (k : Int) = xs[k]? := by
  unfold atI ixN
  rw [if_pos (by omega)]
  by_cases h : k < xs.length
  · rw [if_pos (by omega)]; simp
  · rw [if_neg (by omega), List.getElem?_eq_none (by omega)]; rfl
theorem atI_nn {i : Int} (h : 0 ≤ i) : atI xs i = xs[i.toNat]? := by
  obtain ⟨k, rfl⟩ := Int.eq_ofNat_of_zero_le h
  rw [atI_nat]; simp
theorem cutL_to {k : Nat} : cutL xs none (some (k : Int)) = xs.take k := by
  unfold cutL
  rw [HT.sIx_nat, HT.sIx_none]
  simp only [List.drop_zero, Nat.sub_zero]
  by_cases h : k ≤ xs.length
  · rw [Nat.min_eq_left h]
  · rw [Nat.min_eq_right (by omega), List.take_of_length_le (Nat.le_refl _), List.take_of_length_le (by omega)]
theorem cutL_from {k : Nat} : cutL xs (some (k : Int)) none = xs.drop k := by
  unfold cutL
  rw [HT.sIx_nat, HT.sIx_none]
  by_cases h : k ≤ xs.length
  · rw [Nat.min_eq_left h, List.take_of_length_le (by simp)]
  · rw [Nat.min_eq_right (by omega)]; simp; omega
theorem cutL_mid (h : b ≤ xs.length) (hab : a ≤ b) : cutL xs (some (a : Int)) (some (b : Int)) = (xs.drop a).take (b - a) := by
  unfold cutL
  rw [HT.sIx_nat, HT.sIx_nat, Nat.min_eq_left h, Nat.min_eq_left (by omega)]
end
/-- places of a text -/
theorem rangeL_map {n : Nat} : rangeL 0 n = (List.range n).map fun (k : Nat) => D.int (k : Int) := by
  unfold rangeL; simp
theorem enumL_map {α : Type} {f : α → D} {xs : List α} : enumL (xs.map f) = xs.zipIdx.map fun q => .tup [.int (q.2 : Nat), f q.1] := by
  unfold enumL
  rw [List.zipIdx_map, List.map_map]
  rfl
end Ib

set_option Elab.async false
set_option linter.all false
set_option maxRecDepth 100000
set_option maxHeartbeats 2000000
/-! The J layer, part X: what must hold ahead of a run (weakest preconditions over denotations). -/
namespace Ib
open PySem PySem.Spec PyProof.Rows L2
abbrev natD (k : Nat) : D := .int (k : Int)
abbrev sgD (c : Nat) : D := .str [c]
inductive WE {α : Type} (r : Out α) (Q : α → Cells → Prop) (E : Str → Cells → Prop) : Prop where
  | ok (a : α) (ce : Cells) (h : r = .ok a ce) (q : Q a ce)
  | ex (x : Str) (ce : Cells) (h : r = .ex x ce) (q : E x ce)
inductive WS (r : SOut) (N : SEnv → Cells → Prop) (R : D → Cells → Prop) (B C : SEnv → Cells → Prop) (X : Str → SEnv → Cells → Prop) : Prop where
  | nx (sl : SEnv) (ce : Cells) (h : r = .nx sl ce) (q : N sl ce)
  | rt (d : D) (ce : Cells) (h : r = .rt d ce) (q : R d ce)
  | bk (sl : SEnv) (ce : Cells) (h : r = .bk sl ce) (q : B sl ce)
  | ct (sl : SEnv) (ce : Cells) (h : r = .ct sl ce) (q : C sl ce)
  | ex (x : Str) (sl : SEnv) (ce : Cells) (h : r = .ex x sl ce) (q : X x sl ce)
inductive WO (r : Option D) (Q : D → Prop) : Prop where
  | mk (d : D) (h : r = some d) (q : Q d)
inductive WSrc (r : Option Src) (Q : Src → Prop) : Prop where
  | mk (d : Src) (h : r = some d) (q : Q d)
def WSet (sl : SEnv) (i : Nat) (d : D) (P : SEnv → Prop) : Prop := P (sl.set i (some d))
def WSets (sl : SEnv) (is : List Nat) (ds : List D) (P : SEnv → Prop) : Prop := match gsN is ds sl with
  | some sl' => P sl'
  | none => False
def WG (gt : GDen) (d : D) (sl : SEnv) (P : SEnv → Prop) : Prop := match gt d sl with
  | some sl' => P sl'
  | none => False
inductive WIf (b : Bool) (A B : Prop) : Prop where
  | t (h : b = true) (a : A)
  | f (h : b = false) (a : B)
def WBl (d : D) (P : Bool → Prop) : Prop := match d with
  | .bl b => P b
  | _ => False
def WInt (d : D) (P : Int → Prop) : Prop := match d with
  | .int b => P b
  | _ => False
def WTree (xs : List D) (P : Prop) : Prop := Nat.ble xs.length 1000 = true ∧ (xs.all fun d => !isCel d) = true ∧ P
def WFin (n : Nat) (d : D) (ce : Cells) (Q : D → Cells → Prop) : Prop := WE (fin n d ce) Q fun _ _ => False
section
variable {α β : Type} {Q Q' : α → Cells → Prop} {E E' : Str → Cells → Prop} {r : Out α}
theorem WE.mono (h : WE r Q E) (q : ∀ a ce, Q a ce → Q' a ce) (e : ∀ x ce, E x ce → E' x ce) : WE r Q' E' := by
  cases h with
  | ok a ce h z => exact .ok a ce h (q _ _ z)
  | ex x ce h z => exact .ex x ce h (e _ _ z)
theorem WE.eq {a : α} {ce : Cells} (h : WE r (fun a' ce' => a' = a ∧ ce' = ce) fun _ _ => False) : r = .ok a ce := by
  cases h with
  | ok b ce' h z => obtain ⟨rfl, rfl⟩ := z; exact h
  | ex x ce h z => exact z.elim
theorem WE.out (h : WE r Q fun _ _ => False) : ∃ a ce, r = .ok a ce ∧ Q a ce := by
  cases h with
  | ok b ce' h z => exact ⟨b, ce', h, z⟩
  | ex x ce h z => exact z.elim
theorem we_eq {a : α} {ce : Cells} (h : r = .ok a ce) (q : Q a ce) : WE r Q E := .ok a ce h q
theorem we_exe {x : Str} {ce : Cells} (h : r = .ex x ce) (q : E x ce) : WE r Q E := .ex x ce h q
theorem we_ok {a : α} {ce : Cells} (q : Q a ce) : WE (.ok a ce) Q E := .ok a ce rfl q
theorem we_ex {x : Str} {ce : Cells} (q : E x ce) : WE (.ex x ce : Out α) Q E := .ex x ce rfl q
theorem we_bind {f : β → Cells → Out α} {r : Out β} (h : WE r (fun b ce => WE (f b ce) Q E) E) : WE (r.bind f) Q E := by
  cases h with
  | ok b ce h z => rw [h]; exact z
  | ex x ce h z => rw [h]; exact we_ex z
end
section
variable {N : SEnv → Cells → Prop} {R : D → Cells → Prop} {B C : SEnv → Cells → Prop} {X : Str → SEnv → Cells → Prop} {r : SOut}
theorem WS.mono {N' : SEnv → Cells → Prop} {R' : D → Cells → Prop} {B' C' : SEnv → Cells → Prop} {X' : Str → SEnv → Cells → Prop} (h : WS r N R B C X) (hn : ∀ sl ce, N sl ce → N' sl ce) (hr : ∀ sl ce, R sl ce → R' sl ce) (hb : ∀ sl ce, B sl ce → B' sl ce) (hc : ∀ sl ce, C sl ce → C' sl ce) (hx : ∀ x sl ce, X x sl ce → X' x sl ce) : WS r N' R' B' C' X' := by
  cases h with
  | nx sl ce h z => exact .nx sl ce h (hn _ _ z)
  | rt d ce h z => exact .rt d ce h (hr _ _ z)
  | bk sl ce h z => exact .bk sl ce h (hb _ _ z)
  | ct sl ce h z => exact .ct sl ce h (hc _ _ z)
  | ex x sl ce h z => exact .ex x sl ce h (hx _ _ _ z)
/-- a cut: only what is asked of the next statement changes -/
theorem WS.cut {N' : SEnv → Cells → Prop} (h : WS r N' R B C X) (hn : ∀ sl ce, N' sl ce → N sl ce) : WS r N R B C X := h.mono hn (fun _ _ h => h) (fun _ _ h => h) (fun _ _ h => h) (fun _ _ _ h => h)
theorem ws_eq {sl : SEnv} {ce : Cells} (h : r = .nx sl ce) (q : N sl ce) : WS r N R B C X := .nx sl ce h q
theorem ws_nx {sl : SEnv} {ce : Cells} (q : N sl ce) : WS (.nx sl ce) N R B C X := .nx sl ce rfl q
theorem ws_rt {d : D} {ce : Cells} (q : R d ce) : WS (.rt d ce) N R B C X := .rt d ce rfl q
theorem ws_bk {sl : SEnv} {ce : Cells} (q : B sl ce) : WS (.bk sl ce) N R B C X := .bk sl ce rfl q
theorem ws_ct {sl : SEnv} {ce : Cells} (q : C sl ce) : WS (.ct sl ce) N R B C X := .ct sl ce rfl q
theorem ws_exx {x : Str} {sl : SEnv} {ce : Cells} (q : X x sl ce) : WS (.ex x sl ce) N R B C X := .ex x sl ce rfl q
theorem ws_st {α : Type} {r : Out α} {sl : SEnv} {f : α → Cells → SOut} (h : WE r (fun a ce1 => WS (f a ce1) N R B C X) fun x ce1 => X x sl ce1) : WS (r.st sl f) N R B C X := by
  cases h with
  | ok b ce h z => rw [h]; exact z
  | ex x ce h z => rw [h]; exact ws_exx z
end
section
variable {α : Type} {i n : Nat} {sl : SEnv} {ce ce' : Cells} {d : D} {Q : D → Cells → Prop} {QB : Bool → Cells → Prop} {QA : List D → Cells → Prop} {QO : Option Int → Cells → Prop} {QS : Src → Cells → Prop} {E : Str → Cells → Prop} {g g' : D → D → Option D} {ga gb gc : EDen} {gt gt' : SEnv → Cells → Out Bool} {gA : SEnv → Cells → Out (List D)} {gl gh : ODen} {A B : Prop} {b : Bool}
theorem wif (h1 : b = true → A) (h2 : b = false → B) : WIf b A B := by
  cases b with
  | true => exact .t rfl (h1 rfl)
  | false => exact .f rfl (h2 rfl)
theorem wif_d {p : Prop} [Decidable p] (h1 : p → A) (h2 : ¬ p → B) : WIf (decide p) A B := wif (fun h => h1 (of_decide_eq_true h)) fun h => h2 (of_decide_eq_false h)
theorem wif_nd {p : Prop} [Decidable p] (h1 : ¬ p → A) (h2 : p → B) : WIf (!decide p) A B := wif (fun h => h1 (by simpa using h)) fun h => h2 (by simpa using h)
theorem wif_t (h : b = true) (a : A) : WIf b A B := .t h a
theorem wif_f (h : b = false) (a : B) : WIf b A B := .f h a
theorem wif_T (a : A) : WIf true A B := .t rfl a
theorem wif_F (a : B) : WIf false A B := .f rfl a
theorem wif_dt {p : Prop} [Decidable p] (h : p) (a : A) : WIf (decide p) A B := wif_t (decide_eq_true h) a
theorem wif_df {p : Prop} [Decidable p] (h : ¬ p) (a : B) : WIf (decide p) A B := wif_f (decide_eq_false h) a
theorem wif_nT (a : B) : WIf (!true) A B := .f rfl a
theorem wif_nF (a : A) : WIf (!false) A B := .t rfl a
theorem wif_nb (h1 : b = false → A) (h2 : b = true → B) : WIf (!b) A B := by
  cases b with
  | true => exact .f rfl (h2 rfl)
  | false => exact .t rfl (h1 rfl)
theorem wif_tru (h : WIf true A B) : A := by
  cases h with
  | t _ a => exact a
  | f h _ => cases h
theorem wif_fal (h : WIf false A B) : B := by
  cases h with
  | t h _ => cases h
  | f _ a => exact a
theorem wbl {P : Bool → Prop} (h : P b) : WBl (.bl b) P := h
theorem wint {i : Int} {P : Int → Prop} (h : P i) : WInt (.int i) P := h
theorem we_var (h : sl[i]? = some (some d)) (q : Q d ce) : WE (eVar i sl ce) Q E := by
  rw [r_eVar, h]; exact we_ok q
theorem we_c (q : Q d ce) : WE (eC d sl ce) Q E := we_ok q
theorem we_lift {o : Option D} (h : WO o fun d => Q d ce) : WE (liftO o ce) Q E := by
  obtain ⟨d, rfl, q⟩ := h
  exact we_ok q
theorem we_bin (h : WE (ga sl ce) (fun x ce1 => WE (gb sl ce1) (fun y ce2 => WO (g (look ce2 x) (look ce2 y)) fun d => Q d ce2) E) E) : WE (eBin g ga gb sl ce) Q E := by
  rw [r_eBin]
  exact we_bind (h.mono (fun _ _ h => we_bind (h.mono (fun _ _ h => we_lift h) fun _ _ h => h)) fun _ _ h => h)
theorem we_un {g : D → Option D} (h : WE (ga sl ce) (fun x ce1 => WO (g (look ce1 x)) fun d => Q d ce1) E) : WE (eUn g ga sl ce) Q E := by
  rw [r_eUn]
  exact we_bind (h.mono (fun _ _ h => we_lift h) fun _ _ h => h)
theorem we_tOf (h : WE (ga sl ce) (fun d ce1 => WBl d fun b => QB b ce1) E) : WE (tOf ga sl ce) QB E := by
  rw [r_tOf]
  refine we_bind (h.mono (fun d _ h => ?_) fun _ _ h => h)
  cases d with
  | bl b => exact we_ok h
  | _ => exact h.elim
theorem we_tNot (h : WE (gt sl ce) (fun b ce1 => QB (!b) ce1) E) : WE (tNotD gt sl ce) QB E := by
  rw [r_tNotD]
  exact we_bind (h.mono (fun _ _ h => we_ok h) fun _ _ h => h)
theorem we_tAnd (h : WE (gt sl ce) (fun b ce1 => WIf b (WE (gt' sl ce1) QB E) (QB false ce1)) E) : WE (tAndD gt gt' sl ce) QB E := by
  rw [r_tAndD]
  refine we_bind (h.mono (fun b _ h => ?_) fun _ _ h => h)
  cases b with
  | true => exact wif_tru h
  | false => exact we_ok (wif_fal h)
theorem we_tOr (h : WE (gt sl ce) (fun b ce1 => WIf b (QB true ce1) (WE (gt' sl ce1) QB E)) E) : WE (tOrD gt gt' sl ce) QB E := by
  rw [r_tOrD]
  refine we_bind (h.mono (fun b _ h => ?_) fun _ _ h => h)
  cases b with
  | true => exact we_ok (wif_tru h)
  | false => exact wif_fal h
theorem we_and (h : WE (ga sl ce) (fun d ce1 => WBl d fun b => WIf b (WE (gb sl ce1) Q E) (Q (.bl false) ce1)) E) : WE (eAnd ga gb sl ce) Q E := by
  rw [r_eAnd]
  refine we_bind (h.mono (fun d _ h => ?_) fun _ _ h => h)
  cases d with
  | bl b =>
    cases b with
    | true => exact wif_tru h
    | false => exact we_ok (wif_fal h)
  | _ => exact h.elim
theorem we_or (h : WE (ga sl ce) (fun d ce1 => WBl d fun b => WIf b (Q (.bl true) ce1) (WE (gb sl ce1) Q E)) E) : WE (eOr ga gb sl ce) Q E := by
  rw [r_eOr]
  refine we_bind (h.mono (fun d _ h => ?_) fun _ _ h => h)
  cases d with
  | bl b =>
    cases b with
    | true => exact we_ok (wif_tru h)
    | false => exact wif_fal h
  | _ => exact h.elim
theorem we_not (h : WE (ga sl ce) (fun d ce1 => WBl d fun b => Q (.bl (!b)) ce1) E) : WE (eNot ga sl ce) Q E := by
  rw [r_eNot]
  refine we_bind (h.mono (fun d _ h => ?_) fun _ _ h => h)
  cases d with
  | bl b => exact we_ok h
  | _ => exact h.elim
theorem we_if (h : WE (gt sl ce) (fun b ce1 => WIf b (WE (ga sl ce1) Q E) (WE (gb sl ce1) Q E)) E) : WE (eIf gt ga gb sl ce) Q E := by
  rw [r_eIf]
  refine we_bind (h.mono (fun b _ h => ?_) fun _ _ h => h)
  cases b with
  | true => exact wif_tru h
  | false => exact wif_fal h
theorem we_chain (h : WE (ga sl ce) (fun x ce1 => WE (gb sl ce1) (fun y ce2 => WO (g (look ce2 x) (look ce2 y)) fun d => WBl d fun b => WIf b (WE (gc sl ce2) (fun z ce3 => WO (g' (look ce3 y) (look ce3 z)) fun d => Q d ce3) E) (Q (.bl false) ce2)) E) E) : WE (eChain g g' ga gb gc sl ce) Q E := by
  rw [r_eChain]
  refine we_bind (h.mono (fun x _ h => we_bind (h.mono (fun y ce2 h => ?_) fun _ _ h => h)) fun _ _ h => h)
  obtain ⟨d, q, h⟩ := h
  rw [q]
  cases d with
  | bl b =>
    cases b with
    | true => exact we_bind ((wif_tru (show WIf true (WE (gc sl ce2) _ E) _ from h)).mono (fun _ _ h => we_lift h) fun _ _ h => h)
    | false => exact we_ok (wif_fal h)
  | _ => exact h.elim
theorem we_nil (q : QA [] ce) : WE (aNil sl ce) QA E := we_ok q
theorem we_cons (h : WE (ga sl ce) (fun x ce1 => WE (gA sl ce1) (fun xs ce2 => QA (x :: xs) ce2) E) E) : WE (aCons ga gA sl ce) QA E := by
  rw [r_aCons]
  exact we_bind (h.mono (fun _ _ h => we_bind (h.mono (fun _ _ h => we_ok h) fun _ _ h => h)) fun _ _ h => h)
theorem frzs_tree {ce : Cells} : ∀ {xs : List D}, (xs.all fun d => !isCel d) = true → frzs ce xs = (xs, ce)
  | [], _ => rfl
  | d :: xs, h => by
    simp only [List.all_cons, Bool.and_eq_true, Bool.not_eq_true'] at h
    rw [r_frzs1, frz_tree h.1, frzs_tree h.2]
theorem we_tup (h : WE (gA sl ce) (fun xs ce1 => WTree xs (Q (.tup xs) ce1)) E) : WE (eTup gA sl ce) Q E := by
  rw [r_eTup]
  refine we_bind (h.mono (fun xs ce1 h => ?_) fun _ _ h => h)
  rw [if_pos (Nat.le_of_ble_eq_true h.1), frzs_tree h.2.1]
  exact we_ok h.2.2
theorem we_lst (h : WE (gA sl ce) (fun xs ce1 => WTree xs (Q (.lst xs) ce1)) E) : WE (eLst gA sl ce) Q E := by
  rw [r_eLst]
  refine we_bind (h.mono (fun xs ce1 h => ?_) fun _ _ h => h)
  rw [if_pos (Nat.le_of_ble_eq_true h.1), frzs_tree h.2.1]
  exact we_ok h.2.2
theorem we_lstC (h : WE (gA sl ce) (fun xs ce1 => WTree xs (Q (.cel ce1.length) (ce1 ++ [.lst xs]))) E) : WE (eLstC gA sl ce) Q E := by
  rw [r_eLstC]
  refine we_bind (h.mono (fun xs ce1 h => ?_) fun _ _ h => h)
  rw [if_pos (Nat.le_of_ble_eq_true h.1), frzs_tree h.2.1]
  exact we_ok h.2.2
theorem wtree {xs : List D} {P : Prop} (h1 : Nat.ble xs.length 1000 = true) (h2 : (xs.all fun d => !isCel d) = true) (p : P) : WTree xs P := ⟨h1, h2, p⟩
theorem we_call {g : List D → Option D} (h : WE (gA sl ce) (fun xs ce1 => WO (g (xs.map (look ce1))) fun d => Q d ce1) E) : WE (eCall g gA sl ce) Q E := by
  rw [r_eCall]
  exact we_bind (h.mono (fun _ _ h => we_lift h) fun _ _ h => h)
theorem we_fn {F : FDen} (h : WE (gA sl ce) (fun xs ce1 => WE (F xs ce1) Q E) E) : WE (eFn F gA sl ce) Q E := by
  rw [r_eFn]
  exact we_bind h
theorem we_meth0 {T : String} {g : D → List D → Option D} (h : WE (ga sl ce) (fun x ce1 => dTy T (look ce1 x) = true ∧ WO (g (look ce1 x) []) fun d => Q d ce1) E) : WE (eMeth0 T g ga sl ce) Q E := by
  rw [r_eMeth0]
  refine we_bind (h.mono (fun _ _ h => ?_) fun _ _ h => h)
  rw [if_pos h.1]
  exact we_lift h.2
theorem we_methR {T : String} {g : D → List D → Option D} (h : WE (ga sl ce) (fun x ce1 => dTy T (look ce1 x) = true ∧ WE (gA sl ce1) (fun xs ce2 => WO (g (look ce2 x) (xs.map (look ce2))) fun d => Q d ce2) E) E) : WE (eMethR T g ga gA sl ce) Q E := by
  rw [r_eMethR]
  refine we_bind (h.mono (fun _ _ h => ?_) fun _ _ h => h)
  rw [if_pos h.1]
  exact we_bind (h.2.mono (fun _ _ h => we_lift h) fun _ _ h => h)
theorem we_oNone (q : QO none ce) : WE (oNone sl ce) QO E := we_ok q
theorem we_oSome (h : WE (ga sl ce) (fun d ce1 => WInt d fun i => QO (some i) ce1) E) : WE (oSome ga sl ce) QO E := by
  rw [r_oSome]
  refine we_bind (h.mono (fun d _ h => ?_) fun _ _ h => h)
  cases d with
  | int i => exact we_ok h
  | _ => exact h.elim
theorem we_sl (h : WE (ga sl ce) (fun x ce1 => WE (gl sl ce1) (fun lo ce2 => WE (gh sl ce2) (fun hi ce3 => WO (dSl (look ce3 x) lo hi) fun d => Q d ce3) E) E) E) : WE (eSl ga gl gh sl ce) Q E := by
  rw [r_eSl]
  exact we_bind (h.mono (fun _ _ h => we_bind (h.mono (fun _ _ h => we_bind (h.mono (fun _ _ h => we_lift h) fun _ _ h => h)) fun _ _ h => h)) fun _ _ h => h)
/-! ranges made lists -/
def WRg (q : Int × Int) (P : Prop) : Prop := rgOk q.1 q.2 = true ∧ P
theorem we_LR {f : Int → Int → Cells → Out D} {gR : SEnv → Cells → Out (Int × Int)} (h : WE (gR sl ce) (fun q ce1 => WRg q (WE (f q.1 q.2 ce1) Q E)) E) : WE (eLR f gR sl ce) Q E := by
  rw [r_eLR]
  refine we_bind (h.mono (fun _ _ h => ?_) fun _ _ h => h)
  rw [if_pos h.1]
  exact h.2
theorem we_asI {P : Int → Cells → Prop} {i : Int} (q : P i ce) : WE (asI (.int i) ce) P E := we_ok q
theorem we_rg1 {P : Int × Int → Cells → Prop} (h : WE (ga sl ce) (fun d ce1 => WInt d fun n => P (0, n) ce1) E) : WE (rg1 ga sl ce) P E := by
  unfold rg1
  refine we_bind (h.mono (fun d _ h => ?_) fun _ _ h => h)
  cases d with
  | int i => exact we_ok h
  | _ => exact h.elim
theorem we_rg2 {P : Int × Int → Cells → Prop} (h : WE (ga sl ce) (fun d ce1 => WE (gb sl ce1) (fun d' ce2 => WInt d fun n => WInt d' fun m => P (n, m) ce2) E) E) : WE (rg2 ga gb sl ce) P E := by
  unfold rg2
  refine we_bind (h.mono (fun d _ h => we_bind (h.mono (fun d' _ h => ?_) fun _ _ h => h)) fun _ _ h => h)
  cases d with
  | int i =>
    cases d' with
    | int j => exact we_ok h
    | _ => exact h.elim
  | _ => exact h.elim
theorem rgOk_nat {a b : Nat} (ha : a ≤ 1000000) (hb : b ≤ 1000000) : rgOk (a : Int) (b : Int) = true := by simp [rgOk]; omega
theorem we_lrTree {a b : Int} (q : Q (.lst (rangeL a (b - a).toNat)) ce) : WE (lrTree a b ce) Q E := we_ok q
theorem we_lrCell {a b : Int} (q : Q (.cel ce.length) (ce ++ [.lst (rangeL a (b - a).toNat)])) : WE (lrCell a b ce) Q E := we_ok q
theorem we_trTree {a b : Int} (q : Q (.tup (rangeL a (b - a).toNat)) ce) : WE (trTree a b ce) Q E := we_ok q
theorem wrg1 {P : Prop} {n : Nat} (h : n ≤ 1000000) (p : P) : WRg (0, (n : Int)) P := ⟨rgOk_nat (a := 0) (by omega) h, p⟩
/-! walks -/
theorem we_iter (h : WE (ga sl ce) (fun d ce1 => WSrc (srcOf d ce1) fun s => QS s ce1) E) : WE (eIter ga sl ce) QS E := by
  unfold eIter
  refine we_bind (h.mono (fun d ce1 h => ?_) fun _ _ h => h)
  obtain ⟨s, q, h⟩ := h
  rw [q]; exact we_ok h
theorem we_src {f : List D → Option Src} (h : WE (gA sl ce) (fun xs ce1 => WSrc (f xs) fun s => QS s ce1) E) : WE (eSrc f gA sl ce) QS E := by
  unfold eSrc
  refine we_bind (h.mono (fun d ce1 h => ?_) fun _ _ h => h)
  obtain ⟨s, q, h⟩ := h
  simp only [q]; exact we_ok h
theorem we_srcC {f : Cells → List D → Option Src} (h : WE (gA sl ce) (fun xs ce1 => WSrc (f ce1 xs) fun s => QS s ce1) E) : WE (eSrcC f gA sl ce) QS E := by
  unfold eSrcC
  refine we_bind (h.mono (fun d ce1 h => ?_) fun _ _ h => h)
  obtain ⟨s, q, h⟩ := h
  simp only [q]; exact we_ok h
variable {P : Src → Prop}
theorem wsrc_str {x : List Nat} (h : P (srcC (x.map sgD))) : WSrc (srcOf (.str x) ce) P := ⟨_, rfl, h⟩
theorem wsrc_lst {x : List D} (h : P (srcC x)) : WSrc (srcOf (.lst x) ce) P := ⟨_, rfl, h⟩
theorem wsrc_tup {x : List D} (h : P (srcC x)) : WSrc (srcOf (.tup x) ce) P := ⟨_, rfl, h⟩
theorem wsrc_en_str {x : List Nat} (h : P (srcC (x.zipIdx.map fun q => .tup [natD q.2, sgD q.1]))) : WSrc (srcEnum ce [.str x]) P := by
  refine ⟨srcC (enumL (x.map fun c => D.str [c])), rfl, ?_⟩
  rw [enumL_map]; exact h
theorem wsrc_en_lst {β : Type} {f : β → D} {x : List β} (h : P (srcC (x.zipIdx.map fun q => .tup [natD q.2, f q.1]))) : WSrc (srcEnum ce [.lst (x.map f)]) P := by
  have e : srcEnum ce [.lst (x.map f)] = some (srcC (enumL (x.map f))) := by
    show some (Src.mk _ _) = some (Src.mk _ _)
    congr 2
    simp [enumL]
  refine ⟨_, e, ?_⟩
  rw [enumL_map]; exact h
theorem wsrc_zip_str {x y : List Nat} (h : P (srcC ((x.zip y).map fun q => .tup [sgD q.1, sgD q.2]))) : WSrc (srcZip ce [.str x, .str y]) P := by
  refine ⟨srcC (zipL (x.map fun c => D.str [c]) (y.map fun c => D.str [c])), rfl, ?_⟩
  unfold zipL
  rw [List.zipWith_map]
  rw [show List.zip x y = List.zipWith Prod.mk x y from rfl, List.map_zipWith] at h
  exact h
theorem wsrc_r1 {n : Nat} (hn : n ≤ 1000000) (h : P (srcC ((List.range n).map natD))) : WSrc (srcRange1 [.int (n : Int)]) P := by
  have h1 : rngOk (n : Int) = true := rngOk_iff.mpr ⟨by omega, by omega⟩
  have e : srcRange1 [.int (n : Int)] = some (srcC ((List.range n).map natD)) := by
    unfold srcRange1
    simp [h1, rangeL_map]
  exact ⟨_, e, h⟩
theorem wsrc_r1L {i : Int} (h0 : 0 ≤ i) (hn : i ≤ 1000000) (h : P (srcC ((List.range i.toNat).map natD))) : WSrc (srcRange1 [.int i]) P := by
  obtain ⟨n, rfl⟩ := Int.eq_ofNat_of_zero_le h0
  exact wsrc_r1 (by omega) h
theorem wsrc_r2 {a b : Nat} (ha : a ≤ 1000000) (hb : b ≤ 1000000) (h : P (srcC ((List.range' a (b - a)).map natD))) : WSrc (srcRange2 [.int (a : Int), .int (b : Int)]) P := by
  have h1 : rngOk (a : Int) = true := rngOk_iff.mpr ⟨by omega, by omega⟩
  have h2 : rngOk (b : Int) = true := rngOk_iff.mpr ⟨by omega, by omega⟩
  have e1 : ((b : Int) - (a : Int)).toNat = b - a := by omega
  have e : srcRange2 [.int (a : Int), .int (b : Int)] = some (srcC ((List.range' a (b - a)).map natD)) := by
    unfold srcRange2
    simp only [h1, h2, Bool.and_self, if_true, e1]
    have e : rangeL (a : Int) (b - a) = (List.range' a (b - a)).map natD := by
      unfold rangeL
      rw [List.range'_eq_map_range, List.map_map]
      apply List.map_congr_left
      intro x _
      simp
    rw [e]
  exact ⟨_, e, h⟩
end
section
variable {α : Type} {i n : Nat} {sl sl' : SEnv} {ce ce' : Cells} {d a a0 a1 a2 a3 a4 a5 a6 a7 a8 a9 a10 a11 a12 a13 a14 : Option D} {l : SEnv} {dd : D} {P : SEnv → Prop}
theorem wset0 (h : P (some dd :: l)) : WSet (a :: l) 0 dd P := h
theorem wset1 (h : P (a0 :: some dd :: l)) : WSet (a0 :: a :: l) 1 dd P := h
theorem wset2 (h : P (a0 :: a1 :: some dd :: l)) : WSet (a0 :: a1 :: a :: l) 2 dd P := h
theorem wset3 (h : P (a0 :: a1 :: a2 :: some dd :: l)) : WSet (a0 :: a1 :: a2 :: a :: l) 3 dd P := h
theorem wset4 (h : P (a0 :: a1 :: a2 :: a3 :: some dd :: l)) : WSet (a0 :: a1 :: a2 :: a3 :: a :: l) 4 dd P := h
theorem wset5 (h : P (a0 :: a1 :: a2 :: a3 :: a4 :: some dd :: l)) : WSet (a0 :: a1 :: a2 :: a3 :: a4 :: a :: l) 5 dd P := h
theorem wset6 (h : P (a0 :: a1 :: a2 :: a3 :: a4 :: a5 :: some dd :: l)) : WSet (a0 :: a1 :: a2 :: a3 :: a4 :: a5 :: a :: l) 6 dd P := h
theorem wset7 (h : P (a0 :: a1 :: a2 :: a3 :: a4 :: a5 :: a6 :: some dd :: l)) : WSet (a0 :: a1 :: a2 :: a3 :: a4 :: a5 :: a6 :: a :: l) 7 dd P := h
theorem wset8 (h : P (a0 :: a1 :: a2 :: a3 :: a4 :: a5 :: a6 :: a7 :: some dd :: l)) : WSet (a0 :: a1 :: a2 :: a3 :: a4 :: a5 :: a6 :: a7 :: a :: l) 8 dd P := h
theorem wset9 (h : P (a0 :: a1 :: a2 :: a3 :: a4 :: a5 :: a6 :: a7 :: a8 :: some dd :: l)) : WSet (a0 :: a1 :: a2 :: a3 :: a4 :: a5 :: a6 :: a7 :: a8 :: a :: l) 9 dd P := h
theorem wset10 (h : P (a0 :: a1 :: a2 :: a3 :: a4 :: a5 :: a6 :: a7 :: a8 :: a9 :: some dd :: l)) : WSet (a0 :: a1 :: a2 :: a3 :: a4 :: a5 :: a6 :: a7 :: a8 :: a9 :: a :: l) 10 dd P := h
theorem wset11 (h : P (a0 :: a1 :: a2 :: a3 :: a4 :: a5 :: a6 :: a7 :: a8 :: a9 :: a10 :: some dd :: l)) : WSet (a0 :: a1 :: a2 :: a3 :: a4 :: a5 :: a6 :: a7 :: a8 :: a9 :: a10 :: a :: l) 11 dd P := h
theorem wset12 (h : P (a0 :: a1 :: a2 :: a3 :: a4 :: a5 :: a6 :: a7 :: a8 :: a9 :: a10 :: a11 :: some dd :: l)) : WSet (a0 :: a1 :: a2 :: a3 :: a4 :: a5 :: a6 :: a7 :: a8 :: a9 :: a10 :: a11 :: a :: l) 12 dd P := h
theorem wset13 (h : P (a0 :: a1 :: a2 :: a3 :: a4 :: a5 :: a6 :: a7 :: a8 :: a9 :: a10 :: a11 :: a12 :: some dd :: l)) : WSet (a0 :: a1 :: a2 :: a3 :: a4 :: a5 :: a6 :: a7 :: a8 :: a9 :: a10 :: a11 :: a12 :: a :: l) 13 dd P := h
theorem wset14 (h : P (a0 :: a1 :: a2 :: a3 :: a4 :: a5 :: a6 :: a7 :: a8 :: a9 :: a10 :: a11 :: a12 :: a13 :: some dd :: l)) : WSet (a0 :: a1 :: a2 :: a3 :: a4 :: a5 :: a6 :: a7 :: a8 :: a9 :: a10 :: a11 :: a12 :: a13 :: a :: l) 14 dd P := h
theorem wset15 (h : P (a0 :: a1 :: a2 :: a3 :: a4 :: a5 :: a6 :: a7 :: a8 :: a9 :: a10 :: a11 :: a12 :: a13 :: a14 :: some dd :: l)) : WSet (a0 :: a1 :: a2 :: a3 :: a4 :: a5 :: a6 :: a7 :: a8 :: a9 :: a10 :: a11 :: a12 :: a13 :: a14 :: a :: l) 15 dd P := h
theorem wset_any (h : P (sl.set i (some dd))) : WSet sl i dd P := h
theorem wsets_nil (h : P sl) : WSets sl [] [] P := h
theorem wsets_cons {is : List Nat} {ds : List D} (h : WSet sl i dd fun sl1 => WSets sl1 is ds P) : WSets sl (i :: is) (dd :: ds) P := h
theorem wg_n (h : WSet sl i dd P) : WG (gN i) dd sl P := h
theorem wg_t {is : List Nat} {ds : List D} (hn : ds.length = n) (h : WSets sl is ds P) : WG (gT (gsN is) n) (.tup ds) sl P := by
  unfold WG
  rw [r_gT, if_pos hn]; exact h
theorem wgw_n (h : WSet sl i dd P) : WG (gN i) dd (wipeD sl [i]) P := by
  unfold WG
  rw [r_wipe1, r_wipe0, r_gN, List.set_set]; exact h
theorem wgw_t2 {j : Nat} {d e : D} (hij : i ≠ j) (h : WSet sl i d fun sl1 => WSet sl1 j e P) : WG (gT (gsN [i, j]) 2) (.tup [d, e]) (wipeD sl [i, j]) P := by
  unfold WG
  have e : ((((sl.set j none).set i none).set i (some d)).set j (some e)) = (sl.set i (some d)).set j (some e) := by
    rw [List.set_set, List.set_comm _ _ hij, List.set_set, List.set_comm _ _ hij.symm]
  rw [r_gT, if_pos (show [d, _].length = 2 from rfl), r_wipe1, r_wipe1, r_wipe0, r_gsN1, r_gsN1, r_gsN0, e]
  exact h
end
section
variable {α : Type} {i n : Nat} {sl : SEnv} {ce ce' : Cells} {d : D} {E : Str → Cells → Prop} {ge : EDen} {gt : SEnv → Cells → Out Bool} {gA : SEnv → Cells → Out (List D)} {gi : SEnv → Cells → Out Src} {tg : GDen} {b b' : SDen}
  {N : SEnv → Cells → Prop} {R : D → Cells → Prop} {B C : SEnv → Cells → Prop} {X : Str → SEnv → Cells → Prop}
theorem ws_nil (h : N sl ce) : WS (sNil sl ce) N R B C X := ws_nx h
theorem ws_seq (h : WS (b sl ce) (fun sl1 ce1 => WS (b' sl1 ce1) N R B C X) R B C X) : WS (sSeq b b' sl ce) N R B C X := by
  rw [r_sSeq]
  cases h with
  | nx sl1 ce1 e z => rw [e]; exact z
  | rt d ce1 e z => rw [e]; exact ws_rt z
  | bk sl1 ce1 e z => rw [e]; exact ws_bk z
  | ct sl1 ce1 e z => rw [e]; exact ws_ct z
  | ex x sl1 ce1 e z => rw [e]; exact ws_exx z
theorem ws_set (h : WE (ge sl ce) (fun d ce1 => WSet sl i d fun sl' => N sl' ce1) fun x ce1 => X x sl ce1) : WS (sSet i ge sl ce) N R B C X := by
  rw [r_sSet]; exact ws_st (h.mono (fun _ _ h => ws_nx h) fun _ _ h => h)
theorem ws_ret (h : WE (ge sl ce) (fun d ce1 => R d ce1) fun x ce1 => X x sl ce1) : WS (sRet ge sl ce) N R B C X := by
  rw [r_sRet]; exact ws_st (h.mono (fun _ _ h => ws_rt h) fun _ _ h => h)
theorem ws_retF (h : WE (ge sl ce) (fun d ce1 => R (frz ce1 d).1 (frz ce1 d).2) fun x ce1 => X x sl ce1) : WS (sRetF ge sl ce) N R B C X := by
  rw [r_sRetF]; exact ws_st (h.mono (fun _ _ h => ws_rt h) fun _ _ h => h)
theorem ws_retN (h : R .non ce) : WS (sRetN sl ce) N R B C X := ws_rt h
theorem ws_expr (h : WE (ge sl ce) (fun d ce1 => N sl ce1) fun x ce1 => X x sl ce1) : WS (sExpr ge sl ce) N R B C X := by
  rw [r_sExpr]; exact ws_st (h.mono (fun _ _ h => ws_nx h) fun _ _ h => h)
theorem ws_if (h : WE (gt sl ce) (fun c ce1 => WIf c (WS (b sl ce1) N R B C X) (WS (b' sl ce1) N R B C X)) fun x ce1 => X x sl ce1) : WS (sIf gt b b' sl ce) N R B C X := by
  rw [r_sIf]
  refine ws_st (h.mono (fun c _ h => ?_) fun _ _ h => h)
  cases c with
  | true => exact wif_tru h
  | false => exact wif_fal h
theorem ws_break (h : B sl ce) : WS (sBreak sl ce) N R B C X := ws_bk h
theorem ws_cont (h : C sl ce) : WS (sCont sl ce) N R B C X := ws_ct h
theorem ws_multi {is : List Nat} (h : WE (gA sl ce) (fun ds ce1 => WSets sl is ds fun sl' => N sl' ce1) fun x ce1 => X x sl ce1) : WS (sMulti is gA sl ce) N R B C X := by
  rw [r_sMulti]
  refine ws_st (h.mono (fun ds ce1 h => ?_) fun _ _ h => h)
  unfold WSets at h
  cases q : gsN is ds sl with
  | none => rw [q] at h; exact h.elim
  | some sl' => rw [q] at h; exact ws_nx h
theorem ws_asg (h : WE (ge sl ce) (fun d ce1 => isCel d = false ∧ WG tg d sl fun sl' => N sl' ce1) fun x ce1 => X x sl ce1) : WS (sAsg tg ge sl ce) N R B C X := by
  unfold sAsg
  refine ws_st (h.mono (fun d ce1 h => ?_) fun _ _ h => h)
  have key : WS (match tg d sl with
    | some sl' => SOut.nx sl' ce1
    | none => .bad) N R B C X := by
    have h2 := h.2
    unfold WG at h2
    cases q : tg d sl with
    | none => rw [q] at h2; exact h2.elim
    | some sl' => rw [q] at h2; exact ws_nx h2
  have hc := h.1
  cases d with
  | cel k => cases hc
  | _ => exact key
theorem ws_aug {g : D → D → Option D} {x : D} (hx : sl[i]? = some (some x)) (h : WE (ge sl ce) (fun y ce1 => WO (g (look ce1 x) (look ce1 y)) fun d => WSet sl i d fun sl' => N sl' ce1) fun x ce1 => X x sl ce1) : WS (sAug i g ge sl ce) N R B C X := by
  unfold sAug
  simp only [hx]
  refine ws_st (h.mono (fun y ce1 h => ?_) fun _ _ h => h)
  obtain ⟨d, q, h⟩ := h
  rw [q]; exact ws_nx h
/-! loops -/
def WLoop (src : Src) (tg : GDen) (b : SDen) (sl : SEnv) (ce : Cells) (N : SEnv → Cells → Prop) (R : D → Cells → Prop) (B C : SEnv → Cells → Prop) (X : Str → SEnv → Cells → Prop) : Prop := WS (loop src tg b src.n sl ce) N R B C X
theorem wloop_C {xs : List D} (h : WS (forL tg b xs sl ce) N R B C X) : WLoop (srcC xs) tg b sl ce N R B C X := by
  unfold WLoop
  rw [srcC_n, loop_C]; exact h
theorem ws_for (h : WE (gi sl ce) (fun src ce1 => WLoop src tg b sl ce1 N R B C X) fun x ce1 => X x sl ce1) : WS (sFor gi tg b sl ce) N R B C X := by
  unfold sFor
  exact ws_st h
theorem forL_nil (h : N sl ce) : WS (forL tg b [] sl ce) N R B C X := ws_nx h
theorem forL_cons {d : D} {xs : List D} (h : WG tg d sl fun sl1 => WS (b sl1 ce) (fun sl2 ce2 => WS (forL tg b xs sl2 ce2) N R B C X) R N (fun sl2 ce2 => WS (forL tg b xs sl2 ce2) N R B C X) X) : WS (forL tg b (d :: xs) sl ce) N R B C X := by
  unfold WG at h
  unfold forL
  cases q : tg d sl with
  | none => rw [q] at h; exact h.elim
  | some sl1 =>
    rw [q] at h
    simp only at h ⊢
    cases h with
    | nx sl1 ce1 e z => rw [e]; exact z
    | rt d ce1 e z => rw [e]; exact ws_rt z
    | bk sl1 ce1 e z => rw [e]; exact ws_nx z
    | ct sl1 ce1 e z => rw [e]; exact z
    | ex x sl1 ce1 e z => rw [e]; exact ws_exx z
theorem WG.imp {d : D} {P P' : SEnv → Prop} (h : WG tg d sl P) (i : ∀ sl, P sl → P' sl) : WG tg d sl P' := by
  unfold WG at h ⊢
  cases q : tg d sl with
  | none => rw [q] at h; exact h.elim
  | some sl1 => rw [q] at h; exact i _ h
theorem ws_loop {f : α → D} {xs : List α} (I : List α → SEnv → Cells → Prop) (h0 : I [] sl ce)
    (hs : ∀ pre x post sl ce, xs = pre ++ x :: post → I pre sl ce → WG tg (f x) sl fun sl1 => WS (b sl1 ce) (I (pre ++ [x])) R N (I (pre ++ [x])) X)
    (hd : ∀ sl ce, I xs sl ce → N sl ce) : WS (forL tg b (xs.map f) sl ce) N R B C X := by
  have key : ∀ post pre sl ce, xs = pre ++ post → I pre sl ce → WS (forL tg b (post.map f) sl ce) N R B C X := by
    intro post
    induction post with
    | nil => intro pre sl ce e i; rw [List.append_nil] at e; exact forL_nil (hd _ _ (e ▸ i))
    | cons x post ih =>
      intro pre sl ce e i
      rw [List.map_cons]
      refine forL_cons ((hs pre x post sl ce e i).imp fun sl1 h => ?_)
      exact WS.mono h (fun _ _ h => ih _ _ _ (by rw [e]; simp) h) (fun _ _ h => h) (fun _ _ h => h) (fun _ _ h => ih _ _ _ (by rw [e]; simp) h) fun _ _ _ h => h
  exact key xs [] sl ce rfl h0
/-- by what is left -/
theorem ws_loopR {f : α → D} {xs : List α} (I : List α → SEnv → Cells → Prop) (h0 : I xs sl ce)
    (hs : ∀ x post sl ce, I (x :: post) sl ce → WG tg (f x) sl fun sl1 => WS (b sl1 ce) (I post) R N (I post) X)
    (hd : ∀ sl ce, I [] sl ce → N sl ce) : WS (forL tg b (xs.map f) sl ce) N R B C X := by
  induction xs generalizing sl ce with
  | nil => exact forL_nil (hd _ _ h0)
  | cons x xs ih =>
    rw [List.map_cons]
    refine forL_cons ((hs x xs sl ce h0).imp fun sl1 h => ?_)
    exact WS.mono h (fun _ _ h => ih h) (fun _ _ h => h) (fun _ _ h => h) (fun _ _ h => ih h) fun _ _ _ h => h
theorem ws_while {fuel m : Nat} (I : Nat → SEnv → Cells → Prop) (hf : m < fuel) (h0 : I m sl ce)
    (hs : ∀ m sl ce, I m sl ce → WE (gt sl ce) (fun c ce1 => WIf c (WS (b sl ce1) (fun sl' ce' => ∃ m', m' < m ∧ I m' sl' ce') R N (fun sl' ce' => ∃ m', m' < m ∧ I m' sl' ce') X) (N sl ce1)) fun x ce1 => X x sl ce1) : WS (sWhile fuel gt b sl ce) N R B C X := by
  unfold sWhile
  induction fuel generalizing m sl ce with
  | zero => omega
  | succ fuel ih =>
    unfold wloop
    refine ws_st ((hs m sl ce h0).mono (fun c ce1 h => ?_) fun _ _ h => h)
    cases c with
    | false => exact ws_nx (wif_fal h)
    | true =>
      rw [if_pos rfl]
      cases wif_tru h with
      | nx sl1 ce1 e z => rw [e]; obtain ⟨m', h1, h2⟩ := z; exact ih (by omega) h2
      | rt d ce1 e z => rw [e]; exact ws_rt z
      | bk sl1 ce1 e z => rw [e]; exact ws_nx z
      | ct sl1 ce1 e z => rw [e]; obtain ⟨m', h1, h2⟩ := z; exact ih (by omega) h2
      | ex x sl1 ce1 e z => rw [e]; exact ws_exx z
/-! defs -/
theorem run_ws {n N : Nat} {g : SDen} {ds : List D} {ce : Cells} {Q : D → Cells → Prop} {E : Str → Cells → Prop} (hn : ds.length = n)
    (h : WS (g (ds.map some ++ List.replicate (N - ds.length) none) ce) (fun _ ce1 => WFin ce.length .non ce1 Q) (fun d ce1 => WFin ce.length d ce1 Q) (fun _ _ => False) (fun _ _ => False) fun x _ ce1 => E x (ce1.take ce.length)) : WE (runF n N g ds ce) Q E := by
  unfold runF
  rw [if_pos hn]
  cases h with
  | nx sl1 ce1 e z => rw [e]; exact WE.mono z (fun _ _ h => h) fun _ _ h => False.elim h
  | rt d ce1 e z => rw [e]; exact WE.mono z (fun _ _ h => h) fun _ _ h => False.elim h
  | bk sl1 ce1 e z => exact z.elim
  | ct sl1 ce1 e z => exact z.elim
  | ex x sl1 ce1 e z => rw [e]; exact we_ex z
variable {Q : D → Cells → Prop}
theorem wfin_ok (h : isCel d = false) (q : Q d (ce.take n)) : WFin n d ce Q := by
  unfold WFin
  cases d with
  | cel k => cases h
  | _ => exact we_ok q
theorem wfin_id (h : isCel d = false) (q : Q d ce) : WFin ce.length d ce Q := wfin_ok h (by rw [List.take_length]; exact q)
theorem wfin_app {l : Cells} (h : isCel d = false) (q : Q d ce) : WFin ce.length d (ce ++ l) Q := wfin_ok h (by rw [List.take_left]; exact q)
theorem wfin_set {k : Nat} {m : MO} (h : isCel d = false) (q : Q d (ce.set k m)) : WFin ce.length d (ce.set k m) Q := wfin_ok h (by rw [List.take_of_length_le (by simp)]; exact q)
theorem wfin_sapp {k : Nat} {m : MO} {l : Cells} (h : isCel d = false) (q : Q d (ce.set k m)) : WFin ce.length d (ce.set k m ++ l) Q := wfin_ok h (by
  have : ce.length = (ce.set k m).length := by simp
  rw [this, List.take_left]; exact q)
end
/-! comprehensions -/
section
variable {α : Type} {sl : SEnv} {ce : Cells} {E : Str → Cells → Prop} {gi : SEnv → Cells → Out Src} {us : List Nat} {gt : GDen} {tt : SEnv → Cells → Out Bool} {ge : EDen} {Q : D → Cells → Prop} {fin : Nat → List D → Cells → Out D}
/-- a walk that is known: its items -/
def Items (gi : SEnv → Cells → Out Src) (sl : SEnv) (ce : Cells) (xs : List D) : Prop := ∃ src, gi sl ce = .ok src ce ∧ src.n = xs.length ∧ ∀ acc, src.items (ce ++ [.lst acc]) = some xs
theorem items_C {xs : List D} (h : WE (gi sl ce) (fun src ce1 => src = srcC xs ∧ ce1 = ce) fun _ _ => False) : Items gi sl ce xs := by
  obtain ⟨a, c, e, rfl, rfl⟩ := h.out
  exact ⟨_, e, rfl, fun _ => rfl⟩
theorem we_comp {ys : List α} {h : α → D} (b : α → Bool) (f : α → D) (hi : Items gi sl ce (ys.map h)) (hl : ys.length ≤ 1000000)
    (hs : ∀ y ∈ ys, WG gt (h y) (wipeD sl us) fun sl1 => ∀ acc, WE (tt sl1 (ce ++ [.lst acc])) (fun c ce1 => c = b y ∧ ce1 = ce ++ [.lst acc]) (fun _ _ => False) ∧ (b y = true → WE (ge sl1 (ce ++ [.lst acc])) (fun d ce1 => d = f y ∧ ce1 = ce ++ [.lst acc]) fun _ _ => False))
    (hf : ∀ y ∈ ys, b y = true → isCel (f y) = false) (q : WE (fin ce.length ((ys.filter b).map f) (ce ++ [.lst ((ys.filter b).map f)])) Q E) : WE (eCompG fin gi us gt tt ge sl ce) Q E := by
  obtain ⟨src, e1, e2, e3⟩ := hi
  have hx : ∀ y : α, ∃ sl1, y ∈ ys → gt (h y) (wipeD sl us) = some sl1 := fun y => by
    by_cases hy : y ∈ ys
    · have := hs y hy
      unfold WG at this
      cases q : gt (h y) (wipeD sl us) with
      | none => rw [q] at this; exact this.elim
      | some sl1 => exact ⟨sl1, fun _ => rfl⟩
    · exact ⟨[], fun z => absurd z hy⟩
  have hx' := fun y => (hx y).choose_spec
  have key := fun y hy => by
    have := hs y hy
    unfold WG at this
    rw [hx' y hy] at this
    exact this
  rw [comp_pure (src := src) ys h b f (fun y => (hx y).choose) e1 e3 (by rw [e2, List.length_map]) hl hx' (fun y hy acc => (key y hy acc).1.eq) (fun y hy hb acc => ((key y hy acc).2 hb).eq) hf]
  exact q
theorem we_compT {ys : List α} {h : α → D} (b : α → Bool) (f : α → D) (hi : Items gi sl ce (ys.map h)) (hl : ys.length ≤ 1000000)
    (hs : ∀ y ∈ ys, WG gt (h y) (wipeD sl us) fun sl1 => ∀ acc, WE (tt sl1 (ce ++ [.lst acc])) (fun c ce1 => c = b y ∧ ce1 = ce ++ [.lst acc]) (fun _ _ => False) ∧ (b y = true → WE (ge sl1 (ce ++ [.lst acc])) (fun d ce1 => d = f y ∧ ce1 = ce ++ [.lst acc]) fun _ _ => False))
    (hf : ∀ y ∈ ys, b y = true → isCel (f y) = false) (q : Q (.lst ((ys.filter b).map f)) ce) : WE (eComp gi us gt tt ge sl ce) Q E :=
  we_comp b f hi hl hs hf (we_ok (by
    rw [List.take_left]; exact q))
/-- without a test -/
theorem we_map {ys : List α} {h : α → D} (f : α → D) (hi : Items gi sl ce (ys.map h)) (hl : ys.length ≤ 1000000)
    (hs : ∀ y ∈ ys, WG gt (h y) (wipeD sl us) fun sl1 => ∀ acc, WE (ge sl1 (ce ++ [.lst acc])) (fun d ce1 => d = f y ∧ ce1 = ce ++ [.lst acc]) fun _ _ => False)
    (hf : ∀ y, isCel (f y) = false) (q : Q (.lst (ys.map f)) ce) : WE (eComp gi us gt ttYes ge sl ce) Q E := by
  refine we_compT (fun _ => true) f hi hl (fun y hy => ?_) (fun y _ _ => hf y) ?_
  · have := hs y hy
    unfold WG at this ⊢
    cases q : gt (h y) (wipeD sl us) with
    | none => rw [q] at this; exact this.elim
    | some sl1 => rw [q] at this; exact fun acc => ⟨we_ok ⟨rfl, rfl⟩, fun _ => this acc⟩
  · rw [List.filter_eq_self.mpr (fun _ _ => rfl)]; exact q
/-- .. the items by way of β -/
theorem we_map2 {β : Type} {ys : List α} {h : α → D} (g : α → β) (f : β → D) (hi : Items gi sl ce (ys.map h)) (hl : ys.length ≤ 1000000)
    (hs : ∀ y ∈ ys, WG gt (h y) (wipeD sl us) fun sl1 => ∀ acc, WE (ge sl1 (ce ++ [.lst acc])) (fun d ce1 => d = f (g y) ∧ ce1 = ce ++ [.lst acc]) fun _ _ => False)
    (hf : ∀ y, isCel (f y) = false) (q : Q (.lst ((ys.map g).map f)) ce) : WE (eComp gi us gt ttYes ge sl ce) Q E := by
  refine we_map (fun y => f (g y)) hi hl hs (fun y => hf _) ?_
  rw [List.map_map] at q
  exact q
theorem we_compT2 {β : Type} {ys : List α} {h : α → D} (b : α → Bool) (g : α → β) (f : β → D) (hi : Items gi sl ce (ys.map h)) (hl : ys.length ≤ 1000000)
    (hs : ∀ y ∈ ys, WG gt (h y) (wipeD sl us) fun sl1 => ∀ acc, WE (tt sl1 (ce ++ [.lst acc])) (fun c ce1 => c = b y ∧ ce1 = ce ++ [.lst acc]) (fun _ _ => False) ∧ (b y = true → WE (ge sl1 (ce ++ [.lst acc])) (fun d ce1 => d = f (g y) ∧ ce1 = ce ++ [.lst acc]) fun _ _ => False))
    (hf : ∀ y, isCel (f y) = false) (q : Q (.lst (((ys.filter b).map g).map f)) ce) : WE (eComp gi us gt tt ge sl ce) Q E := by
  refine we_compT b (fun y => f (g y)) hi hl hs (fun y _ _ => hf _) ?_
  rw [List.map_map] at q
  exact q
theorem we_compC {ys : List α} {h : α → D} (b : α → Bool) (f : α → D) (hi : Items gi sl ce (ys.map h)) (hl : ys.length ≤ 1000000)
    (hs : ∀ y ∈ ys, WG gt (h y) (wipeD sl us) fun sl1 => ∀ acc, WE (tt sl1 (ce ++ [.lst acc])) (fun c ce1 => c = b y ∧ ce1 = ce ++ [.lst acc]) (fun _ _ => False) ∧ (b y = true → WE (ge sl1 (ce ++ [.lst acc])) (fun d ce1 => d = f y ∧ ce1 = ce ++ [.lst acc]) fun _ _ => False))
    (hf : ∀ y ∈ ys, b y = true → isCel (f y) = false) (q : Q (.cel ce.length) (ce ++ [.lst ((ys.filter b).map f)])) : WE (eCompC gi us gt tt ge sl ce) Q E :=
  we_comp b f hi hl hs hf (we_ok (by
    rw [List.take_left]; exact q))
def WWipe (sl : SEnv) (us : List Nat) (P : SEnv → Prop) : Prop := P (wipeD sl us)
end
theorem id_WE {α : Type} {r : Out α} {Q : α → Cells → Prop} {E : Str → Cells → Prop} (h : WE r Q E) : WE r Q E := h
theorem id_WS {r : SOut} {N : SEnv → Cells → Prop} {R : D → Cells → Prop} {B C : SEnv → Cells → Prop} {X : Str → SEnv → Cells → Prop} (h : WS r N R B C X) : WS r N R B C X := h
theorem id_WSet {sl : SEnv} {i : Nat} {d : D} {P : SEnv → Prop} (h : WSet sl i d P) : WSet sl i d P := h
theorem id_WO {r : Option D} {Q : D → Prop} (h : WO r Q) : WO r Q := h
/-! operators -/
section
variable {ce ce' : Cells} {i j : Int} {a b : Nat} {x y : List Nat} {xs ys : List D} {Q : D → Prop} {d v : D}
theorem cut_cells {ns : List Int} (k : Nat) : cutL ([D.int 0] ++ ns.map D.int) none (some (k : Int)) = ((0 :: ns).take k).map D.int := by
  rw [cutL_to, List.map_take]; rfl
theorem wsrc_cells {ns : List Int} {P : Src → Prop} (h0 : 0 ≤ i) (h : P (srcC (((0 :: ns).take i.toNat).map D.int))) : WSrc (srcOf (.lst (cutL ([D.int 0] ++ ns.map D.int) none (some i))) ce) P := by
  obtain ⟨k, rfl⟩ := Int.eq_ofNat_of_zero_le h0
  rw [cut_cells k]
  exact ⟨_, rfl, h⟩
theorem wo_of {r : Option D} (h : r = some d) (q : Q d) : WO r Q := ⟨d, h, q⟩
theorem wo_add_int (q : Q (.int (i + j))) : WO (dAdd (look ce (.int i)) (look ce' (.int j))) Q := ⟨_, rfl, q⟩
theorem wo_add_nat (q : Q (natD (a + b))) : WO (dAdd (look ce (.int (a : Int))) (look ce' (.int (b : Int)))) Q := by
  have : ((a : Int) + (b : Int)) = ((a + b : Nat) : Int) := by omega
  exact ⟨.int ((a : Int) + (b : Int)), rfl, by rw [this]; exact q⟩
theorem wo_add_str (h : x.length + y.length ≤ 1000000) (q : Q (.str (x ++ y))) : WO (dAdd (look ce (.str x)) (look ce' (.str y))) Q := wo_of (by rw [look_str, look_str]; exact o_add_str h) q
theorem wo_add_lst (h : xs.length + ys.length ≤ 1000000) (q : Q (.lst (xs ++ ys))) : WO (dAdd (look ce (.lst xs)) (look ce' (.lst ys))) Q := wo_of (by rw [look_lst, look_lst]; exact o_add_lst h) q
theorem wo_iadd_int (q : Q (.int (i + j))) : WO (dIadd (look ce (.int i)) (look ce' (.int j))) Q := ⟨_, rfl, q⟩
theorem wo_iadd_nat (q : Q (natD (a + b))) : WO (dIadd (look ce (.int (a : Int))) (look ce' (.int (b : Int)))) Q := by
  have : ((a : Int) + (b : Int)) = ((a + b : Nat) : Int) := by omega
  exact ⟨.int ((a : Int) + (b : Int)), rfl, by rw [this]; exact q⟩
theorem wo_sub (q : Q (.int (i - j))) : WO (dSub (look ce (.int i)) (look ce' (.int j))) Q := ⟨_, rfl, q⟩
theorem wo_neg (q : Q (.int (-i))) : WO (dNeg (look ce (.int i))) Q := ⟨_, rfl, q⟩
theorem wo_mulL (h : -(2 ^ 64) < i ∧ i < 2 ^ 64) (q : Q (.int (i * j))) : WO (dMul (look ce (.int i)) (look ce' (.int j))) Q := wo_of (by
  show dMul (.int i) (.int j) = _
  exact if_pos (by unfold mulOk; simp; omega)) q
theorem wo_mulR (h : -(2 ^ 64) < j ∧ j < 2 ^ 64) (q : Q (.int (i * j))) : WO (dMul (look ce (.int i)) (look ce' (.int j))) Q := wo_of (by
  show dMul (.int i) (.int j) = _
  exact if_pos (by unfold mulOk; simp; omega)) q
theorem wo_mod (h : 0 < j) (q : Q (.int (i % j))) : WO (dMod (look ce (.int i)) (look ce' (.int j))) Q := wo_of (o_mod h) q
theorem wo_lt (q : Q (.bl (decide (i < j)))) : WO (dLt (look ce (.int i)) (look ce' (.int j))) Q := ⟨_, rfl, q⟩
theorem wo_le (q : Q (.bl (decide (i ≤ j)))) : WO (dLe (look ce (.int i)) (look ce' (.int j))) Q := ⟨_, rfl, q⟩
theorem wo_gt (q : Q (.bl (decide (j < i)))) : WO (dGt (look ce (.int i)) (look ce' (.int j))) Q := ⟨_, rfl, q⟩
theorem wo_ge (q : Q (.bl (decide (j ≤ i)))) : WO (dGe (look ce (.int i)) (look ce' (.int j))) Q := ⟨_, rfl, q⟩
theorem wo_eq_int (q : Q (.bl (decide (i = j)))) : WO (dEq (look ce (.int i)) (look ce' (.int j))) Q := wo_of dEq_int q
theorem wo_eq_nat (q : Q (.bl (decide (a = b)))) : WO (dEq (look ce (.int (a : Int))) (look ce' (.int (b : Int)))) Q := wo_of dEq_int (by
  have : decide ((a : Int) = (b : Int)) = decide (a = b) := by rw [decide_eq_decide]; omega
  rw [this]; exact q)
theorem wo_ne_int (q : Q (.bl (!decide (i = j)))) : WO (dNe (look ce (.int i)) (look ce' (.int j))) Q := wo_of (by rw [look_int, look_int, dNe_of, dEq_int]; rfl) q
theorem wo_ne_nat (q : Q (.bl (!decide (a = b)))) : WO (dNe (look ce (.int (a : Int))) (look ce' (.int (b : Int)))) Q := wo_ne_int (by
  have : decide ((a : Int) = (b : Int)) = decide (a = b) := by rw [decide_eq_decide]; omega
  rw [this]; exact q)
theorem wo_eq_sg (q : Q (.bl (decide (a = b)))) : WO (dEq (look ce (.str [a])) (look ce' (.str [b]))) Q := wo_of dEq_str (by simpa using q)
theorem wo_ne_sg (q : Q (.bl (!decide (a = b)))) : WO (dNe (look ce (.str [a])) (look ce' (.str [b]))) Q := wo_of (by rw [look_str, look_str, dNe_of, dEq_str]; rfl) (by simpa using q)
theorem wo_eq_str (q : Q (.bl (decide (x = y)))) : WO (dEq (look ce (.str x)) (look ce' (.str y))) Q := wo_of dEq_str q
theorem wo_ne_str (q : Q (.bl (!decide (x = y)))) : WO (dNe (look ce (.str x)) (look ce' (.str y))) Q := wo_of (by rw [look_str, look_str, dNe_of, dEq_str]; rfl) q
theorem wo_eq_bl {p r : Bool} (q : Q (.bl (p == r))) : WO (dEq (look ce (.bl p)) (look ce' (.bl r))) Q := wo_of dEq_bl q
theorem wo_ne_bl {p r : Bool} (q : Q (.bl (!(p == r)))) : WO (dNe (look ce (.bl p)) (look ce' (.bl r))) Q := wo_of (by rw [look_bl, look_bl, dNe_of, dEq_bl]; rfl) q
theorem natD_map {ns : List Nat} : ns.map natD = (ns.map (fun k : Nat => (k : Int))).map D.int := by simp
theorem castL_inj {a b : List Nat} : (a.map fun k : Nat => (k : Int)) = b.map (fun k : Nat => (k : Int)) ↔ a = b := by
  constructor
  · intro h
    apply List.ext_getElem?
    intro i
    have := congrArg (fun l : List Int => l[i]?) h
    simp only [List.getElem?_map] at this
    cases ha : a[i]? <;> cases hb : b[i]? <;> simp [ha, hb] at this ⊢
    omega
  · intro h; rw [h]
theorem o_eq_nats {a b : List Nat} : dEq (.lst (a.map natD)) (.lst (b.map natD)) = some (.bl (decide (a = b))) := by
  rw [natD_map, natD_map, dEq_ints]
  congr 2
  rw [decide_eq_decide]; exact castL_inj
theorem o_eq_nil {a : List Nat} : dEq (.lst (a.map natD)) (.lst []) = some (.bl (decide (a = []))) := o_eq_nats (b := [])
theorem o_eq_tnats {a b : List Nat} : dEq (.tup (a.map natD)) (.tup (b.map natD)) = some (.bl (decide (a = b))) := by
  rw [natD_map, natD_map, dEq_tints]
  congr 2
  rw [decide_eq_decide]; exact castL_inj
theorem wo_eq_nats {a b : List Nat} (q : Q (.bl (decide (a = b)))) : WO (dEq (look ce (.lst (a.map natD))) (look ce' (.lst (b.map natD)))) Q := wo_of o_eq_nats q
theorem wo_eq_nil {a : List Nat} (q : Q (.bl (decide (a = [])))) : WO (dEq (look ce (.lst (a.map natD))) (look ce' (.lst []))) Q := wo_of o_eq_nil q
theorem wo_ne_nats {a b : List Nat} (q : Q (.bl (!decide (a = b)))) : WO (dNe (look ce (.lst (a.map natD))) (look ce' (.lst (b.map natD)))) Q := wo_of (by rw [look_lst, look_lst, dNe_of, o_eq_nats]; rfl) q
theorem wo_ne_nil {a : List Nat} (q : Q (.bl (!decide (a = [])))) : WO (dNe (look ce (.lst (a.map natD))) (look ce' (.lst []))) Q := wo_of (by rw [look_lst, look_lst, dNe_of, o_eq_nil]; rfl) q
theorem wo_eq_strs {a b : List (List Nat)} (q : Q (.bl (decide (a = b)))) : WO (dEq (look ce (.lst (a.map D.str))) (look ce' (.lst (b.map D.str)))) Q := wo_of dEq_strs q
theorem wo_ne_strs {a b : List (List Nat)} (q : Q (.bl (!decide (a = b)))) : WO (dNe (look ce (.lst (a.map D.str))) (look ce' (.lst (b.map D.str)))) Q := wo_of (by rw [look_lst, look_lst, dNe_of, dEq_strs]; rfl) q
theorem wo_in_sg (q : Q (.bl (decide (a ∈ x)))) : WO (dIn (look ce (.str [a])) (look ce' (.str x))) Q := ⟨_, rfl, q⟩
theorem wo_notin_sg (q : Q (.bl (!decide (a ∈ x)))) : WO (dNotIn (look ce (.str [a])) (look ce' (.str x))) Q := ⟨_, rfl, q⟩
theorem wo_in_strs {zs : List (List Nat)} (q : Q (.bl (decide (x ∈ zs)))) : WO (dIn (look ce (.str x)) (look ce' (.lst (zs.map D.str)))) Q := wo_of dIn_strs q
theorem wo_notin_strs {zs : List (List Nat)} (q : Q (.bl (!decide (x ∈ zs)))) : WO (dNotIn (look ce (.str x)) (look ce' (.lst (zs.map D.str)))) Q := wo_of (by rw [look_str, look_lst, o_notin, dIn_strs]; rfl) q
theorem o_in_nats {k : Nat} {ns : List Nat} : dIn (natD k) (.lst (ns.map natD)) = some (.bl (decide (k ∈ ns))) := by
  rw [natD_map]
  show dIn (.int (k : Int)) _ = _
  rw [dIn_ints]
  congr 2
  rw [decide_eq_decide, List.mem_map]
  exact ⟨fun ⟨a, h1, h2⟩ => by have : a = k := by omega
                               exact this ▸ h1, fun h => ⟨k, h, rfl⟩⟩
theorem wo_in_nats {ns : List Nat} (q : Q (.bl (decide (a ∈ ns)))) : WO (dIn (look ce (.int (a : Int))) (look ce' (.lst (ns.map natD)))) Q := wo_of o_in_nats q
theorem wo_notin_nats {ns : List Nat} (q : Q (.bl (!decide (a ∈ ns)))) : WO (dNotIn (look ce (.int (a : Int))) (look ce' (.lst (ns.map natD)))) Q := wo_of (by rw [look_int, look_lst, o_notin, o_in_nats]; rfl) q
theorem wo_ix_strN {k c : Nat} (h : x[k]? = some c) (q : Q (sgD c)) : WO (dIx (look ce (.str x)) (look ce' (.int (k : Int)))) Q := wo_of (by rw [look_str, look_int, o_ix_str, atI_nat, h]; rfl) q
theorem wo_ix_str {c : Nat} (h : atI x i = some c) (q : Q (sgD c)) : WO (dIx (look ce (.str x)) (look ce' (.int i))) Q := wo_of (by rw [look_str, look_int, o_ix_str, h]; rfl) q
theorem wo_ix_lstN {k : Nat} (h : xs[k]? = some v) (q : Q v) : WO (dIx (look ce (.lst xs)) (look ce' (.int (k : Int)))) Q := wo_of (by rw [look_lst, look_int, o_ix_lst, atI_nat, h]) q
theorem wo_ix_lst (h : atI xs i = some v) (q : Q v) : WO (dIx (look ce (.lst xs)) (look ce' (.int i))) Q := wo_of h q
theorem wo_ix_tupN {k : Nat} (h : xs[k]? = some v) (q : Q v) : WO (dIx (look ce (.tup xs)) (look ce' (.int (k : Int)))) Q := wo_of (by rw [look_tup, look_int, o_ix_tup, atI_nat, h]) q
theorem wo_ix_tup (h : atI xs i = some v) (q : Q v) : WO (dIx (look ce (.tup xs)) (look ce' (.int i))) Q := wo_of h q
theorem wo_sl_strT {k : Nat} (q : Q (.str (x.take k))) : WO (dSl (look ce (.str x)) none (some (k : Int))) Q := by
  rw [← cutL_to] at q; exact ⟨_, rfl, q⟩
theorem wo_sl_strD {k : Nat} (q : Q (.str (x.drop k))) : WO (dSl (look ce (.str x)) (some (k : Int)) none) Q := by
  rw [← cutL_from] at q; exact ⟨_, rfl, q⟩
theorem wo_sl_strD1 {k : Nat} (q : Q (.str (x.drop (k + 1)))) : WO (dSl (look ce (.str x)) (some ((k : Int) + 1)) none) Q := by
  rw [← cutL_from (k := k + 1)] at q; exact ⟨_, rfl, q⟩
theorem wo_sl_str {lo hi : Option Int} (q : Q (.str (cutL x lo hi))) : WO (dSl (look ce (.str x)) lo hi) Q := ⟨_, rfl, q⟩
theorem wo_sl_lstT {k : Nat} (q : Q (.lst (xs.take k))) : WO (dSl (look ce (.lst xs)) none (some (k : Int))) Q := by
  rw [← cutL_to] at q; exact ⟨_, rfl, q⟩
theorem wo_sl_lstD {k : Nat} (q : Q (.lst (xs.drop k))) : WO (dSl (look ce (.lst xs)) (some (k : Int)) none) Q := by
  rw [← cutL_from] at q; exact ⟨_, rfl, q⟩
theorem wo_sl_lst {lo hi : Option Int} (q : Q (.lst (cutL xs lo hi))) : WO (dSl (look ce (.lst xs)) lo hi) Q := ⟨_, rfl, q⟩
theorem wo_sl_tup {lo hi : Option Int} (q : Q (.tup (cutL xs lo hi))) : WO (dSl (look ce (.tup xs)) lo hi) Q := ⟨_, rfl, q⟩
theorem wo_len_str (q : Q (natD x.length)) : WO (dLen (List.map (look ce) [.str x])) Q := ⟨_, rfl, q⟩
theorem wo_len_lst (q : Q (natD xs.length)) : WO (dLen (List.map (look ce) [.lst xs])) Q := ⟨_, rfl, q⟩
theorem wo_len_tup (q : Q (natD xs.length)) : WO (dLen (List.map (look ce) [.tup xs])) Q := ⟨_, rfl, q⟩
theorem wo_len_map {β : Type} {f : β → D} {zs : List β} (q : Q (natD zs.length)) : WO (dLen (List.map (look ce) [.lst (zs.map f)])) Q := by
  have : natD (zs.map f).length = natD zs.length := by simp
  rw [← this] at q; exact ⟨_, rfl, q⟩
theorem wo_int_bl {b : Bool} (q : Q (natD (if b = true then 1 else 0))) : WO (dInt (List.map (look ce) [.bl b])) Q := by
  cases b <;> exact ⟨_, rfl, q⟩
theorem wo_int_int (q : Q (.int i)) : WO (dInt (List.map (look ce) [.int i])) Q := ⟨_, rfl, q⟩
theorem wo_up1 (q : Q (sgD (up1 a))) : WO (dUpper (look ce (.str [a])) []) Q := ⟨_, rfl, q⟩
theorem wo_lo1 (q : Q (sgD (lo1 a))) : WO (dLower (look ce (.str [a])) []) Q := ⟨_, rfl, q⟩
theorem wo_up (q : Q (.str (x.map up1))) : WO (dUpper (look ce (.str x)) []) Q := ⟨_, rfl, q⟩
theorem wo_lo (q : Q (.str (x.map lo1))) : WO (dLower (look ce (.str x)) []) Q := ⟨_, rfl, q⟩
theorem lo_up' {c : Nat} : (isLo c && !isUp c) = isLo c := by
  unfold isLo isUp
  rw [Bool.eq_iff_iff]
  simp
  omega
theorem up_lo' {c : Nat} : (isUp c && !isLo c) = isUp c := by
  unfold isLo isUp
  rw [Bool.eq_iff_iff]
  simp
  omega
theorem wo_islo (q : Q (.bl (isLo a))) : WO (dIsLower (look ce (.str [a])) []) Q := by
  have : ([a].any isLo && ![a].any isUp) = isLo a := by simpa using lo_up'
  rw [← this] at q; exact ⟨_, rfl, q⟩
theorem wo_isup (q : Q (.bl (isUp a))) : WO (dIsUpper (look ce (.str [a])) []) Q := by
  have : ([a].any isUp && ![a].any isLo) = isUp a := by simpa using up_lo'
  rw [← this] at q; exact ⟨_, rfl, q⟩
theorem o_min1 {ns : List Nat} {m : Nat} (h1 : m ∈ ns) (h2 : ∀ n ∈ ns, m ≤ n) : dMin1 [.lst (ns.map natD)] = some (natD m) := by
  cases ns with
  | nil => cases h1
  | cons n r =>
    have e : asInts ((n :: r).map natD) = some ((n : Int) :: r.map fun k : Nat => (k : Int)) := by rw [natD_map, asInts_map]; rfl
    show (match asInts ((n :: r).map natD) with
      | some (n :: r) => some (D.int (listMin (n :: r)))
      | _ => none) = _
    rw [e]
    obtain ⟨a, b, c⟩ := foldl_min (r.map fun k : Nat => (k : Int)) (n : Int)
    show some (D.int (List.foldl min (n : Int) (r.map fun k : Nat => (k : Int)))) = some (natD m)
    congr 2
    generalize List.foldl min (n : Int) (r.map fun k : Nat => (k : Int)) = z at a b c
    have hm : (m : Int) ∈ ((n : Int) :: r.map fun k : Nat => (k : Int)) := by
      rcases List.mem_cons.mp h1 with rfl | h
      · simp
      · exact List.mem_cons_of_mem _ (List.mem_map.mpr ⟨m, h, rfl⟩)
    have u1 : z ≤ m := by
      rcases List.mem_cons.mp hm with e | e
      · rw [e]; exact b
      · exact c _ e
    have u2 : (m : Int) ≤ z := by
      rcases List.mem_cons.mp a with e | e
      · rw [e]; have := h2 n List.mem_cons_self; omega
      · obtain ⟨y, hy, rfl⟩ := List.mem_map.mp e
        have := h2 y (List.mem_cons_of_mem _ hy); omega
    omega
theorem wo_min1 {ns : List Nat} {m : Nat} (h1 : m ∈ ns) (h2 : ∀ n ∈ ns, m ≤ n) (q : Q (natD m)) : WO (dMin1 (List.map (look ce) [.lst (ns.map natD)])) Q := wo_of (o_min1 h1 h2) q
theorem wo_all {bs : List Bool} (q : Q (.bl (bs.all id))) : WO (dAll (List.map (look ce) [.lst (bs.map D.bl)])) Q := wo_of (by
  show dAll [.lst (bs.map D.bl)] = _
  show (asBls (bs.map D.bl)).map _ = _
  rw [asBls_map]; rfl) q
theorem wo_sum {ns : List Int} (q : Q (.int ns.sum)) : WO (dSum (List.map (look ce) [.lst (ns.map D.int)])) Q := wo_of (by
  show dSum [.lst (ns.map D.int)] = _
  show (asInts (ns.map D.int)).map _ = _
  rw [asInts_map]; rfl) q
theorem wo_max2 (q : Q (.int (if j > i then j else i))) : WO (dMax2 (List.map (look ce) [.int i, .int j])) Q := ⟨_, rfl, q⟩
theorem wo_min2 (q : Q (.int (if j < i then j else i))) : WO (dMin2 (List.map (look ce) [.int i, .int j])) Q := ⟨_, rfl, q⟩
theorem wo_isnon_non (q : Q (.bl true)) : WO (dIs (look ce .non) (look ce' .non)) Q := ⟨_, rfl, q⟩
theorem wo_isnon_int (q : Q (.bl false)) : WO (dIs (look ce (.int i)) (look ce' .non)) Q := ⟨_, rfl, q⟩
theorem wo_isnot_non (q : Q (.bl false)) : WO (dIsNot (look ce .non) (look ce' .non)) Q := ⟨_, rfl, q⟩
theorem wo_isnot_int (q : Q (.bl true)) : WO (dIsNot (look ce (.int i)) (look ce' .non)) Q := ⟨_, rfl, q⟩
theorem wo_is_bl {p r : Bool} (q : Q (.bl (decide (p = r)))) : WO (dIs (look ce (.bl p)) (look ce' (.bl r))) Q := ⟨_, rfl, q⟩
theorem wo_isnot_bl {p r : Bool} (q : Q (.bl (!decide (p = r)))) : WO (dIsNot (look ce (.bl p)) (look ce' (.bl r))) Q := ⟨_, rfl, q⟩
theorem dty_str : dTy "str" (look ce (.str x)) = true := r_dTyS
theorem dty_lst : dTy "list" (look ce (.lst xs)) = true := r_dTyL
/-- rewriting a looked-at cell -/
theorem look_is {k : Nat} {xs : List D} (h : ce[k]? = some (.lst xs)) : look ce (.cel k) = look ce (.lst xs) := by
  unfold look; simp only [h]
end
end Ib

set_option Elab.async false
set_option linter.all false
set_option maxRecDepth 100000
set_option maxHeartbeats 2000000
/-! The J layer, part Y: more rules over denotations: enumerate, dicts, comprehensions that change cells. -/
namespace Ib
open PySem PySem.Spec PyProof.Rows L2
section
variable {α : Type} {sl : SEnv} {ce : Cells} {tg : GDen} {b : SDen} {N : SEnv → Cells → Prop} {R : D → Cells → Prop} {B C : SEnv → Cells → Prop} {X : Str → SEnv → Cells → Prop}
/-- for i, x in enumerate(..): by what is behind -/
theorem ws_enum {f : α → D} {w : List α} (I : List α → SEnv → Cells → Prop) (h0 : I [] sl ce)
    (hs : ∀ pre x post sl ce, w = pre ++ x :: post → I pre sl ce → WG tg (.tup [natD pre.length, f x]) sl fun sl1 => WS (b sl1 ce) (I (pre ++ [x])) R N (I (pre ++ [x])) X)
    (hd : ∀ sl ce, I w sl ce → N sl ce) : WS (forL tg b (w.zipIdx.map fun q => .tup [natD q.2, f q.1]) sl ce) N R B C X := by
  have key : ∀ post pre sl ce, w = pre ++ post → I pre sl ce → WS (forL tg b ((post.zipIdx pre.length).map fun q => .tup [natD q.2, f q.1]) sl ce) N R B C X := by
    intro post
    induction post with
    | nil => intro pre sl ce e i; rw [List.append_nil] at e; exact forL_nil (hd _ _ (e ▸ i))
    | cons x post ih =>
      intro pre sl ce e i
      rw [List.zipIdx_cons, List.map_cons]
      refine forL_cons ?_
      refine WG.imp (hs pre x post sl ce e i) fun sl1 h => ?_
      have ih' := fun sl ce => ih (pre ++ [x]) sl ce (by rw [e]; simp)
      rw [List.length_append] at ih'
      exact WS.mono h (fun _ _ h => ih' _ _ h) (fun _ _ h => h) (fun _ _ h => h) (fun _ _ h => ih' _ _ h) fun _ _ _ h => h
  exact key w [] sl ce rfl h0
end
/-! dicts -/
section
variable {sl : SEnv} {ce ce' : Cells} {Q : D → Cells → Prop} {E : Str → Cells → Prop} {go gi gx gk gv : EDen} {i : Int} {c : Nat} {ks : List Key} {xs : List D} {d : D} {P : D → Prop}
theorem look_dk (h : ce[c]? = some (.dk ks xs)) : look ce (.cel c) = .dk ks xs := by
  unfold look; simp only [h]
theorem wo_dget (h : ce[c]? = some (.dk ks xs)) (hv : valD ks xs (.inl i) = some d) (q : P d) : WO (dDGet (look ce (.cel c)) (look ce' (.int i))) P :=
  wo_of (by rw [look_dk h]; exact hv) q
theorem we_dnew (q : Q (.cel ce.length) (ce ++ [.dk [] []])) : WE (eDNew sl ce) Q E := we_ok q
theorem we_disp1 (h : WE (gk sl (ce ++ [.dk [] []])) (fun k ce1 => WE (gv sl ce1) (fun v ce2 => ∃ key, keyD (look ce2 k) = some key ∧ isCel v = false ∧ ce2 = ce ++ [.dk [] []] ∧ Q (.cel ce.length) (ce ++ [.dk [key] [v]])) E) E) : WE (eDisp1 gk gv sl ce) Q E := by
  unfold eDisp1
  refine we_bind (h.mono (fun k ce1 h => we_bind (h.mono (fun v ce2 h => ?_) fun _ _ h => h)) fun _ _ h => h)
  obtain ⟨key, h1, h2, rfl, q⟩ := h
  rw [frz_tree h2]
  simp only [h1, app_get0, List.getElem?_cons_zero, app_set0]
  exact we_ok q
theorem we_dgetD (h : WE (go sl ce) (fun x ce1 => isDk (look ce1 x) = true ∧ WE (gi sl ce1) (fun i ce2 => WE (gx sl ce2) (fun z ce3 => ∃ o, dDGetO (look ce3 x) (look ce3 i) = some o ∧ Q (o.getD z) ce3) E) E) E) : WE (eDGetD go gi gx sl ce) Q E := by
  unfold eDGetD
  refine we_bind (h.mono (fun x ce1 h => ?_) fun _ _ h => h)
  rw [if_pos h.1]
  refine we_bind (h.2.mono (fun i ce2 h => we_bind (h.mono (fun z ce3 h => ?_) fun _ _ h => h)) fun _ _ h => h)
  obtain ⟨o, h1, q⟩ := h
  rw [h1]
  cases o <;> exact we_ok q
variable {N : SEnv → Cells → Prop} {R : D → Cells → Prop} {B C : SEnv → Cells → Prop} {X : Str → SEnv → Cells → Prop} {ge : EDen}
theorem ws_dput (h : WE (ge sl ce) (fun v ce1 => WE (go sl ce1) (fun x ce2 => WE (gi sl ce2) (fun i ce3 => ∃ k key ks xs, x = .cel k ∧ keyD (look ce3 i) = some key ∧ isCel v = false ∧ ce3[k]? = some (.dk ks xs) ∧ ks.length < 1000000 ∧ N sl (ce3.set k (.dk (putKs ks key) (putDs ks xs key v)))) (fun x ce1 => X x sl ce1)) fun x ce1 => X x sl ce1) fun x ce1 => X x sl ce1) : WS (sDPut go gi ge sl ce) N R B C X := by
  unfold sDPut
  refine ws_st (h.mono (fun v ce1 h => ws_st (h.mono (fun x ce2 h => ws_st (h.mono (fun i ce3 h => ?_) fun _ _ h => h)) fun _ _ h => h)) fun _ _ h => h)
  obtain ⟨k, key, ks, xs, rfl, h1, h2, h3, h4, q⟩ := h
  simp only [h1, frz_tree h2, h3, h4, if_true]
  exact ws_nx q
theorem ws_dinc (h : WE (go sl ce) (fun x ce1 => WE (gi sl ce1) (fun i ce2 => ∃ a, dDGet (look ce2 x) (look ce2 i) = some (.int a) ∧ WE (ge sl ce2) (fun y ce3 => ∃ k key ks xs b, x = .cel k ∧ keyD (look ce2 i) = some key ∧ y = .int b ∧ ce3[k]? = some (.dk ks xs) ∧ ks.length < 1000000 ∧ N sl (ce3.set k (.dk (putKs ks key) (putDs ks xs key (.int (a + b)))))) fun x ce1 => X x sl ce1) fun x ce1 => X x sl ce1) fun x ce1 => X x sl ce1) : WS (sDInc go gi ge sl ce) N R B C X := by
  unfold sDInc
  refine ws_st (h.mono (fun x ce1 h => ws_st (h.mono (fun i ce2 h => ?_) fun _ _ h => h)) fun _ _ h => h)
  obtain ⟨a, ha, h⟩ := h
  simp only [ha]
  refine ws_st (h.mono (fun y ce3 h => ?_) fun _ _ h => h)
  obtain ⟨k, key, ks, xs, b, rfl, h1, rfl, h3, h4, q⟩ := h
  simp only [h1, h3, h4, if_true]
  exact ws_nx q
end
/-! keys 0 .. n - 1 -/
def keysF (a n : Nat) : List Key := (List.range' a n).map fun k : Nat => (.inl (k : Int) : Key)
abbrev keysN (n : Nat) : List Key := keysF 0 n
theorem keysF_len {a n : Nat} : (keysF a n).length = n := by simp [keysF]
theorem keysF_succ {a n : Nat} : keysF a (n + 1) = .inl (a : Int) :: keysF (a + 1) n := by simp [keysF, List.range'_succ]
theorem inl_ne {a b : Nat} (h : a ≠ b) : (Sum.inl (a : Int) : Key) ≠ .inl (b : Int) := fun e => h (by have := Sum.inl.inj e; omega)
theorem valD_keys {f : Int → D} : ∀ (t : List Int) (a k : Nat), valD (keysF a t.length) (t.map f) (.inl ((a + k : Nat) : Int)) = (t[k]?).map f
  | [], a, k => by simp [keysF, valD]
  | x :: t, a, 0 => by
    rw [List.length_cons, keysF_succ, List.map_cons, valD, if_pos (by simp)]; rfl
  | x :: t, a, k + 1 => by
    rw [List.length_cons, keysF_succ, List.map_cons, valD, if_neg (inl_ne (by omega))]
    have := valD_keys (f := f) t (a + 1) k
    have e : a + 1 + k = a + (k + 1) := by omega
    rw [e] at this
    rw [this]; simp
theorem valD_keys0 {f : Int → D} {t : List Int} {k : Nat} : valD (keysN t.length) (t.map f) (.inl (k : Int)) = (t[k]?).map f := by
  have := valD_keys (f := f) t 0 k
  rwa [Nat.zero_add] at this
theorem hasK_keys : ∀ (n a k : Nat), hasK (keysF a n) (.inl ((a + k : Nat) : Int)) = decide (k < n)
  | 0, a, k => by simp [keysF, hasK]
  | n + 1, a, 0 => by rw [keysF_succ, hasK, List.any_cons]; simp
  | n + 1, a, k + 1 => by
    have := hasK_keys n (a + 1) k
    have e : a + 1 + k = a + (k + 1) := by omega
    rw [e] at this
    rw [keysF_succ, hasK, List.any_cons]
    have ne : ¬ (Sum.inl (a : Int) : Key) = .inl ((a + (k + 1) : Nat) : Int) := inl_ne (by omega)
    rw [decide_eq_false ne, Bool.false_or]
    show hasK _ _ = _
    rw [this, decide_eq_decide]
    omega
theorem hasK_keys0 {n k : Nat} : hasK (keysN n) (.inl (k : Int)) = decide (k < n) := by
  have := hasK_keys n 0 k
  rwa [Nat.zero_add] at this
theorem putXs_keys {d : D} : ∀ (xs : List D) (a k : Nat), putXs (keysF a xs.length) xs (.inl ((a + k : Nat) : Int)) d = xs.set k d
  | [], a, k => by simp [keysF, putXs]
  | x :: xs, a, 0 => by
    have key : ∀ (xs : List D) (a b : Nat), a < b → putXs (keysF b xs.length) xs (.inl (a : Int)) d = xs := by
      intro xs
      induction xs with
      | nil => intro a b _; simp [keysF, putXs]
      | cons x xs ih =>
        intro a b h
        rw [List.length_cons, keysF_succ, putXs, if_neg (inl_ne (by omega)), ih a (b + 1) (by omega)]
    rw [List.length_cons, keysF_succ, putXs, if_pos (by simp)]
    show d :: _ = d :: xs
    rw [key xs (a + 0) (a + 1) (by omega)]
  | x :: xs, a, k + 1 => by
    have := putXs_keys (d := d) xs (a + 1) k
    have e : a + 1 + k = a + (k + 1) := by omega
    rw [e] at this
    rw [List.length_cons, keysF_succ, putXs, if_neg (inl_ne (by omega)), this]; rfl
theorem put_old {xs : List D} {k : Nat} {d : D} (h : k < xs.length) : putKs (keysN xs.length) (.inl (k : Int)) = keysN xs.length ∧ putDs (keysN xs.length) xs (.inl (k : Int)) d = xs.set k d := by
  unfold putKs putDs
  rw [hasK_keys0, if_pos (by simpa using h), if_pos (by simpa using h)]
  have := putXs_keys (d := d) xs 0 k
  rw [Nat.zero_add] at this
  exact ⟨rfl, this⟩
theorem put_new {xs : List D} {d : D} : putKs (keysN xs.length) (.inl (xs.length : Int)) = keysN (xs.length + 1) ∧ putDs (keysN xs.length) xs (.inl (xs.length : Int)) d = xs ++ [d] := by
  unfold putKs putDs
  rw [hasK_keys0, if_neg (by simp), if_neg (by simp)]
  refine ⟨?_, rfl⟩
  unfold keysN keysF
  rw [List.range'_concat]
  simp
theorem keyInts_keys : ∀ (n a : Nat), keyInts (keysF a n) = some ((List.range' a n).map fun k : Nat => (k : Int))
  | 0, a => rfl
  | n + 1, a => by rw [keysF_succ, keyInts, keyInts_keys n (a + 1), List.range'_succ]; rfl
theorem wo_sortD {ce : Cells} {c n : Nat} {xs : List D} {P : D → Prop} (h : ce[c]? = some (.dk (keysN n) xs)) (hn : n < 64) (q : P (.lst ((List.range n).map natD))) : WO (dSortD (List.map (look ce) [.cel c])) P := wo_of (d := .lst ((List.range n).map natD)) (by
  show dSortD [look ce (.cel c)] = _
  rw [look_dk h, dSortD, keyInts_keys n 0]
  simp only [List.length_map, List.length_range', if_pos hn]
  rw [← List.range_eq_range']
  have e : (List.range n).map (fun k : Nat => (k : Int)) = sortI ((List.range n).map fun k : Nat => (k : Int)) := sortI_only (.refl _) (by
    rw [List.pairwise_map]
    exact List.pairwise_lt_range.imp fun h => by omega)
  rw [← e, List.map_map]
  rfl) q
/-! [a] * n -/
theorem we_repL {sl : SEnv} {ce : Cells} {Q : D → Cells → Prop} {E : Str → Cells → Prop} {ga : SEnv → Cells → Out (List D)} {gn : EDen} (h : WE (ga sl ce) (fun xs ce1 => WTree xs (WE (gn sl ce1) (fun d ce2 => WInt d fun k => (-1000 ≤ k ∧ k ≤ 1000) ∧ Q (.lst (List.replicate k.toNat xs).flatten) ce2) E)) E) : WE (eRepL ga gn sl ce) Q E := by
  unfold eRepL
  refine we_bind (h.mono (fun xs ce1 h => ?_) fun _ _ h => h)
  rw [if_pos (Nat.le_of_ble_eq_true h.1), frzs_tree h.2.1]
  refine we_bind (h.2.2.mono (fun d ce2 h => ?_) fun _ _ h => h)
  cases d with
  | int k =>
    have h : (-1000 ≤ k ∧ k ≤ 1000) ∧ _ := h
    simp only [if_pos h.1]
    exact we_ok h.2
  | _ => exact h.elim
theorem flat_one {α : Type} (x : α) : ∀ n : Nat, (List.replicate n [x]).flatten = List.replicate n x
  | 0 => rfl
  | n + 1 => by rw [List.replicate_succ, List.flatten_cons, flat_one x n]; rfl
theorem wo_mulS {ce ce' : Cells} {x : List Nat} {k : Int} {P : D → Prop} (h : x.length ≤ 1000 ∧ -1000 ≤ k ∧ k ≤ 1000) (q : P (.str (List.replicate k.toNat x).flatten)) : WO (dMulS (look ce (.str x)) (look ce' (.int k))) P := wo_of (d := .str (List.replicate k.toNat x).flatten) (by
  show dMulS (.str x) (.int k) = _
  exact if_pos h) q
/-- x.append(y) of a cell -/
theorem we_append {sl : SEnv} {ce : Cells} {Q : D → Cells → Prop} {E : Str → Cells → Prop} {go : EDen} {ga : SEnv → Cells → Out (List D)} (h : WE (go sl ce) (fun x ce1 => dTy "list" (look ce1 x) = true ∧ WE (ga sl ce1) (fun ys ce2 => ∃ k y acc, x = .cel k ∧ ys = [y] ∧ isCel y = false ∧ ce2[k]? = some (.lst acc) ∧ acc.length < 1000000 ∧ Q .non (ce2.set k (.lst (acc ++ [y])))) E) E) : WE (eAppend go ga sl ce) Q E := by
  unfold eAppend
  refine we_bind (h.mono (fun x ce1 h => ?_) fun _ _ h => h)
  rw [if_pos h.1]
  refine we_bind (h.2.mono (fun ys ce2 h => ?_) fun _ _ h => h)
  obtain ⟨k, y, acc, rfl, rfl, h1, h2, h3, q⟩ := h
  simp only [frz_tree h1, h2, if_pos h3]
  exact we_ok q
end Ib

set_option Elab.async false
set_option linter.all false
set_option maxRecDepth 100000
set_option maxHeartbeats 2000000
/-! The J layer, part Td: dicts whose keys are tuples of ints and texts. -/
namespace Ib
open PySem PySem.Spec PyProof.Rows L2
def keyTs : List D → Option (List Key)
  | [] => some []
  | d :: ds => match keyD d with
    | some k => (keyTs ds).map (k :: ·)
    | none => none
def keyTD : D → Option (List Key)
  | .tup ds => keyTs ds
  | _ => none
def keyE : Key → D
  | .inl i => .int i
  | .inr x => .str x.cps.toList
def keyT (k : List Key) : D := .tup (k.map keyE)
def okKs (ks : List (List Key)) : Prop := ∀ k ∈ ks, ∀ x ∈ k, okK x
theorem toStr_cps (x : Str) : toStr x.cps.toList = x := by
  cases x; rfl
theorem keyD_keyE (k : Key) : keyD (keyE k) = some k := by
  cases k with
  | inl i => rfl
  | inr x => show some (Sum.inr (toStr x.cps.toList)) = _; rw [toStr_cps]
theorem keyTs_keyE : ∀ ks : List Key, keyTs (ks.map keyE) = some ks
  | [] => rfl
  | k :: ks => by rw [List.map_cons, keyTs, keyD_keyE, keyTs_keyE ks]; rfl
theorem keyTD_keyT (k : List Key) : keyTD (keyT k) = some k := keyTs_keyE k
section
variable {c : Cfg} {O : List Addr} {H : Hp}
theorem keyTs_rep : ∀ {ds : List D} {ks : List Key} {vs : List V}, keyTs ds = some ks → RepTs c O H ds vs → vs = ks.map kV ∧ ∀ x ∈ ks, okK x
  | [], _, _, e, r => by cases e; exact ⟨repTs_nil.mp r, fun x h => by cases h⟩
  | d :: ds, ks, _, e, r => by
    obtain ⟨v, vs, rfl, r1, r2⟩ := repTs_cons.mp r
    unfold keyTs at e
    cases q : keyD d with
    | none => rw [q] at e; cases e
    | some k =>
      rw [q] at e
      cases q2 : keyTs ds with
      | none => rw [q2] at e; cases e
      | some ks' =>
        rw [q2] at e
        cases e
        obtain ⟨h1, h2⟩ := keyTs_rep q2 r2
        have hk : v = kV k ∧ okK k := by
          cases d with
          | int i => cases q; exact ⟨repT_int.mp r1, trivial⟩
          | str x => cases q; exact ⟨(repT_str.mp r1).1, (repT_str.mp r1).2⟩
          | _ => cases q
        rw [h1, hk.1]
        refine ⟨rfl, fun x hx => ?_⟩
        rcases List.mem_cons.mp hx with rfl | hx
        · exact hk.2
        · exact h2 x hx
theorem keyTD_rep {d : D} {k : List Key} {v : V} (e : keyTD d = some k) (r : RepT c O H d v) : ∃ p, v = .ref p ∧ p ∉ O ∧ H p = some (.tup (k.map kV)) ∧ ∀ x ∈ k, okK x := by
  cases d with
  | tup ds =>
    obtain ⟨p, vs, rfl, h1, h2⟩ := repT_tup.mp r
    obtain ⟨rfl, h3⟩ := keyTs_rep e h2
    exact ⟨p, rfl, h1.1, h1.2, h3⟩
  | _ => cases e
theorem rep_keyEs : ∀ {ks : List Key}, (∀ x ∈ ks, okK x) → RepTs c O H (ks.map keyE) (ks.map kV)
  | [], _ => repTs_nil.mpr rfl
  | k :: ks, h => by
    refine repTs_cons.mpr ⟨_, _, rfl, ?_, rep_keyEs fun x hx => h x (List.mem_cons_of_mem _ hx)⟩
    cases k with
    | inl i => exact repT_int.mpr rfl
    | inr x =>
      refine repT_str.mpr ⟨?_, h _ List.mem_cons_self⟩
      show V.str x = V.str (toStr x.cps.toList)
      rw [toStr_cps]
theorem rep_keyT {k : List Key} {p : Addr} (hp : p ∉ O) (h : H p = some (.tup (k.map kV))) (hk : ∀ x ∈ k, okK x) : RepT c O H (keyT k) (.ref p) :=
  repT_tup.mpr ⟨p, _, rfl, ⟨hp, h⟩, rep_keyEs hk⟩
theorem okKs_put {ks : List (List Key)} {k : List Key} (h : okKs ks) (hk : ∀ x ∈ k, okK x) : okKs (putKs ks k) := by
  unfold putKs
  split
  · exact h
  · intro k' hk'
    rcases List.mem_append.mp hk' with z | z
    · exact h k' z
    · rw [List.mem_singleton.mp z]; exact hk
theorem RepV.dt {ks : List (List Key)} {xs : List D} {v : V} (h : RepV c O H (.dt ks xs) v) : ∃ p vs, v = .ref p ∧ Rd H p (.dT (ks.zip vs)) ∧ ks.length = vs.length ∧ okKs ks ∧ RepTs c O H xs vs := h
theorem view_keyT {d : D} {k : List Key} {v : V} (e : keyTD d = some k) (r : RepV c O H d v) : ∃ p, v = .ref p ∧ p ∉ O ∧ H p = some (.tup (k.map kV)) ∧ ∀ x ∈ k, okK x := by
  cases d with
  | tup ds => exact keyTD_rep e r
  | _ => cases e
end
/-! d[k], d.get(k, x), d[k] = v -/
def dTGet : D → D → Option D
  | .dt ks xs, i => (keyTD i).bind (valD ks xs)
  | _, _ => none
def isDt : D → Bool
  | .dt _ _ => true
  | _ => false
def dTGetO : D → D → Option (Option D)
  | .dt ks xs, i => (keyTD i).map (valD ks xs)
  | _, _ => none
def eTGetD (go gi gx : EDen) : EDen := fun sl ce => (go sl ce).bind fun x ce1 => if isDt (look ce1 x) = true then (gi sl ce1).bind fun i ce2 => (gx sl ce2).bind fun z ce3 => match dTGetO (look ce3 x) (look ce3 i) with
  | some (some d) => .ok d ce3
  | some none => .ok z ce3
  | none => .bad else .bad
def sTPut (go gi ge : EDen) : SDen := fun sl ce => (ge sl ce).st sl fun v ce1 => (go sl ce1).st sl fun x ce2 => (gi sl ce2).st sl fun i ce3 => match x, keyTD (look ce3 i) with
  | .cel k, some key => match (frz ce3 v).2[k]? with
    | some (.dt ks xs) => if ks.length < 1000000 then .nx sl ((frz ce3 v).2.set k (.dt (putKs ks key) (putDs ks xs key (frz ce3 v).1))) else .bad
    | _ => .bad
  | _, _ => .bad
section
variable {X : Cx} {W : WX} {o i e f : Expr} {go gi gx ge : EDen} {pos pos' apos cpos : Pos}
theorem je_tget (hu : X.A.units + 1 < cLine) (ho : JE X W o go) (hi : JE X W i gi) (hs : NoSl i) : JE X W (.Subscript o i pos) (eBin dTGet go gi) := by
  refine PE.weak (pe_dget hu ho hi hs) fun σ H Q h => ?_
  obtain ⟨τ, O, sl, ce, w, s, h⟩ := h
  refine ⟨τ, O, sl, ce, w, s, (PostG.bind h).mono fun τ1 O1 ce1 H1 x e1 w1 h1 v r => ?_⟩
  refine ⟨τ1, O1, sl, ce1, w1, s.ext e1, (PostG.bind h1).mono fun τ2 O2 ce2 H2 y e2 w2 h2 u r2 => ?_⟩
  obtain ⟨d, ed, q⟩ := post_lift w2 h2
  have rx := (r.ext e2).view w2
  have ry := r2.view w2
  cases q1 : look ce2 x with
  | dt ks xs =>
    rw [q1] at ed rx
    obtain ⟨a, vs, rfl, hp, hl, _, rs⟩ := rx.dt
    cases q2 : keyTD (look ce2 y) with
    | none => rw [dTGet, q2] at ed; cases ed
    | some k =>
      rw [dTGet, q2] at ed
      obtain ⟨v', hv, rv⟩ := (valD_rep k rs hl).1 d ed
      obtain ⟨b, rfl, _, hb, _⟩ := view_keyT q2 ry
      refine ⟨a, v', rfl, ?_, q v' H2 (.refl _) rv⟩
      exact .inr ⟨_, k, b, hp, rfl, hb, hv.symm⟩
  | _ => rw [q1] at ed; cases ed
theorem je_tgetD (hu : X.A.units + 1 < cLine) (ho : JE X W o go) (he : JE X W e gi) (hf : JE X W f gx) (m : M2 X o "get" apos e f cpos) : JE X W (.Call (.Attribute o "get" apos) [e, f] [] cpos) (eTGetD go gi gx) := by
  refine PE.weak (pe_dget2 hu ho he hf m) fun σ H Q h => ?_
  obtain ⟨τ, O, sl, ce, w, s, h⟩ := h
  refine ⟨τ, O, sl, ce, w, s, (PostG.bind h).mono fun τ1 O1 ce1 H1 x e1 w1 h1 v r => ?_⟩
  split at h1
  · rename_i hd
    have rx := r.view w1
    have hex : ∃ a, v = .ref a ∧ IsD H1 a := by
      cases q1 : look ce1 x with
      | dt ks xs =>
        rw [q1] at rx
        obtain ⟨a, vs, rfl, hp, _⟩ := rx.dt
        exact ⟨a, rfl, .inr ⟨_, hp⟩⟩
      | _ => rw [q1] at hd; cases hd
    obtain ⟨a, rfl, isd⟩ := hex
    refine ⟨a, rfl, isd, τ1, O1, sl, ce1, w1, s.ext e1, (PostG.bind h1).mono fun τ2 O2 ce2 H2 y e2 w2 h2 u r2 => ?_⟩
    refine ⟨τ2, O2, sl, ce2, w2, (s.ext e1).ext e2, (PostG.bind h2).mono fun τ3 O3 ce3 H3 z e3 w3 h3 uz rz => ?_⟩
    have rx3 := ((r.ext e2).ext e3).view w3
    have ry := (r2.ext e3).view w3
    cases q1 : look ce3 x with
    | dt ks xs =>
      rw [q1] at rx3
      obtain ⟨a', vs, ea, hp, hl, _, rs⟩ := rx3.dt
      cases ea
      cases q2 : keyTD (look ce3 y) with
      | none => simp only [dTGetO, q1, q2, Option.map_none] at h3; exact h3.elim
      | some k =>
        simp only [dTGetO, q1, q2, Option.map_some] at h3
        obtain ⟨b, rfl, _, hb, _⟩ := view_keyT q2 ry
        refine ⟨valV (ks.zip vs) k, .inr ⟨_, k, b, hp, rfl, hb, rfl⟩, ?_⟩
        cases q3 : valD ks xs k with
        | none =>
          rw [q3] at h3
          rw [(valD_rep k rs hl).2 q3]
          exact h3.done w3 uz rz
        | some d =>
          rw [q3] at h3
          obtain ⟨v', hv, rv⟩ := (valD_rep k rs hl).1 d q3
          rw [hv]
          exact h3.done w3 v' rv.rep
    | _ => simp only [dTGetO, q1] at h3; exact h3.elim
  · exact h1.elim
theorem js_tput (hu : X.A.units + 1 < cLine) (ho : JE X W o go) (hi : JE X W i gi) (he : JE X W e ge) (hs : swapsWith e (some (.Subscript o i pos')) pos.line X.env = pure false) : JS X W (.Assign [.Subscript o i pos'] e pos) (sTPut go gi ge) := by
  refine PS.weak (ps_dput hu ho hi he hs) fun D σ H h => ?_
  obtain ⟨τ, O, sl, ce, w, s, h⟩ := h
  refine ⟨τ, O, sl, ce, w, s, (PostS.st s h).mono fun τ1 O1 ce1 H1 dv e1 w1 h1 v rv => ?_⟩
  refine ⟨τ1, O1, sl, ce1, w1, s.ext e1, (PostS.st (s.ext e1) h1).mono fun τ2 O2 ce2 H2 dx e2 w2 h2 x rx => ?_⟩
  refine ⟨τ2, O2, sl, ce2, w2, (s.ext e1).ext e2, (PostS.st ((s.ext e1).ext e2) h2).mono fun τ3 O3 ce3 H3 di e3 w3 h3 y ry => ?_⟩
  replace rx := rx.ext e3
  replace rv := (rv.ext e2).ext e3
  split at h3
  · rename_i k key hkey
    obtain ⟨a, hk, rfl⟩ := rx
    obtain ⟨O4, e4, w4, r4⟩ := frz_ok w3 rv
    split at h3
    · rename_i ks xs hx
      split at h3
      · rename_i hl
        obtain ⟨hO, us, hu', hlen, hok, rus⟩ := w4.cell k a _ hk hx
        obtain ⟨ws, p1, p2, p3⟩ := put_rep (k := key) rus hlen r4
        obtain ⟨b, rfl, hbO, hb, hbk⟩ := view_keyT hkey (ry.view w3)
        have em : Ext τ3 O4 H3 τ3 O4 (upd H3 a (.dT ((putKs ks key).zip ws))) := .mut hO
        have hput := DPut.t (k := key) (v := v) hu' hb (by rw [List.length_zip, ← hlen, Nat.min_self]; exact Nat.lt_of_lt_of_le hl sz1)
        rw [p1] at hput
        refine ⟨a, _, rfl, hput, ?_⟩
        exact h3 τ3 O4 σ _ (e4.trans em) (w4.set hk hO (show CellOk (cfg X) O4 _ a (.dt (putKs ks key) (putDs ks xs key (frz ce3 dv).1)) from ⟨hO, ws, upd_same, p2, okKs_put hok hbk, p3.ext em⟩)) ((((s.ext e1).ext e2).ext e3).ext (e4.trans em))
      · exact h3.elim
    · exact h3.elim
  · exact h3.elim
end
/-! {}, {k: v} -/
def eTNew : EDen := fun _ ce => .ok (.cel ce.length) (ce ++ [.dt [] []])
def eTDisp (gk gv : EDen) : EDen := fun sl ce => (gk sl (ce ++ [.dt [] []])).bind fun k ce1 => (gv sl ce1).bind fun v ce2 => match keyTD (look (frz ce2 v).2 k), (frz ce2 v).2[ce.length]? with
  | some key, some (.dt [] []) => .ok (.cel ce.length) ((frz ce2 v).2.set ce.length (.dt [key] [(frz ce2 v).1]))
  | _, _ => .bad
section
variable {X : Cx} {W : WX} {k v : Expr} {gk gv : EDen} {pos : Pos}
theorem je_tnew : JE X W (.Dict [] [] pos) eTNew := by
  refine PE.weak pe_dnewT fun σ H Q h p hp => ?_
  obtain ⟨τ, O, sl, ce, w, s, h⟩ := h
  have ex : Ext τ O H (τ ++ [p]) (p :: O) (upd H p (.dT [])) := .cell hp
  exact h (τ ++ [p]) (p :: O) _ ex (w.push hp ⟨List.mem_cons_self, [], upd_same, rfl, fun k hk => (by cases hk), repTs_nil.mpr rfl⟩) _ ⟨p, cell_at w.len, rfl⟩
/-- a tracked tuple's value is stored -/
theorem set_dT {pins : List (Addr × Obj)} {σ : L2.St} {H : Hp} {s : Shared} {E : Value → Shared → Prop} {D b : Addr} {kvs : List (List Key × V)} {k : List Key} {v : V} {r : Value} {Q : Unit → Shared → Prop} (hu : X.A.units + 1 < cLine) (I : Inv X pins σ H s) (hD : H D = some (.dT kvs)) (hz : kvs.length < sizeLine)
    (hb : H b = some (.tup (k.map kV))) (rv : RelV v r) (h : ∀ s', Inv X pins σ (upd H D (.dT (putK kvs k v))) s' → Q () s') : wpAny (model X.prog X.w) X.A (dictSet D (.ref b) r) Q E s := by
  obtain ⟨z, lo, xs, rel, dd⟩ := dt_of I.hok hD
  have lx : xs.length ≤ sizeLine := Paired.length rel ▸ z
  have lk := length_putK kvs k v
  refine wpAny_dictSet_heap (hsz := lx) (show X.A.units < cLine by omega) (key_of I.hok hb) dd fun h' ⟨q, es, ep, hq, c1, c2, c3, _, c5⟩ hs => h _ ?_
  refine d_write I (by rw [hD]; exact True.intro) hs ⟨q, hq⟩ ⟨Nat.le_trans lk hz, lo, _, (rel.put k hb rv).keeps fun c ys ec => ?_, q, es, ep, hq, c1, c2, c3, c5⟩
  rw [upd_ne (ne_of ec hD (fun z => nomatch z))]
  exact ec
def tTDisp (tk tv : TE) : TE := fun σ H Q => ∀ p, H p = none → tPairs [(tk, tv)] σ (upd H p (.dT [])) fun ps H2 => H2 p = some (.dT []) ∧ ∃ b key y, ps = [(.ref b, y)] ∧ H2 b = some (.tup (key.map kV)) ∧ Q (.ref p) (upd H2 p (.dT [(key, y)]))
theorem pe_tdisp {tk tv : TE} (hu : X.A.units + 1 < cLine) (hk : PE X k tk) (hv : PE X v tv) : PE X (.Dict [some k] [v] pos) (tTDisp tk tv) := by
  refine ⟨fun pins s σ H Q I q => ?_⟩
  have hn := I.hok.fresh (Nat.le_refl s.heap.objs.size)
  have I1 := I.laid (a := s.heap.objs.size) (o := .dT []) (h' := s.heap.push { cls := .type "dict", data := .dict #[] }) (t' := s.toks) (fun _ _ q => Heap.get?_push_of_some _ q) (Nat.le_refl _) (dt_empty s.heap I.big)
  refine PySem.wpAny_Dict_any rfl rfl (by simp) (by simp) (thn ((pps_cons (pos := pos) hk hv pps_nil).run pins _ σ _ _ I1 (q _ hn)) fun ws s2 ⟨ps, H2, I2, rel, e, b, key, y, ep, hb, q2⟩ => ?_)
  subst ep
  cases rel with
  | @cons a0 w0 as0 bs0 h0 t =>
    cases t
    obtain ⟨h1, h2⟩ := h0
    obtain ⟨w1, w2⟩ := w0
    cases (show w1 = Value.ref b from h1)
    unfold PySem.storeAll
    rw [List.forIn_cons]
    refine wpAny_bind (wpAny_bind (set_dT hu I2 e (by decide) hb h2 fun s3 I3 => ?_))
    exact wpAny_pure (wpAny_pure ⟨.ref s.heap.objs.size, _, I3, rfl, q2⟩)
theorem je_tdisp (hu : X.A.units + 1 < cLine) (hk : JE X W k gk) (hv : JE X W v gv) : JE X W (.Dict [some k] [v] pos) (eTDisp gk gv) := by
  refine PE.weak (pe_tdisp hu hk hv) fun σ H Q h p hp => ?_
  obtain ⟨τ, O, sl, ce, w, s, h⟩ := h
  have e0 : Ext τ O H (τ ++ [p]) (p :: O) (upd H p (.dT [])) := .cell hp
  have w0 : WFh (cfg X) (τ ++ [p]) (p :: O) (ce ++ [.dt [] []]) (upd H p (.dT [])) := w.push hp ⟨List.mem_cons_self, [], upd_same, rfl, fun k hk => (by cases hk), repTs_nil.mpr rfl⟩
  refine ⟨τ ++ [p], p :: O, sl, ce ++ [.dt [] []], w0, s.ext e0, (PostG.bind (PostG.ext e0 h)).mono fun τ1 O1 ce1 H1 x e1 w1 h1 vx rx => ?_⟩
  refine ⟨τ1, O1, sl, ce1, w1, (s.ext e0).ext e1, (PostG.bind h1).mono fun τ2 O2 ce2 H2 y e2 w2 h2 vy ry => ?_⟩
  have ht : τ2[ce.length]? = some p := e2.pre _ _ (e1.pre _ _ (cell_at w.len))
  obtain ⟨O3, e3, w3, r3⟩ := frz_ok w2 ry
  have rk := ((rx.ext e2).ext e3).view w3
  cases q2 : keyTD (look (frz ce2 y).2 x) with
  | none => simp only [q2] at h2; exact h2.elim
  | some key =>
    cases q3 : (frz ce2 y).2[ce.length]? with
    | none => simp only [q2, q3] at h2; exact h2.elim
    | some m =>
      simp only [q2, q3] at h2
      split at h2
      · rename_i hm1 hm2
        cases hm1
        cases hm2
        obtain ⟨hO, vs, hH, hl, _, rs⟩ := w3.cell _ p _ ht q3
        have hv0 : vs = [] := repTs_nil.mp rs
        subst hv0
        obtain ⟨b, rfl, hbO, hb, hbk⟩ := view_keyT q2 rk
        refine ⟨hH, b, key, vy, rfl, hb, ?_⟩
        have em : Ext τ2 O3 H2 τ2 O3 (upd H2 p (.dT [(key, vy)])) := .mut hO
        exact h2 τ2 O3 _ (e3.trans em) (w3.set ht hO (show CellOk (cfg X) O3 _ p (.dt [key] [(frz ce2 y).1]) from ⟨hO, [vy], upd_same, rfl, fun k hk => (by rw [List.mem_singleton.mp hk]; exact hbk), RepTs.one (r3.ext em)⟩)) _ ⟨p, ht, rfl⟩
      · exact h2.elim
end
/-! sorted(d) -/
def encK : Key → PyData
  | .inl i => .int i
  | .inr x => .str x
def encKs (k : List Key) : PyData := .tuple (k.map encK)
def dtLe : List Key → List Key → Bool := PySem.W.dataLe false encKs
def sortK (ks : List (List Key)) : List (List Key) := ks.mergeSort dtLe
/-- two texts -/
def is2 : List Key → Bool
  | [.inr _, .inr _] => true
  | _ => false
abbrev P2 := List Nat × List Nat
def key2 (p : P2) : List Key := [.inr (toStr p.1), .inr (toStr p.2)]
def stD (p : P2) : D := .tup [.str p.1, .str p.2]
theorem keyT_key2 (p : P2) : keyT (key2 p) = stD p := rfl
theorem keyTD_stD (p : P2) : keyTD (stD p) = some (key2 p) := rfl
def ltP (a b : P2) : Bool := if a.1 = b.1 then decide (a.2 < b.2) else decide (a.1 < b.1)
theorem ltP_iff {a b : P2} : ltP a b = true ↔ a.1 < b.1 ∨ (a.1 = b.1 ∧ a.2 < b.2) := by
  unfold ltP
  by_cases e : a.1 = b.1
  · rw [if_pos e, decide_eq_true_eq]
    exact ⟨fun h => .inr ⟨e, h⟩, fun h => h.elim (fun z => by rw [e] at z; exact absurd z (List.lt_irrefl _)) fun z => z.2⟩
  · rw [if_neg e, decide_eq_true_eq]
    exact ⟨.inl, fun h => h.elim id fun z => absurd z.1 e⟩
def ins2 (x : P2) : List P2 → List P2
  | [] => [x]
  | y :: r => if ltP y x = true then y :: ins2 x r else x :: y :: r
def sort2 : List P2 → List P2
  | [] => []
  | x :: r => ins2 x (sort2 r)
theorem ins2_perm (x : P2) : ∀ r, (ins2 x r).Perm (x :: r)
  | [] => .refl _
  | y :: r => by
    unfold ins2
    split
    · exact ((ins2_perm x r).cons y).trans (.swap x y r)
    · exact .refl _
theorem sort2_perm : ∀ r, (sort2 r).Perm r
  | [] => .refl _
  | x :: r => (ins2_perm x _).trans ((sort2_perm r).cons x)
theorem nltP {a b : P2} (h : ltP a b = false) : ¬ (a.1 < b.1 ∨ (a.1 = b.1 ∧ a.2 < b.2)) := fun z => by
  rw [ltP_iff.mpr z] at h; cases h
theorem ltP_anti {a b : P2} (h1 : ltP b a = false) (h2 : ltP a b = false) : a = b := by
  have n1 := nltP h1
  have n2 := nltP h2
  obtain ⟨a1, a2⟩ := a
  obtain ⟨b1, b2⟩ := b
  have e1 : a1 = b1 := List.le_antisymm (fun z => n1 (.inl z)) fun z => n2 (.inl z)
  have e2 : a2 = b2 := List.le_antisymm (fun z => n1 (.inr ⟨e1.symm, z⟩)) fun z => n2 (.inr ⟨e1, z⟩)
  rw [e1, e2]
theorem ltP_asym {a b : P2} (h : ltP a b = true) : ltP b a = false := by
  cases q : ltP b a with
  | false => rfl
  | true =>
    rcases ltP_iff.mp h with h | ⟨h1, h⟩ <;> rcases ltP_iff.mp q with q | ⟨q1, q⟩
    · exact absurd q (List.lt_asymm h)
    · rw [q1] at h; exact absurd h (List.lt_irrefl _)
    · rw [h1] at q; exact absurd q (List.lt_irrefl _)
    · exact absurd q (List.lt_asymm h)
theorem ltP_tr {a b c : P2} (h1 : ltP b a = false) (h2 : ltP c b = false) : ltP c a = false := by
  cases q : ltP c a with
  | false => rfl
  | true =>
    have n1 := nltP h1
    have n2 := nltP h2
    have cut : ∀ x y z : List Nat, x < z → x < y ∨ y < z := fun x y z h => by
      by_cases hab : x < y
      · exact .inl hab
      · exact .inr (List.lt_of_le_of_lt hab h)
    exfalso
    rcases ltP_iff.mp q with q | ⟨q1, q⟩
    · rcases cut _ b.1 _ q with z | z
      · exact n2 (.inl z)
      · exact n1 (.inl z)
    · have e1 : c.1 = b.1 := List.le_antisymm (fun z => n1 (.inl (by rw [← q1]; exact z))) fun z => n2 (.inl z)
      rcases cut _ b.2 _ q with z | z
      · exact n2 (.inr ⟨e1, z⟩)
      · exact n1 (.inr ⟨e1.symm.trans q1, z⟩)
abbrev Sd2 (l : List P2) : Prop := l.Pairwise fun a b => ltP b a = false
theorem ins2_sorted (x : P2) : ∀ r, Sd2 r → Sd2 (ins2 x r)
  | [], _ => by simp [ins2]
  | y :: r, h => by
    have h' := List.pairwise_cons.mp h
    unfold ins2
    split
    · rename_i hyx
      refine List.pairwise_cons.mpr ⟨fun z hz => ?_, ins2_sorted x r h'.2⟩
      rcases List.mem_cons.mp ((ins2_perm x r).mem_iff.mp hz) with rfl | hz
      · exact ltP_asym hyx
      · exact h'.1 z hz
    · rename_i hyx
      have hyx : ltP y x = false := by simpa using hyx
      refine List.pairwise_cons.mpr ⟨fun z hz => ?_, h⟩
      rcases List.mem_cons.mp hz with rfl | hz
      · exact hyx
      · exact ltP_tr hyx (h'.1 z hz)
theorem sort2_sorted : ∀ r, Sd2 (sort2 r)
  | [] => by simp [sort2]
  | x :: r => ins2_sorted x _ (sort2_sorted r)
theorem dtLe2 (a b : P2) : dtLe (key2 a) (key2 b) = !ltP b a := by
  show (!PySem.W.dataLt (.tuple [.str (toStr b.1), .str (toStr b.2)]) (.tuple [.str (toStr a.1), .str (toStr a.2)])) = _
  rw [PySem.W.dataLt_pair (by simp [PySem.W.alike]) (by simp [PySem.W.alike]), PySem.W.dataLt_str, PySem.W.dataLt_str]
  have e : ∀ x y : List Nat, (toStr x = toStr y) ↔ x = y := fun x y => ⟨fun h => by
    have := congrArg (fun s : Str => s.cps.toList) h
    simpa [toStr] using this, fun h => by rw [h]⟩
  simp only [PyData.eqv, beq_iff_eq, e]
  unfold ltP
  by_cases h1 : b.1 = a.1
  · by_cases h2 : b.2 = a.2
    · simp [h1, h2, toStr, List.lt_irrefl]
    · simp [h1, h2, toStr]
      exact decide_eq_decide.mpr Iff.rfl
  · simp [h1, toStr]
    exact decide_eq_decide.mpr Iff.rfl
theorem sortK2 (ps : List P2) : sortK (ps.map key2) = (sort2 ps).map key2 := by
  unfold sortK
  rw [← List.map_mergeSort (r := fun a b => !ltP b a) (fun a _ b _ => (dtLe2 a b).symm)]
  congr 1
  have hs : (ps.mergeSort fun a b => !ltP b a).Pairwise fun a b => ltP b a = false := by
    refine (List.pairwise_mergeSort (le := fun a b => !ltP b a) ?_ ?_ ps).imp fun h => by simpa using h
    · intro a b c h1 h2
      have h1 : ltP b a = false := by simpa using h1
      have h2 : ltP c b = false := by simpa using h2
      simpa using ltP_tr h1 h2
    · intro a b
      cases h : ltP b a with
      | false => simp
      | true => simp [ltP_asym h]
  exact List.Perm.eq_of_pairwise (fun a b _ _ h1 h2 => ltP_anti h1 h2) hs (sort2_sorted ps) ((List.mergeSort_perm _ _).trans (sort2_perm ps).symm)
def as2s : List (List Key) → Option (List P2)
  | [] => some []
  | k :: ks => match k with
    | [.inr a, .inr b] => (as2s ks).map ((a.cps.toList, b.cps.toList) :: ·)
    | _ => none
theorem as2s_eq : ∀ {ks : List (List Key)} {ps : List P2}, as2s ks = some ps → ks = ps.map key2
  | [], ps, h => by cases h; rfl
  | k :: ks, ps, h => by
    unfold as2s at h
    split at h
    · rename_i a b
      cases q : as2s ks with
      | none => rw [q] at h; cases h
      | some qs =>
        rw [q] at h
        cases h
        rw [List.map_cons, ← as2s_eq q]
        show _ :: _ = ([Sum.inr (toStr a.cps.toList), Sum.inr (toStr b.cps.toList)] : List Key) :: _
        rw [toStr_cps, toStr_cps]
    · cases h
theorem as2s_map : ∀ ps : List P2, as2s (ps.map key2) = some ps
  | [] => rfl
  | p :: ps => by
    rw [List.map_cons]
    show (as2s (ps.map key2)).map _ = _
    rw [as2s_map ps]
    rfl
def dSortTK : List D → Option D
  | [.dt ks _] => if ks.length ≤ 1000000 then (as2s ks).map fun ps => .lst ((sort2 ps).map stD) else none
  | _ => none
abbrev AK := Addr × List Key
section
open PySem.W
variable {X : Cx}
theorem sortA_map (l : List AK) : (l.mergeSort (PySem.W.dataLe false fun b : AK => encKs b.2)).map (·.2) = sortK (l.map (·.2)) := by
  exact List.map_mergeSort fun a _ b _ => rfl
theorem refK_vals : ∀ {l : List AK} {its : List Value}, Vals (l.map fun q => V.ref q.1) its → its = l.map fun q => Value.ref q.1
  | [], _, h => by cases h; rfl
  | q :: l, _, h => by
    cases h with
    | cons r rs =>
      rw [refK_vals rs]
      have r : _ = Value.ref q.1 := r
      rw [r]; rfl
theorem vals_refK : ∀ l : List AK, Vals (l.map fun q => V.ref q.1) (l.map fun q => Value.ref q.1)
  | [] => .nil
  | q :: l => .cons rfl (vals_refK l)
theorem each_refK : ∀ l : List AK, EachIs (fun v (b : AK) => v = Value.ref b.1) (l.map fun q => Value.ref q.1) l
  | [] => .nil
  | q :: l => .cons rfl (each_refK l)
theorem each_outK : ∀ {out : List Value} {l : List AK}, EachIs (fun v (b : AK) => v = Value.ref b.1) out l → out = l.map fun q => Value.ref q.1
  | _, _, .nil => rfl
  | _, _, .cons h t => by rw [h, each_outK t]; rfl
theorem is2_ex {k : List Key} (h : is2 k = true) : ∃ a b, k = [.inr a, .inr b] := by
  unfold is2 at h
  split at h
  · exact ⟨_, _, rfl⟩
  · cases h
theorem reads2 {h : Heap} {k : List Key} {its : List Value} (h2 : is2 k = true) (r : Vals (k.map kV) its) : ReadsAll h its (k.map encK) [] := by
  obtain ⟨a, b, rfl⟩ := is2_ex h2
  cases r with
  | cons r1 r =>
    cases r with
    | cons r2 r =>
      cases r
      obtain ⟨t1, rfl⟩ := r1
      obtain ⟨t2, rfl⟩ := r2
      exact .cons (as := []) (bs := []) (.str a t1) (.cons (as := []) (bs := []) (.str b t2) .nil)
/-- sorted(d), the keys two texts each -/
theorem cr_sortTK (hc : X.calm = true) (hu : X.A.units + 64 < cLine) : CallR X (.builtin "sorted") (fun vs H Q => ∃ (a : Addr) (kvs : List (List Key × V)), vs = [V.ref a] ∧ Rd H a (.dT kvs) ∧ (∀ p ∈ kvs, is2 p.1 = true) ∧
    ∀ (l : List AK) (p : Addr), l.map (·.2) = sortK (kvs.map (·.1)) → (∀ q ∈ l, H q.1 = some (.tup (q.2.map kV))) → H p = none → Q (.ref p) (upd H p (.lst (l.map fun q => V.ref q.1)))) := by
  intro pins s σ H vs us Q I r h
  obtain ⟨a, kvs, rfl, hd, h2, q⟩ := h
  obtain ⟨u, rfl, rx⟩ := r.one
  cases rx
  obtain ⟨z, lo, ks, pr, o, es, ep, ho, hx, hdt, he, hn⟩ := (show ObjOk X.prog X.w H s.heap a (.dT kvs) from hd.ok I.hok)
  have l1 : es.size = ks.length := size_of_entries he
  have l2 : kvs.length = ks.length := Paired.length pr
  refine Calls.call_function_entry PyProof.Rows.kind_sorted PyProof.Rows.plain_sorted PyProof.Rows.entry_sorted (PyProof.Rows.args_sorted1 _) ?_
  unfold Builtin.«sorted»
  refine wpAny_bind (m := checkCount "sorted" 1 1 _) (wpAny_pure ?_)
  refine wpAny_bind (PySem.W.kdu_collect (A := X.A.in1) (kdl_raw lo hx hdt) (I.ok.hd hc) ho (by omega) fun h' tk acc kp it => ?_)
  have I1 : Inv X pins σ H { s with heap := h', toks := tk } := I.kept kp
  obtain ⟨l, hl⟩ : ∃ l : List AK, l = ks.map fun x => (x.2.1, x.1) := ⟨_, rfl⟩
  have hat : ∀ q ∈ l, H q.1 = some (.tup (q.2.map kV)) ∧ is2 q.2 = true := by
    have key : ∀ {kvs : List (List Key × V)} {ks : List (List Key × Addr × Value)}, KT H kvs ks → (∀ p ∈ kvs, is2 p.1 = true) → ∀ q ∈ ks.map (fun x => (x.2.1, x.1)), H q.1 = some (.tup (q.2.map kV)) ∧ is2 q.2 = true := by
      intro kvs ks pr
      induction pr with
      | nil => intro _ q hq; cases hq
      | @cons p q ps qs hpq t ih =>
        intro h2 e he
        rcases List.mem_cons.mp he with rfl | he
        · refine ⟨?_, ?_⟩
          · show H q.2.1 = some (.tup (q.1.map kV)); rw [← hpq.1]; exact hpq.2.1
          · show is2 q.1 = true; rw [← hpq.1]; exact h2 p List.mem_cons_self
        · exact ih (fun p hp => h2 p (List.mem_cons_of_mem _ hp)) e he
    rw [hl]; exact key pr h2
  have hkeys : l.map (·.2) = kvs.map (·.1) := by
    have key : ∀ {kvs : List (List Key × V)} {ks : List (List Key × Addr × Value)}, KT H kvs ks → ks.map (·.1) = kvs.map (·.1) := by
      intro kvs ks pr
      induction pr with
      | nil => rfl
      | @cons p q ps qs hpq t ih => rw [List.map_cons, List.map_cons, ih, hpq.1]
    rw [hl, List.map_map]; exact key pr
  have ea : acc.toList = l.map fun q => Value.ref q.1 := by
    have hlen : acc.toList.length = ks.length := by rw [Array.length_toList, it.1]; exact l1
    rw [hl, List.map_map]
    apply List.ext_getElem?
    intro j
    rw [List.getElem?_map]
    cases hj : acc.toList[j]? with
    | none =>
      rw [List.getElem?_eq_none (by have := List.getElem?_eq_none_iff.mp hj; omega)]; rfl
    | some v =>
      obtain ⟨en, hen, hv⟩ := it.2 j v (by rw [← Array.getElem?_toList]; exact hj)
      have qe := entry_at he j
      rw [hen] at qe
      cases hb : ks[j]? with
      | none => rw [hb] at qe; exact nomatch (show some en = none from qe)
      | some b =>
        rw [hb] at qe
        have e2 : en = entryOfKey (tupleKind (mixKind X.prog X.w)) b := Option.some.inj qe
        rw [hv, e2]; rfl
  have hll : l.length ≤ sizeLine := by rw [hl, List.length_map, ← l2]; exact z
  have hal : acc.toList.length ≤ sizeLine := by rw [ea, List.length_map]; exact hll
  refine wpAny_bind (wpAny_newList ?_ hal)
  have hoL : (h'.push (seqObj "list" acc.toList.toArray 0)).get? h'.objs.size = some (seqObj "list" acc.toList.toArray 0) := Heap.get?_push_size _ rfl
  show wpAny _ _ _ _ _ { s with heap := h'.push (seqObj "list" acc.toList.toArray 0), toks := tk }
  have er : ∀ m : List AK, (∀ e ∈ m, e ∈ l) → EachIs (fun v (b : AK) => ∃ as, Reads (h'.push (seqObj "list" acc.toList.toArray 0)) v (encKs b.2) as ∧ h'.objs.size ∉ as) (m.map fun q => Value.ref q.1) m := by
    intro m
    induction m with
    | nil => intro _; exact .nil
    | cons e m ih =>
      intro hm
      obtain ⟨h3, h4⟩ := hat e (hm e List.mem_cons_self)
      obtain ⟨its, rv, ⟨o, ho, hc, n, hd⟩, _⟩ := I1.tuple (.inl (.inl h3))
      have lt : e.1 < h'.objs.size := Heap.lt_size ho
      refine .cons ⟨_, .tuple (Heap.get?_push_of_some _ ho) hc hd (reads2 h4 rv), ?_⟩ (ih fun e he => hm e (List.mem_cons_of_mem _ he))
      simp
  rw [ea] at hoL ⊢
  have er := er l fun _ h => h
  rw [ea] at er
  refine wpAny_bind (wpAny_holding (PySem.W.list_sort_data (R := fun v (b : AK) => v = Value.ref b.1) (bs := l) (enc := fun b : AK => encKs b.2) hoL (each_refK l) er ?_ ?_ hll ?_ fun out hlen eo => ?_))
  · intro d hd d' hd'
    obtain ⟨b, hb, rfl⟩ := List.mem_map.mp hd
    obtain ⟨b', hb', rfl⟩ := List.mem_map.mp hd'
    obtain ⟨x, y, e1⟩ := is2_ex (hat b hb).2
    obtain ⟨x', y', e2⟩ := is2_ex (hat b' hb').2
    rw [e1, e2]
    rfl
  · refine .inl fun d hd => ?_
    obtain ⟨b, hb, rfl⟩ := List.mem_map.mp hd
    obtain ⟨x, y, e1⟩ := is2_ex (hat b hb).2
    rw [e1]
    exact ⟨_, _, rfl⟩
  · intro b hb
    obtain ⟨x, y, e1⟩ := is2_ex (hat b hb).2
    rw [e1]
    show X.A.units + 1 + 1 + (PyData.tuple [.str x, .str y]).depth < cLine
    have : (PyData.tuple [.str x, .str y]).depth ≤ 10 := by simp [PyData.depth, PyData.depthAll]
    omega
  · have ee := each_outK eo
    subst ee
    obtain ⟨e', he'⟩ := PyProof.Rows.sortedHeap_at (vs := l.map fun q => Value.ref q.1) (out := ((l.mergeSort (dataLe false fun b : AK => encKs b.2)).map fun q => Value.ref q.1).toArray) hoL
    have pm : (l.mergeSort (dataLe false fun b : AK => encKs b.2)).Perm l := List.mergeSort_perm _ _
    refine wpAny_pure ⟨_, rfl, .ref h'.objs.size, upd H h'.objs.size (.lst ((l.mergeSort (dataLe false fun b : AK => encKs b.2)).map fun q => V.ref q.1)), I1.laid (t' := tk) (fun b u e => ?_) (Nat.le_refl _)
      (show ObjOk X.prog X.w _ _ _ (.lst _) from ⟨?_, _, e', vals_refK _, he'⟩), rfl, q _ _ (by rw [sortA_map, hkeys]) (fun q hq => (hat q (pm.mem_iff.mp hq)).1) (I1.hok.fresh (Nat.le_refl _))⟩
    · have hb : b < h'.objs.size := Heap.lt_size e
      rw [PyProof.Rows.sortedHeap_old (Nat.ne_of_lt hb) (by rw [size_push']; exact Nat.lt_succ_of_lt hb)]
      exact Heap.get?_push_of_some _ e
    · rw [List.length_map, pm.length_eq]; exact hll
theorem keys_rep {c : Cfg} {O : List Addr} {H : Hp} : ∀ (l : List AK), (∀ q ∈ l, q.1 ∉ O ∧ H q.1 = some (.tup (q.2.map kV)) ∧ ∀ x ∈ q.2, okK x) → RepTs c O H (l.map fun q => keyT q.2) (l.map fun q => V.ref q.1)
  | [], _ => repTs_nil.mpr rfl
  | q :: l, h => by
    obtain ⟨h1, h2, h3⟩ := h q List.mem_cons_self
    exact repTs_cons.mpr ⟨_, _, rfl, rep_keyT h1 h2 h3, keys_rep l fun e he => h e (List.mem_cons_of_mem _ he)⟩
theorem je_sortTK {W : WX} {x : Str} {e : Expr} {ga : SEnv → Cells → Out (List D)} {p pos : Pos} (hc : X.calm = true) (hu : X.A.units + 64 < cLine) (hg : Gl X x) (hm : X.mg x = none) (hv : bootBuiltins x = some (.builtin "sorted")) (ha : JA X W [e] ga) (hn : x ≠ "__name__") (hdb : (x == ("__debug__" : Str)) = false)
    (he : starEach [e] X.env = (false, eval e X.env) :: starEach [] X.env) (hpl : (backTo pos (starEach [] X.env)).any (·.1) = false) : JE X W (.Call (.Name x p) [e] [] pos) (eCall dSortTK ga) := by
  refine PE.weak (pe_callB (cr_sortTK hc hu) hg hm hv ha hn hdb he hpl) fun σ H Q h => ?_
  obtain ⟨τ, O, sl, ce, w, s, h⟩ := h
  refine ⟨τ, O, sl, ce, w, s, (PostG.bind h).mono fun τ1 O1 ce1 H1 xs e1 w1 h1 vs r => ?_⟩
  obtain ⟨d, e, q⟩ := post_lift w1 h1
  have r := r.view w1
  generalize xs.map (look ce1) = ys at r e
  unfold dSortTK at e
  split at e
  · rename_i ks zs
    split at e
    · rename_i hl0
      cases hps : as2s ks with
      | none => rw [hps] at e; cases e
      | some ps =>
        rw [hps] at e
        cases e
        have hks := as2s_eq hps
        obtain ⟨v, rfl, r1⟩ := r.one
        obtain ⟨p, us, rfl, hp, hl, hk, rs⟩ := r1.dt
        have ez : (ks.zip us).map (·.1) = ks := List.map_fst_zip (by omega)
        refine ⟨p, _, rfl, hp, fun q hq => ?_, fun l p2 a1 a2 a3 => q _ _ (same_upd a3) ?_⟩
        · have : q.1 ∈ ks := by rw [← ez]; exact List.mem_map.mpr ⟨q, hq, rfl⟩
          rw [hks] at this
          obtain ⟨z, _, e⟩ := List.mem_map.mp this
          rw [← e]
          rfl
        · rw [ez] at a1
          have e2 : (sort2 ps).map stD = l.map fun q => keyT q.2 := by
            have := congrArg (List.map keyT) a1
            rw [hks, sortK2, List.map_map, List.map_map] at this
            exact this.symm
          show RepT _ _ _ (.lst ((sort2 ps).map stD)) _
          rw [e2]
          refine new_lst w1.trk a3 (keys_rep l fun q hq => ⟨fun z => w1.nt _ z _ (a2 q hq), a2 q hq, ?_⟩)
          have : q.2 ∈ ks := by
            have h3 : q.2 ∈ sortK ks := by rw [← a1]; exact List.mem_map.mpr ⟨q, hq, rfl⟩
            exact (List.mergeSort_perm _ _).mem_iff.mp h3
          exact hk _ this
    · cases e
  · cases e
end
/-! walks over the keys -/
/-- the dict is locked for good -/
def tLockP (t : TE) : TE := fun σ H Q => t σ H fun v H1 => ∃ d kvs, v = .ref d ∧ ((∃ od, H1 d = some (.frz od (.dT kvs)) ∧ Q v H1) ∨ (H1 d = some (.dT kvs) ∧ ∀ od, Q v (upd H1 d (.frz od (.dT kvs)))))
theorem pe_lockP {X : Cx} {e : Expr} {t : TE} (h : PE X e t) : PE X e (tLockP t) := by
  refine ⟨fun pins s σ H Q I q => ?_⟩
  refine thn (h.run pins s σ H _ I q) fun u s1 ⟨v, H1, I1, r, d, kvs, ev, z⟩ => ?_
  rcases z with ⟨od, _, z⟩ | ⟨hd, z⟩
  · exact ⟨v, H1, I1, r, z⟩
  · obtain ⟨od, I2⟩ := I1.lock hd True.intro
    exact ⟨v, _, I2, r, z od⟩
def eKeysT (ge : EDen) : SEnv → Cells → Out Src := fun sl ce => (ge sl ce).bind fun d ce1 => match d with
  | .dt ks _ => .ok (srcC (ks.map keyT)) ce1
  | _ => .bad
section
variable {X : Cx} {W : WX} {tg e : Expr} {ge : EDen}
theorem srcOk_T {c : Cfg} {τ O : List Addr} {H : Hp} {p : Addr} {od : Obj} {ks : List (List Key)} {us : List V} (hp : p ∉ O) (h : H p = some (.frz od (.dT (ks.zip us)))) (hl : ks.length = us.length) (hk : okKs ks) : SrcOk c (srcC (ks.map keyT)) (Itkt p od (ks.zip us)) τ O H := by
  intro τ1 O1 ce1 H1 xs e1 w1 hi hn
  cases hi
  have h1 := e1.keep hp h
  have hz : (ks.zip us).length = ks.length := by rw [List.length_zip, hl, Nat.min_self]
  have hs : (srcC (ks.map keyT)).n = ks.length := by simp [srcC]
  rw [hs]
  refine ⟨fun i hi => ⟨h1, by rw [hz]; exact hi⟩, ⟨h1, by rw [hz]; exact Nat.le_refl _⟩, fun i x H' hi y => ?_⟩
  obtain ⟨rfl, k, v, q, h2, rfl, h3⟩ := y
  have h4 : ks[i]? = some k := by
    have := congrArg (Option.map Prod.fst) h2
    rw [← List.getElem?_map, List.map_fst_zip (by omega)] at this
    exact this
  refine ⟨keyT k, by rw [List.getElem?_map, h4]; rfl, .refl _, rep_keyT (fun z => w1.nt _ z _ h3) h3 (hk k (List.mem_of_getElem? h4))⟩
theorem ji_keysT (he : JE X W e ge) : JI X W tg e (eKeysT ge) := by
  refine PI.weak (pi_keys (pe_lockP he)) fun σ H R h => ?_
  obtain ⟨τ, O, sl, ce, w, s, h⟩ := h
  refine ⟨τ, O, sl, ce, w, s, (PostG.bind h).mono fun τ1 O1 ce1 H1 d e1 w1 h1 v r => ?_⟩
  cases d with
  | dt ks xs =>
    obtain ⟨p, us, rfl, hp, hr, hl, hk, hx⟩ := repT_dt.mp (show RepT (cfg X) O1 H1 (.dt ks xs) v from r)
    refine ⟨p, ks.zip us, rfl, ?_⟩
    rcases hr with hr | ⟨od, hr⟩
    · refine .inr ⟨hr, fun od => ⟨p, od, rfl, .inr ⟨_, upd_same, ?_⟩⟩⟩
      exact h1 τ1 O1 _ (.lock hr) (w1.lock hp hr) _ (srcOk_T hp upd_same hl hk)
    · exact .inl ⟨od, hr, p, od, rfl, .inr ⟨_, hr, h1.done w1 _ (srcOk_T hp hr hl hk)⟩⟩
  | _ => exact h1.elim
end
/-! text < text -/
def dLtS : D → D → Option D
  | .str x, .str y => some (.bl (decide (x < y)))
  | _, _ => none
theorem oj_ltS {X : Cx} : OpJ X (compareOp .Lt) dLtS := by
  refine oj_intr op_lt_str fun H Q O dx dy d x y trk r1 r2 e q => ?_
  unfold dLtS at e
  split at e
  · cases e
    exact ⟨_, _, r1.str.1, r2.str.1, q _ H (.refl _) (repT_bl.mpr rfl)⟩
  · cases e
end Ib

set_option Elab.async false
set_option linter.all false
set_option maxRecDepth 100000
set_option maxHeartbeats 4000000
/-! dict comprehensions whose keys are tuples. -/
namespace Ib
open PySem PySem.Spec PyProof.Rows L2
section
variable {X : Cx}
/-- {kx: vx for tg in iter if ..}, the keys tuples: D the new dict -/
def tKc (wi : TI) (g : TG) (tt : TT) (tk tv : TE) (vs : List Nat) : TE := fun σ H Q => wi σ H fun J H1 => ∀ D, H1 D = none → ∃ W : Nat → Nat → Hp → Prop, (∃ m, W 0 m (upd H1 D (.dT []))) ∧ ∀ i m H, W i m H →
  (J.stop i H ∧ Q (.ref D) H) ∨ (J.go i H ∧ ∃ Nx : Hp → Prop, (∀ H', Nx H' → ∃ m', m' < m ∧ W (i + 1) m' H') ∧ ∀ x H', J.yld i H x H' → g x (wipe σ vs) H' fun σ2 H2 => wipe σ2 vs = wipe σ vs ∧ tt σ2 H2 fun b H3 =>
    if b = true then tk σ2 H3 fun y H4 => tv σ2 H4 fun z H5 => ∃ (kvs : List (List Key × V)) (k : List Key) (q : Addr), y = .ref q ∧ H5 q = some (.tup (k.map kV)) ∧ H5 D = some (.dT kvs) ∧ kvs.length < sizeLine ∧ Nx (upd H5 D (.dT (putK kvs k z))) else Nx H3)
theorem kc_core {pins : List (Addr × Obj)} {s : Shared} {σ : L2.St} {H : Hp} {Q : VK} {kx vx tg iter : Expr} {ifs : List Expr} {scope : Scope} {own : List (PySem.Str × Nat)} {pos pos' : Pos} {wi : TI} {g : TG} {tt : TT} {tk tv : TE} {use : Option (Value → Sem Unit)} {Qf : Value → Shared → Prop}
    (calm : X.calm = true) (hu : X.A.units + 1 < cLine) (hN : X.N.Nodup) (I : Inv X pins σ H s) (hi : PI X tg iter wi) (ok : BlkOk X.N X.env.scope scope own)
    (hg : ∀ (s : Shared) (H : Hp) (C : Addr) (cl : List (PySem.Str × Addr)) (fp : List Addr), PG (X.blk s H scope (compEnvC scope cl C X.env) fp) tg g)
    (ht : ∀ (s : Shared) (H : Hp) (C : Addr) (cl : List (PySem.Str × Addr)) (fp : List Addr), PTs (X.blk s H scope (compEnvC scope cl C X.env) fp) ifs tt)
    (hk : ∀ (s : Shared) (H : Hp) (C : Addr) (cl : List (PySem.Str × Addr)) (fp : List Addr), PE (X.blk s H scope (compEnvC scope cl C X.env) fp) kx tk)
    (he : ∀ (s : Shared) (H : Hp) (C : Addr) (cl : List (PySem.Str × Addr)) (fp : List Addr), PE (X.blk s H scope (compEnvC scope cl C X.env) fp) vx tv) (hs : ∀ x, foldedSetIterable iter X.env x = pure x)
    (q : tKc wi g tt tk tv (own.map (·.2)) σ H Q)
    (fin : ∀ D C s' m H', Inv X pins σ H' s' → Q (.ref D) H' → s'.heap.Ns C m → FpOk X pins H' C → compPost (model X.prog X.w) X.A X.xe use Qf (.ref D) C (.ok .next) s') :
    wpAny (model X.prog X.w) X.A (comprehension (.DictComp kx vx [⟨tg, iter, ifs, 0⟩] scope pos) scope X.env pos' newDict false (eval iter X.env) use) Qf X.xe s := by
  have hfree : ∀ y ∈ scope.names, y.2 = .free → ∃ c, X.env.cells.lookup y.1 = some c := fun y hy e => (ok.free y hy e).elim (fun z => I.ok.has _ (.inl z)) fun z => I.ok.has _ (.inr z)
  refine wpAny_comprehension_free (use := use) rfl hs (closure_ok hfree) ok.kind (fun y hy e => by rw [ok.uniq y hy, e]) (thn (hi.run pins s σ H _ I q) fun xv s1 hx => thn hx fun itv s2 h2 => ?_)
  obtain ⟨it, fp, tn, J, H2, rfl, I2, T, st2, f2, q⟩ := h2
  refine wpAny_newObj_type (newEnv_comp ?_)
  generalize hD : s2.heap.objs.size = D
  have hDn : H2 D = none := I2.hok.fresh (Nat.le_of_eq hD)
  obtain ⟨W, ⟨m0, w0⟩, turn⟩ := q D hDn
  generalize hs3' : ({ s2 with heap := s2.heap.push { cls := .type "dict", data := .dict #[] } } : Shared) = s3
  have hs3 : s3 = { s2 with heap := s2.heap.push { cls := .type "dict", data := .dict #[] } } := hs3'.symm
  have I3 : Inv X pins σ (upd H2 D (.dT [])) s3 := by
    rw [hs3]
    refine I2.laid (t' := s2.toks) (fun b o e => Heap.get?_push_of_some _ e) (Nat.le_of_eq hD) ?_
    rw [← hD]
    exact dt_empty s2.heap I2.big
  have h3 : s3.heap = s2.heap.push { cls := .type "dict", data := .dict #[] } := by rw [hs3]
  have f3 : ∀ b ∈ fp, FpOk X pins (upd H2 D (.dT [])) b ∧ b < s3.heap.objs.size := fun b hb => by
    obtain ⟨o, e, _⟩ := T.obj _ _ st2 b hb
    have lt := Heap.lt_size e
    refine ⟨⟨?_, (f2 b hb).2⟩, by rw [h3, Heap.size_push]; exact Nat.lt_succ_of_lt lt⟩
    rw [upd_ne (by rw [← hD]; exact Nat.ne_of_lt lt)]
    exact (f2 b hb).1
  have st3 : tn 0 s3.heap := T.keep _ _ _ st2 fun b _ o e => by rw [h3]; exact Heap.get?_push_of_some _ e
  have I4 := block_start I3 ok hN f3
  obtain ⟨cl, hcl⟩ : ∃ z, z = cellsFrom (s3.heap.objs.size + 1) scope.names (cloFrom X.env.cells scope.names []) := ⟨_, rfl⟩
  rw [← hcl] at I4
  have pg := hg s3 (upd H2 D (.dT [])) s3.heap.objs.size cl fp
  have pt := ht s3 (upd H2 D (.dT [])) s3.heap.objs.size cl fp
  have pk := hk s3 (upd H2 D (.dT [])) s3.heap.objs.size cl fp
  have pe := he s3 (upd H2 D (.dT [])) s3.heap.objs.size cl fp
  show codeAny _ _ (.compStart (.DictComp kx vx [⟨tg, iter, ifs, 0⟩] scope pos) 0 (.ref it) (.ref D) (compEnvC scope (cellsFrom (s3.heap.objs.size + 1) scope.names (cloFrom X.env.cells scope.names [])) s3.heap.objs.size X.env)) (compPost (model X.prog X.w) X.A X.xe use Qf (.ref D) s3.heap.objs.size) { s3 with heap := pushCells (s3.heap.push { cls := .type "dict", data := .dict #[] }) scope.names }
  rw [← hcl]
  have nfp : ∀ b ∈ fp, (upd H2 D (.dT [])) b = none := fun b hb => (f3 b hb).1.1
  generalize hce : compEnvC scope cl s3.heap.objs.size X.env = ce at I4 pg pt pk pe ⊢
  have cL : ce.locals = s3.heap.objs.size := by subst hce; rfl
  generalize hH3 : upd H2 D (.dT []) = H3 at I3 I4 pg pt pk pe w0 nfp f3
  generalize hs4 : ({ s3 with heap := pushCells (s3.heap.push { cls := .type "dict", data := .dict #[] }) scope.names } : Shared) = s4 at I4 ⊢
  have st4 : tn 0 s4.heap := T.keep _ _ _ st3 fun b _ o e => by rw [← hs4]; exact pushCells_keeps _ _ _ _ (Heap.get?_push_of_some _ e)
  have stat : ∀ {σ' : L2.St} {H' : Hp} {s' : Shared}, Inv (X.blk s3 H3 scope ce fp) [] σ' H' s' → (∀ b ∈ fp, H' b = none) → ∀ b ∈ fp, FpOk (X.blk s3 H3 scope ce fp) [] H' b := fun {σ' H' s'} I' hn b hb =>
    ⟨hn b hb, (I'.ok.exf b hb).1, I'.ok.exfs b hb, .inl hb, fun x c e => (I'.ok.exf b hb).2 x c e, fun p hp => absurd (show p ∈ ([] : List (Addr × Obj)) ++ [] from hp) (by simp)⟩
  have loop : codeAny (model X.prog X.w) X.A (.compLoop (.DictComp kx vx [⟨tg, iter, ifs, 0⟩] scope pos) 0 (.ref it) (.ref D) ce) (compPost (model X.prog X.w) X.A X.xe use Qf (.ref D) s3.heap.objs.size) s4 := by
    refine compLoop_anyD (fun n s' => ∃ i H', Inv (X.blk s3 H3 scope ce fp) [] (wipe σ (own.map (·.2))) H' s' ∧ tn i s'.heap ∧ (∀ b ∈ fp, H' b = none) ∧ W i n H') ?_ m0 ⟨0, H3, I4, st4, nfp, w0⟩
    rintro n s5 ⟨i, H5, I5, st5, n5, w5⟩
    rcases turn i n H5 w5 with ⟨stop, qq⟩ | ⟨go, Nx, hNx, step⟩
    · refine thnF (T.done (X.blk s3 H3 scope ce fp) rfl rfl rfl calm i [] s5 _ H5 (fun _ _ => False) I5 (stat I5 n5) st5 stop) fun r s6 ⟨hr, I6⟩ => ?_
      subst hr
      have I7 : Inv X pins σ H5 s6 := I3.call' (ch := fp) I6.os I6.base I6.hok I6.bare fun b hb => ⟨(f3 b hb).1.2.2.2.1, (f3 b hb).1.2.1, (f3 b hb).1.2.2.2.2.1, (f3 b hb).1.2.2.2.2.2⟩
      have nC : H5 s3.heap.objs.size = none := by
        have z : H5 ce.locals = none := I6.free
        rwa [cL] at z
      obtain ⟨m, hn, _⟩ := I6.loc
      have hn : s6.heap.Ns ce.locals m := hn
      rw [cL] at hn
      exact fin D s3.heap.objs.size s6 m H5 I7 qq hn (I3.fpOk (Nat.le_refl _) nC)
    · refine thnF (T.item (X.blk s3 H3 scope ce fp) rfl rfl rfl calm i [] s5 _ H5 (fun _ _ => False) I5 (stat I5 n5) st5 go) fun r s6 ⟨u, hr, h6⟩ => ?_
      subst hr
      refine thnF h6 fun _ s7 ⟨x, H7, I7, r7, y7, st7, n7⟩ => ?_
      have I7' := I7.pinned (stat I7 n7) (T.obj _ _ st7)
      refine thnF (pg.run _ s7 _ H7 x u _ I7' r7 (step x H7 y7)) fun _ s8 ⟨σ8, H8, I8, hw8, q8⟩ => ?_
      refine thnF (pt.run _ s8 σ8 H8 _ I8 q8) fun b s9 ⟨H9, I9, q9⟩ => ?_
      have next : ∀ {s' : Shared} {H' : Hp}, Inv (X.blk s3 H3 scope ce fp) ([] ++ pinsAt fp s7.heap) σ8 H' s' → Nx H' → ∃ m, m < n ∧ ∃ i H', Inv (X.blk s3 H3 scope ce fp) [] (wipe σ (own.map (·.2))) H' s' ∧ tn i s'.heap ∧ (∀ b ∈ fp, H' b = none) ∧ W i m H' := fun {s' H'} I' nx => by
        obtain ⟨m', hm, w'⟩ := hNx H' nx
        have pin' : ∀ b ∈ fp, ∀ o, s7.heap.get? b = some o → s'.heap.get? b = some o ∧ H' b = none := fun b hb o e =>
          let z := I'.pin (b, o) (List.mem_append_right _ (List.mem_append_right _ (mem_pinsAt hb e)))
          ⟨z.1, z.2.1⟩
        have hl : (wipe σ (own.map (·.2))).length = σ8.length := by rw [← hw8, wipe_length]
        refine ⟨m', hm, i + 1, H', (I'.unpinned (pins := [])).weak hl (fun j v e => (wipe_some (by rw [hw8]; exact e)).1), T.keep _ _ _ st7 fun b hb o e => (pin' b hb o e).1, fun b hb => ?_, w'⟩
        obtain ⟨o, e, _⟩ := T.obj _ _ st7 b hb
        exact (pin' b hb o e).2
      cases b with
      | false =>
        simp only [Bool.false_eq_true, if_false] at q9 ⊢
        exact next I9 q9
      | true =>
        simp only [if_true] at q9 ⊢
        refine thnF (pk.run _ s9 σ8 H9 _ I9 q9) fun z s10 ⟨yk, H10, I10, r10, q10⟩ => ?_
        refine thnF (pe.run _ s10 σ8 H10 _ I10 q10) fun z2 s11 ⟨yv, H11, I11, r11, kvs, k, qa, ek, hq, hD11, hz11, nx⟩ => ?_
        subst ek
        cases (show z = Value.ref qa from r10)
        exact set_dT (X := X.blk s3 H3 scope ce fp) hu I11 hD11 hz11 hq r11 fun s12 I12 => next I12 nx
  exact codeAny_compStart_dict loop (T.self X.A 0 _ _ _ st4 loop)
theorem pe_kc {kx vx tg iter : Expr} {ifs : List Expr} {scope : Scope} {own : List (PySem.Str × Nat)} {pos : Pos} {wi : TI} {g : TG} {tt : TT} {tk tv : TE} (calm : X.calm = true) (hu : X.A.units + 1 < cLine) (hN : X.N.Nodup) (hi : PI X tg iter wi) (ok : BlkOk X.N X.env.scope scope own)
    (hg : ∀ (s : Shared) (H : Hp) (C : Addr) (cl : List (PySem.Str × Addr)) (fp : List Addr), PG (X.blk s H scope (compEnvC scope cl C X.env) fp) tg g)
    (ht : ∀ (s : Shared) (H : Hp) (C : Addr) (cl : List (PySem.Str × Addr)) (fp : List Addr), PTs (X.blk s H scope (compEnvC scope cl C X.env) fp) ifs tt)
    (hk : ∀ (s : Shared) (H : Hp) (C : Addr) (cl : List (PySem.Str × Addr)) (fp : List Addr), PE (X.blk s H scope (compEnvC scope cl C X.env) fp) kx tk)
    (he : ∀ (s : Shared) (H : Hp) (C : Addr) (cl : List (PySem.Str × Addr)) (fp : List Addr), PE (X.blk s H scope (compEnvC scope cl C X.env) fp) vx tv) (hs : ∀ x, foldedSetIterable iter X.env x = pure x) :
    PE X (.DictComp kx vx [⟨tg, iter, ifs, 0⟩] scope pos) (tKc wi g tt tk tv (own.map (·.2))) := by
  refine ⟨fun pins s σ H Q I q => ?_⟩
  rw [arm_eval_DictComp]
  refine kc_core calm hu hN I hi ok hg ht hk he hs q fun D C s' m H' I' q hn f => ⟨m, hn, fun h'' sb => ?_⟩
  obtain ⟨f0, f1, f2, f3, f4, f5⟩ := f
  exact ⟨.ref D, H', I'.turned (t' := s'.toks) (fun b o hb e => (sb.2 b hb).trans e) f0 f1 f3 f4 f5, rfl, q⟩
end

section
variable {X : Cx}
theorem ps_setKc {i : Nat} {y : Str} {py : Pos} {kx vx tg iter : Expr} {ifs : List Expr} {scope : Scope} {own : List (Str × Nat)} {pos spos : Pos} {wi : TI} {g : TG} {tt : TT} {tk tv : TE} (calm : X.calm = true) (hu : X.A.units + 1 < cLine) (hN : X.N.Nodup) (hy : X.N[i]? = some y) (hyl : X.env.scope.names.lookup y = some .local)
    (hsw : swapsWith (.DictComp kx vx [⟨tg, iter, ifs, 0⟩] scope pos) (some (.Name y py)) spos.line X.env = pure true) (hi : PI X tg iter wi) (ok : BlkOk X.N X.env.scope scope own)
    (hg : ∀ (s : Shared) (H : Hp) (C : Addr) (cl : List (Str × Addr)) (fp : List Addr), PG (X.blk s H scope (compEnvC scope cl C X.env) fp) tg g)
    (ht : ∀ (s : Shared) (H : Hp) (C : Addr) (cl : List (Str × Addr)) (fp : List Addr), PTs (X.blk s H scope (compEnvC scope cl C X.env) fp) ifs tt)
    (hk : ∀ (s : Shared) (H : Hp) (C : Addr) (cl : List (Str × Addr)) (fp : List Addr), PE (X.blk s H scope (compEnvC scope cl C X.env) fp) kx tk)
    (he : ∀ (s : Shared) (H : Hp) (C : Addr) (cl : List (Str × Addr)) (fp : List Addr), PE (X.blk s H scope (compEnvC scope cl C X.env) fp) vx tv) (hs : ∀ x, foldedSetIterable iter X.env x = pure x) :
    PS X (.Assign [.Name y py] (.DictComp kx vx [⟨tg, iter, ifs, 0⟩] scope pos) spos) (tAsg (tKc wi g tt tk tv (own.map (·.2))) (gName i)) := by
  refine ⟨fun pins s σ H D I q => ?_⟩
  have q : tKc wi g tt tk tv (own.map (·.2)) σ H (fun x H1 => gName i x σ H1 D.nx) := q
  rw [exec_Assign_Name_used _ _ _ _ hsw]
  refine wpAny_bind (wpAny_standAt (wpAny_bind ?_))
  show wpAny _ X.A (do let _ ← comprehension (.DictComp kx vx [⟨tg, iter, ifs, 0⟩] scope pos) scope X.env (firstIterPos [⟨tg, iter, ifs, 0⟩] pos) newDict false (eval iter X.env) (some (assign (.Name y py) X.env))) _ _ s
  refine wpAny_bind (thn (kc_core (Qf := fun _ s' => SP X pins D .next s') calm hu hN I hi ok hg ht hk he hs q fun L C s' m H' I' qq hn f => ?_) fun _ s' hq => wpAny_pure (wpAny_pure hq))
  show wpAny _ _ (assign (.Name y py) X.env (.ref L)) _ _ _
  refine wpAny_assign_Name (store_ok2 (v := V.ref L) I' hN hy (.inl hyl) rfl (fun s2 I2 ⟨a, sb, ha⟩ => ?_) (.inr hyl))
  obtain ⟨f0, f1, f2, f3, f4, f5⟩ := f
  have ne : C ≠ a := ha.elim (fun z => by rw [z]; exact f1) fun z e => f4 y a z e.symm
  exact ⟨m, hn.sameBut sb ne, fun h3 sb3 => ⟨_, H', I2.turned (t' := s2.toks) (fun b o hb e => (sb3.2 b hb).trans e) f0 f1 f3 f4 f5, qq⟩⟩
end
/-! ### as denotations -/
def kloop (src : Src) (gt : GDen) (tt : SEnv → Cells → Out Bool) (gk gv : EDen) (sl : SEnv) (n0 : Nat) : Nat → Cells → Option Cells
  | 0, ce => match src.items ce with
    | some xs => if xs.length = src.n then some ce else none
    | none => none
  | m + 1, ce => match src.items ce with
    | some xs => if xs.length = src.n then (match xs[src.n - (m + 1)]? with
      | some d => match gt d sl with
        | some sl1 => match tt sl1 ce with
          | .ok true ce1 => match gk sl1 ce1 with
            | .ok y ce2 => match gv sl1 ce2 with
              | .ok z ce3 => if isCel z = true then none else match keyTD y with
                | some k => match ce3[n0]? with
                  | some (.dt ks xs) => if ks.length < 1000000 then kloop src gt tt gk gv sl n0 m (ce3.set n0 (.dt (putKs ks k) (putDs ks xs k z))) else none
                  | _ => none
                | none => none
              | _ => none
            | _ => none
          | .ok false ce1 => kloop src gt tt gk gv sl n0 m ce1
          | _ => none
        | none => none
      | none => none) else none
    | none => none
/-- the dict that a comprehension makes, as a tree -/
def eKComp (gi : SEnv → Cells → Out Src) (us : List Nat) (gt : GDen) (tt : SEnv → Cells → Out Bool) (gk gv : EDen) : EDen := fun sl ce => (gi sl ce).bind fun src ce1 =>
  match kloop src gt tt gk gv (wipeD sl us) ce1.length src.n (ce1 ++ [.dt [] []]) with
  | some ce2 => match ce2[ce1.length]? with
    | some (.dt ks xs) => .ok (.dt ks xs) (ce2.take ce1.length)
    | _ => .bad
  | none => .bad
section
variable {X : Cx} {W : WX} {kx vx tg iter : Expr} {ifs : List Expr} {scope : Scope} {own : List (Str × Nat)} {pos : Pos} {gi : SEnv → Cells → Out Src} {gt : GDen} {us : List Nat} {tt : SEnv → Cells → Out Bool} {gk gv : EDen}
theorem kcomp_t {c : Cfg} {τ1 O1 : List Addr} {ce1 : Cells} {H1 : Hp} {src : Src} {J : It} {sl : SEnv} {σ : L2.St} {ce' : Cells} {D : Addr} {Qd : Hp → Prop} (w1 : WFh c τ1 O1 ce1 H1) (s1 : SRep c τ1 O1 H1 sl σ) (hJ : SrcOk c src J τ1 O1 H1) (hD : H1 D = none)
    (hrun : kloop src gt tt gk gv (wipeD sl us) ce1.length src.n (ce1 ++ [.dt [] []]) = some ce')
    (hd : ∀ τ O H, Ext (τ1 ++ [D]) (D :: O1) (upd H1 D (.dT [])) τ O H → WFh c τ O ce' H → Qd H) :
    ∃ Wv : Nat → Nat → Hp → Prop, (∃ m, Wv 0 m (upd H1 D (.dT []))) ∧ ∀ i m H, Wv i m H →
      (J.stop i H ∧ Qd H) ∨ (J.go i H ∧ ∃ Nx : Hp → Prop, (∀ H', Nx H' → ∃ m', m' < m ∧ Wv (i + 1) m' H') ∧ ∀ x H', J.yld i H x H' → tG c us gt x (wipe σ us) H' fun σ2 H2 => wipe σ2 us = wipe σ us ∧ tT c W0 tt σ2 H2 fun b H3 =>
        if b = true then tE c W0 gk σ2 H3 fun y H4 => tE c W0 gv σ2 H4 fun z H5 => ∃ (kvs : List (List Key × V)) (k : List Key) (q : Addr), y = .ref q ∧ H5 q = some (.tup (k.map kV)) ∧ H5 D = some (.dT kvs) ∧ kvs.length < sizeLine ∧ Nx (upd H5 D (.dT (putK kvs k z))) else Nx H3) := by
  have e0 : Ext τ1 O1 H1 (τ1 ++ [D]) (D :: O1) (upd H1 D (.dT [])) := .cell hD
  have w0 : WFh c (τ1 ++ [D]) (D :: O1) (ce1 ++ [.dt [] []]) (upd H1 D (.dT [])) := w1.push hD ⟨List.mem_cons_self, [], upd_same, rfl, fun k hk => (by cases hk), repTs_nil.mpr rfl⟩
  have hDk : (τ1 ++ [D])[ce1.length]? = some D := by rw [← w1.len, List.getElem?_append_right (Nat.le_refl _)]; simp
  refine ⟨fun i m H => ∃ τ O ce, m = src.n - i ∧ i ≤ src.n ∧ Ext (τ1 ++ [D]) (D :: O1) (upd H1 D (.dT [])) τ O H ∧ WFh c τ O ce H ∧ kloop src gt tt gk gv (wipeD sl us) ce1.length m ce = some ce',
    ⟨src.n, τ1 ++ [D], D :: O1, _, rfl, Nat.zero_le _, .refl, w0, hrun⟩, ?_⟩
  rintro i m H2 ⟨τ2, O2, ce2, rfl, hi, e2, w2, h2⟩
  by_cases hlt : i < src.n
  · obtain ⟨m, hm⟩ : ∃ m, src.n - i = m + 1 := ⟨src.n - i - 1, by omega⟩
    rw [hm] at h2 ⊢
    have hix : src.n - (m + 1) = i := by omega
    unfold kloop at h2
    split at h2
    · rename_i xs hxs
      split at h2
      · rename_i hl
        obtain ⟨k1, k2, k3⟩ := hJ τ2 O2 ce2 H2 xs (e0.trans e2) w2 hxs hl
        rw [hix] at h2
        split at h2
        · rename_i d hd'
          split at h2
          · rename_i sl3 hsl
            refine .inr ⟨k1 i hlt, fun H' => ∃ τ O ce, Ext (τ1 ++ [D]) (D :: O1) (upd H1 D (.dT [])) τ O H' ∧ WFh c τ O ce H' ∧ kloop src gt tt gk gv (wipeD sl us) ce1.length m ce = some ce', ?_, fun x H' y => ?_⟩
            · rintro H' ⟨τ', O', ce', q1, q2, q3⟩
              exact ⟨m, by omega, τ', O', ce', by omega, by omega, q1, q2, q3⟩
            · obtain ⟨d', hd2, sm, rd⟩ := k3 i x H' hlt y
              rw [hd'] at hd2
              cases hd2
              have ex : Ext τ2 O2 H2 τ2 O2 H' := .same sm
              refine ⟨τ2, O2, wipeD sl us, d, sl3, (s1.ext ((e0.trans e2).trans ex)).wipe us, rd, hsl, fun σ2 s' hw => ⟨hw.trans wipe_wipe, ?_⟩⟩
              have w2' := w2.same sm
              refine ⟨τ2, O2, sl3, ce2, w2', s', ?_⟩
              split at h2
              · rename_i ce3 htt
                refine notex ⟨true, ce3, htt, fun τ3 O3 H3 e3 w3 => L2.iteT ?_⟩
                split at h2
                · rename_i yd ce4 hge
                  refine ⟨τ3, O3, sl3, ce3, w3, s'.ext e3, notex ⟨yd, ce4, hge, fun τ4 O4 H4 e4 w4 v r => ?_⟩⟩
                  split at h2
                  · rename_i zd ce5 hgv
                    refine ⟨τ4, O4, sl3, ce4, w4, (s'.ext e3).ext e4, notex ⟨zd, ce5, hgv, fun τ5 O5 H5 e5 w5 u ru => ?_⟩⟩
                    split at h2
                    · cases h2
                    · rename_i hz
                      split at h2
                      · rename_i k hk
                        have rz : RepT c O5 H5 zd u := by
                          cases zd with
                          | cel j => exact absurd rfl hz
                          | _ => exact ru
                        have rt : RepT c O4 H4 yd v := by
                          cases yd with
                          | cel j => cases hk
                          | _ => exact r
                        obtain ⟨qa, rfl, qO, hq, okk⟩ := keyTD_rep hk (rt.ext e5)
                        split at h2
                        · rename_i ks zs hS
                          split at h2
                          · rename_i hlen
                            have e6 := (((e2.trans ex).trans e3).trans e4).trans e5
                            have hD4 : τ5[ce1.length]? = some D := e6.pre _ _ hDk
                            obtain ⟨hO, us', hv, hln, okS, rus⟩ := w5.cell _ _ _ hD4 hS
                            obtain ⟨ws, p1, p2, p3⟩ := put_rep (k := k) rus hln rz
                            refine ⟨_, k, qa, rfl, hq, hv, (by rw [List.length_zip, ← hln, Nat.min_self]; exact Nat.lt_of_lt_of_le hlen sz1), ?_⟩
                            rw [p1]
                            have em : Ext τ5 O5 H5 τ5 O5 (upd H5 D (.dT ((putKs ks k).zip ws))) := .mut hO
                            exact ⟨τ5, O5, _, e6.trans em, w5.set hD4 hO (show CellOk c O5 _ D (.dt (putKs ks k) (putDs ks zs k zd)) from ⟨hO, ws, upd_same, p2, okKs_put okS okk, p3.ext em⟩), h2⟩
                          · cases h2
                        · cases h2
                      · cases h2
                  · cases h2
                · cases h2
              · rename_i ce3 htt
                refine notex ⟨false, ce3, htt, fun τ3 O3 H3 e3 w3 => L2.iteF ?_⟩
                exact ⟨τ3, O3, ce3, (e2.trans ex).trans e3, w3, h2⟩
              · cases h2
          · cases h2
        · cases h2
      · cases h2
    · cases h2
  · have e : i = src.n := by omega
    subst e
    rw [Nat.sub_self] at h2
    unfold kloop at h2
    split at h2
    · rename_i xs hxs
      split at h2
      · rename_i hl
        obtain ⟨k1, k2, k3⟩ := hJ τ2 O2 ce2 H2 xs (e0.trans e2) w2 hxs hl
        cases h2
        exact .inl ⟨k2, hd τ2 O2 H2 e2 w2⟩
      · cases h2
    · cases h2
theorem kcomp_end {c : Cfg} {τ1 O1 : List Addr} {ce1 : Cells} {H1 : Hp} {D : Addr} {τ O : List Addr} {H : Hp} {ce' : Cells} {ks : List (List Key)} {xs : List Ib.D} (w1 : WFh c τ1 O1 ce1 H1) (hD : H1 D = none) (e : Ext (τ1 ++ [D]) (D :: O1) (upd H1 D (.dT [])) τ O H) (w : WFh c τ O ce' H) (hx : ce'[ce1.length]? = some (.dt ks xs)) :
    ∃ O', Ext τ1 O1 H1 (τ.take ce1.length) O' H ∧ WFh c (τ.take ce1.length) O' (ce'.take ce1.length) H ∧ RepT c O' H (.dt ks xs) (.ref D) := by
  have hDk : (τ1 ++ [D])[ce1.length]? = some D := by rw [← w1.len, List.getElem?_append_right (Nat.le_refl _)]; simp
  have hDt : τ[ce1.length]? = some D := e.pre _ _ hDk
  obtain ⟨hO, us, hv, hln, okS, rus⟩ := w.cell _ _ _ hDt hx
  have e0 : Ext τ1 O1 H1 (τ1 ++ [D]) (D :: O1) (upd H1 D (.dT [])) := .cell hD
  have e1 := e0.trans e
  have pre : ∀ (k : Nat) a, τ1[k]? = some a → (τ.take ce1.length)[k]? = some a := fun k a h => by
    have hk : k < ce1.length := by rw [← w1.len]; exact (List.getElem?_eq_some_iff.mp h).1
    rw [List.getElem?_take_of_lt hk]
    exact e1.pre k a h
  obtain ⟨O', wc, sub, keepO, out⟩ := w.cut ce1.length
  have hDd : D ∈ τ.drop ce1.length := by
    refine List.mem_of_getElem? (i := 0) ?_
    rw [List.getElem?_drop]; exact hDt
  exact ⟨O', ⟨e1.heap, pre, fun a h => e1.avoid a (sub a h)⟩, wc, repT_dt.mpr ⟨D, us, rfl, fun z => out D z hDd, .inl hv, hln, okS, rus.ext (.fewer (τ := []) sub)⟩⟩
theorem je_kcomp (hc : X.calm = true) (hu : X.A.units + 1 < cLine) (hN : X.N.Nodup) (hi : JI X W tg iter gi) (ok : BlkOk X.N X.env.scope scope own) (hus : us = own.map (·.2))
    (hg : ∀ (s : Shared) (H : Hp) (C : Addr) (cl : List (Str × Addr)) (fp : List Addr), JG (X.blk s H scope (compEnvC scope cl C X.env) fp) tg us gt)
    (ht : ∀ (s : Shared) (H : Hp) (C : Addr) (cl : List (Str × Addr)) (fp : List Addr), JTs (X.blk s H scope (compEnvC scope cl C X.env) fp) W0 ifs tt)
    (hk : ∀ (s : Shared) (H : Hp) (C : Addr) (cl : List (Str × Addr)) (fp : List Addr), JE (X.blk s H scope (compEnvC scope cl C X.env) fp) W0 kx gk)
    (he : ∀ (s : Shared) (H : Hp) (C : Addr) (cl : List (Str × Addr)) (fp : List Addr), JE (X.blk s H scope (compEnvC scope cl C X.env) fp) W0 vx gv)
    (hs : ∀ x, foldedSetIterable iter X.env x = pure x) : JE X W (.DictComp kx vx [⟨tg, iter, ifs, 0⟩] scope pos) (eKComp gi us gt tt gk gv) := by
  refine PE.weak (pe_kc (wi := tI (cfg X) W gi) (g := tG (cfg X) us gt) (tt := tT (cfg X) W0 tt) (tk := tE (cfg X) W0 gk) (tv := tE (cfg X) W0 gv) hc hu hN hi ok hg ht hk he hs) fun σ H Q h => ?_
  obtain ⟨τ, O, sl, ce, w, s, h⟩ := h
  subst hus
  refine ⟨τ, O, sl, ce, w, s, (PostG.bind h).mono fun τ1 O1 ce1 H1 src e1 w1 h1 J hJ D hD => ?_⟩
  split at h1
  · rename_i ce2 hrun
    split at h1
    · rename_i ks xs hx
      refine kcomp_t (c := cfg X) w1 (s.ext e1) hJ hD hrun fun τ' O' H' e' w' => ?_
      obtain ⟨O2, e2, w2, r2⟩ := kcomp_end w1 hD e' w' hx
      exact h1 _ _ _ e2 w2 _ r2.rep
    · exact h1.elim
  · exact h1.elim
theorem sw_trueK {gs : List Comprehension} {py : Pos} {y : Str} {l : Nat} {env : Env} (hk : env.scope.kind = .function) (hy : env.scope.names.lookup y = some .local) (hl : (py.line == pos.line) = true)
    (h : (scope.names.any fun (n, k) => n == y && (k == .local || k == .cell)) = false) : swapsWith (.DictComp kx vx gs scope pos) (some (.Name y py)) l env = pure true := by
  have k1 : env.kindOf y = some .local := hy
  have k2 : env.blockKind = .function := by unfold Env.blockKind; rw [hk]; rfl
  unfold swapsWith
  simp only [k2, k1, h, Expr.pos, hl]
  rfl
theorem js_setKComp (i : Nat) {y : Str} {py spos : Pos} (hc : X.calm = true) (hu : X.A.units + 1 < cLine) (hN : X.N.Nodup) (hy : X.N[i]? = some y) (hyl : X.env.scope.names.lookup y = some .local)
    (hsw : swapsWith (.DictComp kx vx [⟨tg, iter, ifs, 0⟩] scope pos) (some (.Name y py)) spos.line X.env = pure true) (hi : JI X W tg iter gi) (ok : BlkOk X.N X.env.scope scope own) (hus : us = own.map (·.2))
    (hg : ∀ (s : Shared) (H : Hp) (C : Addr) (cl : List (Str × Addr)) (fp : List Addr), JG (X.blk s H scope (compEnvC scope cl C X.env) fp) tg us gt)
    (ht : ∀ (s : Shared) (H : Hp) (C : Addr) (cl : List (Str × Addr)) (fp : List Addr), JTs (X.blk s H scope (compEnvC scope cl C X.env) fp) W0 ifs tt)
    (hk : ∀ (s : Shared) (H : Hp) (C : Addr) (cl : List (Str × Addr)) (fp : List Addr), JE (X.blk s H scope (compEnvC scope cl C X.env) fp) W0 kx gk)
    (he : ∀ (s : Shared) (H : Hp) (C : Addr) (cl : List (Str × Addr)) (fp : List Addr), JE (X.blk s H scope (compEnvC scope cl C X.env) fp) W0 vx gv)
    (hs : ∀ x, foldedSetIterable iter X.env x = pure x) : JS X W (.Assign [.Name y py] (.DictComp kx vx [⟨tg, iter, ifs, 0⟩] scope pos) spos) (sSet i (eKComp gi us gt tt gk gv)) := by
  refine PS.weak (ps_setKc (wi := tI (cfg X) W gi) (g := tG (cfg X) us gt) (tt := tT (cfg X) W0 tt) (tk := tE (cfg X) W0 gk) (tv := tE (cfg X) W0 gv) hc hu hN hy hyl hsw hi ok hg ht hk he hs) fun D σ H h => ?_
  obtain ⟨τ, O, sl, ce, w, s, h⟩ := h
  subst hus
  refine ⟨τ, O, sl, ce, w, s, (PostG.bind (PostS.st s h)).mono fun τ1 O1 ce1 H1 src e1 w1 h1 J hJ Dd hD => ?_⟩
  split at h1
  · rename_i ce2 hrun
    split at h1
    · rename_i ks xs hx
      refine kcomp_t (c := cfg X) w1 (s.ext e1) hJ hD hrun fun τ' O' H' e' w' => ?_
      obtain ⟨O2, e2, w2, r2⟩ := kcomp_end w1 hD e' w' hx
      have := h1 _ _ _ e2 w2
      exact this _ _ _ _ .refl w2 (((s.ext e1).ext e2).set i r2.rep)
    · exact h1.elim
  · exact h1.elim
end
/-! xs[::-1] -/
def dRev : D → Option D
  | .lst xs => some (.lst xs.reverse)
  | _ => none
theorem RepTs.rev {c : Cfg} {O : List Addr} {H : Hp} : ∀ {ds : List D} {vs : List V}, RepTs c O H ds vs → RepTs c O H ds.reverse vs.reverse
  | [], _, h => by rw [repTs_nil.mp h]; exact repTs_nil.mpr rfl
  | d :: ds, _, h => by
    obtain ⟨v, r, rfl, h1, h2⟩ := repTs_cons.mp h
    rw [List.reverse_cons, List.reverse_cons]
    exact (RepTs.rev h2).append (RepTs.one h1)
theorem je_revL {X : Cx} {W : WX} {e : Expr} {ge : EDen} {k : Nat} {p1 p2 p3 pos : Pos} (he : JE X W e ge) : JE X W (.Subscript e (.Slice none none (some (.UnaryOp .USub (.Constant (.int 1) k p1) p2)) p3) pos) (eUn dRev ge) := by
  refine PE.weak (pe_revL he) fun σ H Q h => ?_
  obtain ⟨τ, O, sl, ce, w, s, h⟩ := h
  refine ⟨τ, O, sl, ce, w, s, (PostG.bind h).mono fun τ1 O1 ce1 H1 d e1 w1 h1 v r => ?_⟩
  obtain ⟨d', ed, q⟩ := post_lift w1 h1
  have rv := r.view w1
  unfold dRev at ed
  split at ed
  · rename_i xs hx
    cases ed
    rw [hx] at rv
    obtain ⟨p, vs, rfl, h2, h3⟩ := rv.lst
    exact ⟨p, vs, rfl, h2, fun p2 hp => q _ _ (same_upd hp) (new_lst w1.trk hp h3.rev)⟩
  · cases ed
end Ib

set_option Elab.async false
set_option linter.all false
set_option maxRecDepth 100000
set_option maxHeartbeats 2000000
/-! The J layer, part Ds: displays of several entries, keys ints or texts. -/
namespace Ib
open PySem PySem.Spec PyProof.Rows L2
def evPrs : List (EDen × EDen) → SEnv → Cells → Out (List (D × D))
  | [], _, ce => .ok [] ce
  | (gk, gv) :: r, sl, ce => (gk sl ce).bind fun k ce1 => (gv sl ce1).bind fun v ce2 => (evPrs r sl ce2).bind fun ps ce3 => .ok ((k, v) :: ps) ce3
/-- keys and values, each a tree -/
def prsK : List (D × D) → Option (List (Key × D))
  | [] => some []
  | (k, v) :: r => match keyD k, isCel v with
    | some key, false => (prsK r).map ((key, v) :: ·)
    | _, _ => none
def putsK (ks : List Key) (xs : List D) : List (Key × D) → List Key × List D
  | [] => (ks, xs)
  | (k, d) :: r => putsK (putKs ks k) (putDs ks xs k d) r
def eDispL (ps : List (EDen × EDen)) : EDen := fun sl ce => (evPrs ps sl (ce ++ [.dk [] []])).bind fun kvs ce1 => match prsK kvs, ce1[ce.length]? with
  | some kds, some (.dk [] []) => if kds.length ≤ 15 then .ok (.cel ce.length) (ce1.set ce.length (.dk (putsK [] [] kds).1 (putsK [] [] kds).2)) else .bad
  | _, _ => .bad
def RepPs (c : Cfg) (τ O : List Addr) (H : Hp) : List (D × D) → List (V × V) → Prop
  | [], vs => vs = []
  | (k, v) :: r, vs => ∃ x y t, vs = (x, y) :: t ∧ Rep c τ O H k x ∧ Rep c τ O H v y ∧ RepPs c τ O H r t
section
variable {c : Cfg} {τ τ' O O' : List Addr} {H H' : Hp}
theorem RepPs.ext (e : Ext τ O H τ' O' H') : ∀ {ps : List (D × D)} {vs : List (V × V)}, RepPs c τ O H ps vs → RepPs c τ' O' H' ps vs
  | [], _, h => h
  | (k, v) :: r, _, h => by
    obtain ⟨x, y, t, rfl, h1, h2, h3⟩ := h
    exact ⟨x, y, t, rfl, h1.ext e, h2.ext e, RepPs.ext e h3⟩
theorem prsK_rep : ∀ {ps : List (D × D)} {vs : List (V × V)} {kds : List (Key × D)}, prsK ps = some kds → RepPs c τ O H ps vs → ∃ us : List V, vs = (((kds.map (·.1)).zip us).map fun kv => (kV kv.1, kv.2)) ∧ kds.length = us.length ∧ RepTs c O H (kds.map (·.2)) us
  | [], _, _, e, h => by cases e; exact ⟨[], h, rfl, repTs_nil.mpr rfl⟩
  | (k, v) :: r, _, kds, e, h => by
    obtain ⟨x, y, t, rfl, h1, h2, h3⟩ := h
    unfold prsK at e
    split at e
    · rename_i key hk hv
      cases q : prsK r with
      | none => rw [q] at e; cases e
      | some kr =>
        rw [q] at e
        cases e
        obtain ⟨us, rfl, e2, e3⟩ := prsK_rep q h3
        have r1 : x = kV key := by
          cases k with
          | int i => cases hk; exact (repT_int (c := c) (O := O) (H := H)).mp h1
          | str s => cases hk; exact ((repT_str (c := c) (O := O) (H := H)).mp h1).1
          | _ => cases hk
        have r2 : RepT c O H v y := by
          cases v with
          | cel j => cases hv
          | _ => exact h2
        subst r1
        exact ⟨y :: us, rfl, by simp [e2], repTs_cons.mpr ⟨_, _, rfl, r2, e3⟩⟩
    · cases e
theorem puts_rep : ∀ {kds : List (Key × D)} {us : List V} {ks : List Key} {xs : List D} {vs : List V}, RepTs c O H xs vs → ks.length = vs.length → kds.length = us.length → RepTs c O H (kds.map (·.2)) us →
    ∃ ws, mergeK (ks.zip vs) ((kds.map (·.1)).zip us) = (putsK ks xs kds).1.zip ws ∧ (putsK ks xs kds).1.length = ws.length ∧ RepTs c O H (putsK ks xs kds).2 ws
  | [], us, ks, xs, vs, r, hl, _, _ => ⟨vs, rfl, hl, r⟩
  | (k, d) :: kds, us, ks, xs, vs, r, hl, hl2, r2 => by
    obtain ⟨u, us', rfl, q1, q2⟩ := repTs_cons.mp r2
    obtain ⟨ws, p1, p2, p3⟩ := put_rep (k := k) r hl q1
    obtain ⟨ws2, s1, s2, s3⟩ := puts_rep (kds := kds) p3 p2 (by simpa using hl2) q2
    refine ⟨ws2, ?_, s2, s3⟩
    show mergeK (putK (ks.zip vs) k u) _ = _
    rw [p1]
    exact s1
end
def trsOf (c : Cfg) (W : WX) : List (EDen × EDen) → List (TE × TE)
  | [] => []
  | (gk, gv) :: r => (tE c W gk, tE c W gv) :: trsOf c W r
theorem prs_t {c : Cfg} {W : WX} : ∀ {ps : List (EDen × EDen)} {σ : L2.St} {H : Hp} {Q : List (V × V) → Hp → Prop},
    (∃ τ O sl ce, WFh c τ O ce H ∧ SRep c τ O H sl σ ∧ PostG c W τ O H σ (evPrs ps sl ce) fun τ' O' ce' H' kvs => ∀ vs, RepPs c τ' O' H' kvs vs → Q vs H') → tPairs (trsOf c W ps) σ H Q
  | [], σ, H, Q, ⟨τ, O, sl, ce, w, s, h⟩ => h τ O H .refl w [] rfl
  | (gk, gv) :: r, σ, H, Q, ⟨τ, O, sl, ce, w, s, h⟩ => by
    refine ⟨τ, O, sl, ce, w, s, (PostG.bind h).mono fun τ1 O1 ce1 H1 x e1 w1 h1 v rv => ?_⟩
    refine ⟨τ1, O1, sl, ce1, w1, s.ext e1, (PostG.bind h1).mono fun τ2 O2 ce2 H2 y e2 w2 h2 u ru => ?_⟩
    refine prs_t (ps := r) ⟨τ2, O2, sl, ce2, w2, (s.ext e1).ext e2, (PostG.bind h2).mono fun τ3 O3 ce3 H3 kvs e3 w3 h3 vs rvs => ?_⟩
    exact h3 τ3 O3 H3 .refl w3 _ ⟨v, u, vs, rfl, (rv.ext e2).ext e3, ru.ext e3, rvs⟩
section
variable {X : Cx} {W : WX} {pos : Pos}
theorem jps_nil : PPs X pos [] [] (trsOf (cfg X) W []) := pps_nil
theorem jps_cons {k v : Expr} {ks : List (Option Expr)} {vs : List Expr} {gk gv : EDen} {ps : List (EDen × EDen)} (hk : JE X W k gk) (hv : JE X W v gv) (hr : PPs X pos ks vs (trsOf (cfg X) W ps)) : PPs X pos (some k :: ks) (v :: vs) (trsOf (cfg X) W ((gk, gv) :: ps)) := pps_cons hk hv hr
theorem je_dispL {keys : List (Option Expr)} {values : List Expr} {ps : List (EDen × EDen)} (h : PPs X pos keys values (trsOf (cfg X) W ps)) (hall : keys.all (·.isSome) = true) (hl : keys.length = values.length) (h0 : keys ≠ []) (h15 : keys.length ≤ 15) (hps : ps.length = keys.length) : JE X W (.Dict keys values pos) (eDispL ps) := by
  refine PE.weak (pe_disp h hall hl h0 h15) fun σ H Q h p hp => ?_
  obtain ⟨τ, O, sl, ce, w, s, h⟩ := h
  have e0 : Ext τ O H (τ ++ [p]) (p :: O) (upd H p (.dK [])) := .cell hp
  have w0 : WFh (cfg X) (τ ++ [p]) (p :: O) (ce ++ [.dk [] []]) (upd H p (.dK [])) := w.push hp ⟨List.mem_cons_self, [], upd_same, rfl, repTs_nil.mpr rfl⟩
  refine prs_t ⟨τ ++ [p], p :: O, sl, ce ++ [.dk [] []], w0, s.ext e0, (PostG.bind (PostG.ext e0 h)).mono fun τ1 O1 ce1 H1 kvs e1 w1 h1 vs rv => ?_⟩
  have ht : τ1[ce.length]? = some p := e1.pre _ _ (cell_at w.len)
  cases q2 : prsK kvs with
  | none => simp only [q2] at h1; exact h1.elim
  | some kds =>
    cases q3 : ce1[ce.length]? with
    | none => simp only [q2, q3] at h1; exact h1.elim
    | some m =>
      simp only [q2, q3] at h1
      split at h1
      · rename_i hm1 hm2
        cases hm1
        cases hm2
        split at h1
        · rename_i h15'
          obtain ⟨hO, us, hH, hl2, rs⟩ := w1.cell _ p _ ht q3
          have hv0 : us = [] := repTs_nil.mp rs
          subst hv0
          obtain ⟨us, e1', e2, e3⟩ := prsK_rep q2 rv
          obtain ⟨ws, m1, m2, m3⟩ := puts_rep (ks := []) (xs := []) (vs := []) (repTs_nil.mpr rfl) rfl e2 e3
          refine ⟨hH, (kds.map (·.1)).zip us, e1', ?_, ?_⟩
          · rw [List.length_zip, List.length_map]; omega
          · have m1 : mergeK [] ((kds.map (·.1)).zip us) = (putsK [] [] kds).1.zip ws := m1
            rw [m1]
            have em : Ext τ1 O1 H1 τ1 O1 (upd H1 p (.dK ((putsK [] [] kds).1.zip ws))) := .mut hO
            exact h1 τ1 O1 _ em (w1.set ht hO (show CellOk (cfg X) O1 _ p (.dk (putsK [] [] kds).1 (putsK [] [] kds).2) from ⟨hO, ws, upd_same, m2, m3.ext em⟩)) _ ⟨p, ht, rfl⟩
        · exact h1.elim
      · exact h1.elim
end
end Ib

set_option Elab.async false
set_option linter.all false
set_option maxRecDepth 100000
set_option maxHeartbeats 4000000
/-! While an exception is handled: zip's end, list comprehensions. -/
namespace HotX
open PySem PySem.Spec PyProof.Rows
section
variable {prog : Program} {w : World} {A : Around} {E : Value → Shared → Prop} {s : Shared}
theorem HotAt.keeps {x1 : Addr} {h h' : Heap} (q : HotAt A x1 h) (k : ∀ o, h.get? x1 = some o → h'.get? x1 = some o) : HotAt A x1 h' := by
  obtain ⟨hh, o, vs, e1, e2, e3⟩ := q
  exact ⟨hh, o, vs, k o e1, e2, e3⟩
/-- the next item of a list that has none -/
theorem list_end_hot {x1 it l : Addr} {i : Nat} {items : Array Value} {Q : Value → Shared → Prop} (hot : HotAt A x1 s.heap) (n1 : x1 ≠ it) (hit : s.heap.IsListIter it l i) (hl : s.heap.IsList l items) (hx : items[i]? = none)
    (q : ∀ h' e, Heap.ExtBut it s.heap h' → (∃ o, h'.get? e = some o ∧ o.cls = .type "StopIteration") → E (.ref e) { s with heap := h' }) : wpAny (model prog w) A (Builtin.SmallTypes.nextOf (.ref it)) Q E s := by
  obtain ⟨o, ho, hc, hd⟩ := id hit
  obtain ⟨ol, hol, _, nl, hdl⟩ := hl
  obtain ⟨hh, o1, vs1, g1, d1, c1⟩ := hot
  unfold Builtin.SmallTypes.nextOf
  refine wpAny_bind (wpAny_callSpecial?_slot (name := Str.ofString "__next__") hit.typeIs slot_listiter_next (wpAny_call_entry slot_listiter_next hit.typeIs entry_listiter_next ?_ (args_listiter_next _)))
  show wpAny _ _ (field (.ref it) 0 >>= _) _ _ s
  refine wpAny_bind (wpAny_field ho hd (x := .ref l) rfl ?_)
  show wpAny _ _ (if (Value.ref l == Value.none) = true then _ else _) _ _ s
  rw [if_neg (show ¬ ((Value.ref l == Value.none) = true) from Bool.false_ne_true)]
  show wpAny _ _ (field (.ref it) 1 >>= _) _ _ s
  refine wpAny_bind (wpAny_field ho hd (x := .int i 0) rfl ?_)
  show wpAny _ _ (seqItems? (.ref l) >>= _) _ _ s
  refine wpAny_bind (wpAny_seqItems hol hdl ?_)
  simp only [Int.toNat_natCast, hx]
  refine wpAny_bind (wpAny_rule (wpAny_bind (wpAny_setField ho hd (by simp) ?_)))
  show wpAny _ _ (newExc (.type "StopIteration") [] >>= _) _ _ _
  refine wpAny_bind ?_
  simp only [newExc, newTuple]
  refine wpAny_bind (wpAny_newObj_type ?_ (by size_fits))
  refine wpAny_bind (m := firstArgMember _ _) (wpAny_of_eq (a := Value.none) (by first | rfl | (simp only [firstArgMember]; rfl)) ?_)
  refine wpAny_newObj_type ?_ (by size_fits)
  have sb := Heap.SameBut.update s.heap it (Obj.mapFields (·.setIfInBounds 0 .none))
  have g2 : (s.heap.update it (Obj.mapFields (·.setIfInBounds 0 .none))).get? x1 = some o1 := (Heap.get?_update_other _ _ (Ne.symm n1)).trans g1
  refine raiseNew_hot ⟨hh, o1, vs1, Heap.get?_push_of_some _ (Heap.get?_push_of_some _ g2), d1, c1⟩ (Nat.ne_of_lt (Heap.lt_size (Heap.get?_push_of_some _ g2))) (Heap.get?_push_size _ rfl) rfl (by first | (simp; done) | (simp; omega) | (simp only [Array.size_append]; simp; omega)) ?_
  refine q _ _ (fun b ob hb e => ?_) ⟨_, Heap.get?_update_self _ (Heap.get?_push_size _ rfl) rfl, rfl⟩
  have e2 : (s.heap.update it (Obj.mapFields (·.setIfInBounds 0 .none))).get? b = some ob := (Heap.get?_update_other _ _ (Ne.symm hb)).trans e
  rw [Heap.get?_update_other _ _ (Nat.ne_of_gt (Heap.lt_size (Heap.get?_push_of_some _ e2)))]
  exact Heap.get?_push_of_some _ (Heap.get?_push_of_some _ e2)
theorem zip_end_hot {x1 z TI TO i1 i2 l1 l2 : Addr} {k1 k2 : Nat} {xs ys : Array Value} {a b : Value} {Q : Fin → Shared → Prop} (hot : HotAt A x1 s.heap) (nz : x1 ≠ z) (nT : x1 ≠ TO) (n1 : x1 ≠ i1) (n2 : x1 ≠ i2) (D : ZipApart z TI TO i1 i2 l1 l2)
    (hz : IsZip s.heap z TI TO .none) (hTI : IsPair s.heap TI (.ref i1) (.ref i2)) (hTO : IsPair s.heap TO a b)
    (h1 : s.heap.IsListIter i1 l1 k1) (h2 : s.heap.IsListIter i2 l2 k2) (hl1 : s.heap.IsList l1 xs) (hl2 : s.heap.IsList l2 ys) (hend : xs[k1]? = none ∨ ys[k2]? = none)
    (q : ∀ h' e, (∀ c o, c ≠ z → c ≠ TO → c ≠ i1 → c ≠ i2 → s.heap.get? c = some o → h'.get? c = some o) → (∃ o, h'.get? e = some o ∧ o.cls = .type "StopIteration") → E (.ref e) { s with heap := h' }) :
    wpAny (model prog w) A (Builtin.«zip.__next__» ⟨[.ref z], []⟩) Q E s := by
  show wpAny _ _ (field (.ref z) 2 >>= _) _ _ _
  refine wpAny_bind (wpAny_field hz rfl (x := .bool false) rfl ?_)
  show wpAny _ _ (field (.ref z) 3 >>= _) _ _ _
  refine wpAny_bind (wpAny_field hz rfl (x := .ref TI) rfl ?_)
  refine wpAny_bind (wpAny_seqItems hTI rfl ?_)
  show wpAny _ _ (Builtin.SmallTypes.ownedTupleIsFree (.ref z) >>= _) _ _ _
  refine wpAny_bind ?_
  unfold Builtin.SmallTypes.ownedTupleIsFree
  refine wpAny_bind (wpAny_field hz rfl (x := .none) rfl (wpAny_pure ?_))
  simp only [if_true]
  refine wpAny_bind (wpAny_rule ?_)
  refine wpAny_bind (wpAny_field hz rfl (x := .ref TO) rfl ?_)
  refine wpAny_bind (wpAny_setField_rec hz (by simp) fun h₁ hz₁ hs₁ => ?_)
  replace hz₁ : IsZip h₁ z TI TO .ellipsis := hz₁
  have hot1 : HotAt A x1 h₁ := hot.keeps fun o e => hs₁.extBut _ _ nz e
  refine wpAny_bind ?_
  simp only [List.zipIdx_cons, List.zipIdx_nil, List.forIn_cons, List.forIn_nil]
  refine wpAny_bind (wpAny_bind (wpAny_onRaise ?_))
  show wpAny _ _ (Builtin.SmallTypes.nextOf (.ref i1) >>= _) _ _ _
  cases hx : xs[k1]? with
  | none =>
    refine wpAny_bind (list_end_hot (s := { s with heap := h₁ }) hot1 n1 (h1.extBut hs₁.extBut D.i1z) (hl1.extBut hs₁.extBut D.l1z) hx fun h₂ e hs₂ he => ?_)
    obtain ⟨oe, hoe, hce⟩ := he
    have hz₂ : IsZip h₂ z TI TO .ellipsis := hs₂ _ _ D.i1z.symm hz₁
    have hez : e ≠ z := fun x => by subst x; rw [hz₂] at hoe; cases hoe; simp at hce
    refine wpAny_setField_rec hz₂ (by simp) fun h₃ _ hs₃ => q h₃ e (fun c o c1 _ c3 _ x => hs₃.extBut _ _ c1 (hs₂ _ _ c3 (hs₁.extBut _ _ c1 x))) ⟨oe, hs₃.extBut _ _ hez hoe, hce⟩
  | some x =>
    have hy : ys[k2]? = none := by rcases hend with h | h; rw [hx] at h; cases h; exact h
    refine wpAny_bind (wpAny_nextOf_list_item (h1.extBut hs₁.extBut D.i1z) (hl1.extBut hs₁.extBut D.l1z) hx fun h₂ h1₂ hs₂ => wpAny_pure ?_)
    have hTO₂ : IsPair h₂ TO a b := hs₂.extBut _ _ D.TOi1 (hs₁.extBut _ _ D.TOz hTO)
    refine wpAny_bind (wpAny_seqItems hTO₂ rfl ?_)
    refine wpAny_bind (wpAny_updateSeq_pair hTO₂ fun h₃ hTO₃ hs₃ => ?_)
    refine wpAny_bind (wpAny_letGo (wpAny_pure ?_))
    refine wpAny_bind (wpAny_bind (wpAny_onRaise ?_))
    show wpAny _ _ (Builtin.SmallTypes.nextOf (.ref i2) >>= _) _ _ _
    have hot3 : HotAt A x1 h₃ := hot1.keeps fun o e => hs₃.extBut _ _ nT (hs₂.extBut _ _ n1 e)
    refine wpAny_bind (list_end_hot (s := { s with heap := h₃ }) hot3 n2 (((h2.extBut hs₁.extBut D.i2z).extBut hs₂.extBut D.i12.symm).extBut hs₃.extBut D.TOi2.symm)
      (((hl2.extBut hs₁.extBut D.l2z).extBut hs₂.extBut D.l2i1).extBut hs₃.extBut D.l2TO) hy fun h₄ e hs₄ he => ?_)
    obtain ⟨oe, hoe, hce⟩ := he
    have hz₄ : IsZip h₄ z TI TO .ellipsis := hs₄ _ _ D.i2z.symm (hs₃.extBut _ _ D.TOz.symm (hs₂.extBut _ _ D.i1z.symm hz₁))
    have hez : e ≠ z := fun x => by subst x; rw [hz₄] at hoe; cases hoe; simp at hce
    refine wpAny_setField_rec hz₄ (by simp) fun h₅ _ hs₅ => q h₅ e (fun c o c1 c2 c3 c4 x => hs₅.extBut _ _ c1 (hs₄ _ _ c4 (hs₃.extBut _ _ c2 (hs₂.extBut _ _ c3 (hs₁.extBut _ _ c1 x))))) ⟨oe, hs₅.extBut _ _ hez hoe, hce⟩
theorem next_zip_end_hot {x1 z TI TO i1 i2 l1 l2 : Addr} {k1 k2 : Nat} {xs ys : Array Value} {a b : Value} {Q : Option Value → Shared → Prop} (hot : HotAt A x1 s.heap) (nz : x1 ≠ z) (nT : x1 ≠ TO) (n1 : x1 ≠ i1) (n2 : x1 ≠ i2) (D : ZipApart z TI TO i1 i2 l1 l2)
    (hz : IsZip s.heap z TI TO .none) (hTI : IsPair s.heap TI (.ref i1) (.ref i2)) (hTO : IsPair s.heap TO a b)
    (h1 : s.heap.IsListIter i1 l1 k1) (h2 : s.heap.IsListIter i2 l2 k2) (hl1 : s.heap.IsList l1 xs) (hl2 : s.heap.IsList l2 ys) (hend : xs[k1]? = none ∨ ys[k2]? = none)
    (q : ∀ h', (∀ c o, c ≠ z → c ≠ TO → c ≠ i1 → c ≠ i2 → s.heap.get? c = some o → h'.get? c = some o) → Q none { s with heap := h' }) : wpAny (model prog w) A (pyNext (.ref z)) Q E s := by
  have hT : s.TypeIs (.ref z) "zip" := ⟨_, hz, rfl⟩
  unfold pyNext
  refine wpAny_bind (wpAny_attempt (wpAny_callSpecial?_slot (name := Str.ofString "__next__") hT F.slot_zip_next
    (wpAny_call_entry F.slot_zip_next hT F.entry_zip_next (zip_end_hot hot nz nT n1 n2 D hz hTI hTO h1 h2 hl1 hl2 hend fun h' e hk he => ?_) (F.args_zip_next_1 _))))
  obtain ⟨o, ho, hc⟩ := he
  refine wpAny_bind (wpAny_isInstance (T := "StopIteration") (b := true) ⟨o, ho, hc⟩ isSubtype_stop ?_)
  exact wpAny_pure (q _ hk)
end
end HotX

set_option Elab.async false
set_option linter.all false
set_option maxRecDepth 100000
set_option maxHeartbeats 4000000
/-! While an exception is handled: zip of lists walked by a list comprehension. -/
namespace Ib
open PySem PySem.Spec PyProof.Rows L2 HotX L2H

theorem turn_zipH {P : Program} {w : World} {K : PySem.W.Frag} {elts : List Expr} {kk : Nat} {tpos : Pos} {a b z TI TO i1 i2 : Addr} (D : ZipApart z TI TO i1 i2 a b) :
    TurnH P w K (.Tuple elts kk tpos) (Itz K a b) [z, TI, TO, i1, i2] z (fun i h => IsZip h z TI TO .none ∧ IsPair h TI (.ref i1) (.ref i2) ∧ (∃ x y, IsPair h TO x y) ∧ h.IsListIter i1 a i ∧ h.IsListIter i2 b i) where
  mem := (turn_zip (P := P) (w := w) (K := K) (elts := elts) (kk := kk) (tpos := tpos) D).mem
  obj := (turn_zip (P := P) (w := w) (K := K) (elts := elts) (kk := kk) (tpos := tpos) D).obj
  keep := (turn_zip (P := P) (w := w) (K := K) (elts := elts) (kk := kk) (tpos := tpos) D).keep
  item := by
    intro X eP eW eK _ i pins s σ H E I fok st go
    subst eP eW eK
    obtain ⟨hz, hTI, ⟨x0, y0, hTO⟩, g1, g2⟩ := st
    obtain ⟨xs, ys, x, y, qx, qy, ex, ey⟩ := go
    obtain ⟨us, rx, px, _⟩ := I.list qx
    obtain ⟨vs, ry, py, _⟩ := I.list qy
    obtain ⟨u, eu, ru⟩ := rx.get ex
    obtain ⟨v, ev, rv⟩ := ry.get ey
    have lz : z < s.heap.objs.size := Heap.lt_size hz
    refine wpAny_pyNext_zip_item D hz hTI hTO g1 g2 px.isList py.isList (x := u) (y := v) (by simpa using eu) (by simpa using ev) fun h1 z1 TO1 k1 k2 hT _ keep => ⟨_, rfl, wpAny_letOwnedTupleGo_zip (s := { s with heap := h1 }) z1 fun h2 z2 sb => ?_⟩
    have hT2 : h2.get? s.heap.objs.size = some { cls := .type "tuple", data := .seq #[u, v] } := (sb.2 _ (Nat.ne_of_gt lz)).trans hT
    have new : ObjOk X.prog X.w (upd H s.heap.objs.size (.tup [x, y])) h2 s.heap.objs.size (.tup [x, y]) := ⟨by show 2 ≤ sizeLine; decide, [u, v], .cons ru (.cons rv .nil), ⟨_, hT2, rfl, _, rfl⟩⟩
    have off : ∀ c o, c ∉ [z, TI, TO, i1, i2] → s.heap.get? c = some o → h2.get? c = some o := fun c o n q => by
      simp only [List.mem_cons, List.not_mem_nil, or_false, not_or] at n
      exact (sb.2 c n.1).trans (keep c o n.1 n.2.2.1 n.2.2.2.1 n.2.2.2.2 q)
    have I2 : Inv X pins σ (upd H s.heap.objs.size (.tup [x, y])) { s with heap := h2 } := I.turnedNew (t' := s.toks) (ch := [z, TI, TO, i1, i2]) off fok (Nat.le_refl _) new
    refine ⟨.ref s.heap.objs.size, _, I2, rfl, ⟨_, x, y, rfl, I.hok.fresh (Nat.le_refl _), rfl, fun l hl => by rw [I.list_inj hl qx]; exact ex, fun l hl => by rw [I.list_inj hl qy]; exact ey⟩,
      ⟨z2, (sb.2 _ D.TIz).trans (keep _ _ D.TIz D.TITO D.TIi1 D.TIi2 hTI), ⟨u, v, (sb.2 _ D.TOz).trans TO1⟩, k1.at fun o q => (sb.2 _ D.i1z).trans q, k2.at fun o q => (sb.2 _ D.i2z).trans q⟩, fun c hc => ?_⟩
    obtain ⟨o, e, _⟩ := (turn_zip (P := X.prog) (w := X.w) (K := X.K) (elts := elts) (kk := kk) (tpos := tpos) D).obj i s.heap ⟨hz, hTI, ⟨x0, y0, hTO⟩, g1, g2⟩ c hc
    rw [upd_ne (Nat.ne_of_lt (Heap.lt_size e))]
    exact (fok c hc).1
  done := by
    intro X eP eW eK hc i pins s σ H E I fok st stop
    subst eP eW eK
    obtain ⟨hz, hTI, ⟨x0, y0, hTO⟩, g1, g2⟩ := st
    obtain ⟨xs, ys, qx, qy, fin⟩ := stop
    obtain ⟨us, rx, px, _⟩ := I.list qx
    obtain ⟨vs, ry, py, _⟩ := I.list qy
    have lx := rx.length
    have ly := ry.length
    have none1 : us.toArray[i]? = none ∨ vs.toArray[i]? = none := fin.elim (fun q => .inl (by simp; omega)) fun q => .inr (by simp; omega)
    obtain ⟨p, ⟨hh, v1, e1, c1⟩, hp⟩ := hc
    have P1 := (I.pin p (List.mem_append_left _ hp)).1
    have ne : ∀ c ∈ [z, TI, TO, i1, i2], p.1 ≠ c := fun c hcm => (fok c hcm).2.2.2.2.2 p (List.mem_append_left _ hp)
    refine next_zip_end_hot (x1 := p.1) ⟨hh, p.2, v1, P1, e1, c1⟩ (ne z (by simp)) (ne TO (by simp)) (ne i1 (by simp)) (ne i2 (by simp)) D hz hTI hTO g1 g2 px.isList py.isList none1 fun h1 keep => ⟨rfl, I.turnedL (t' := s.toks) (ch := [z, TI, TO, i1, i2]) (fun c o n q => ?_) fok⟩
    simp only [List.mem_cons, List.not_mem_nil, or_false, not_or] at n
    exact keep c o n.1 n.2.2.1 n.2.2.2.1 n.2.2.2.2 q
  self := (turn_zip (P := P) (w := w) (K := K) (elts := elts) (kk := kk) (tpos := tpos) D).self
theorem pi_zipH {X : Cx} {e e2 : Expr} {ta : TA} {p pos tpos : Pos} {elts : List Expr} {kk : Nat} (hg : Gl X "zip") (hm : X.mg "zip" = none) (ha : PA X [e, e2] ta)
    (hs : starEach [e, e2] X.env = (false, eval e X.env) :: starEach [e2] X.env) (hpl : (backTo pos (starEach [e2] X.env)).any (·.1) = false) : PIH X (.Tuple elts kk tpos) (.Call (.Name "zip" p) [e, e2] [] pos) (iZip X.K ta) := by
  refine ⟨fun pins s σ H R I q => ?_⟩
  refine Call_ (ld_blt I hg hm PyProof.Rows.boot_zip (PyProof.Rows.callWith_type1 (thn (ha.run pos pins s σ H _ I q) fun us s1 ⟨vs, H1, I1, r1, q1⟩ => ?_) hs hpl))
  obtain ⟨a, b, xs, ys, rfl, qx, qy, q⟩ := q1
  cases r1 with
  | cons r rr =>
    cases rr with
    | cons r' rr =>
      cases rr
      cases r
      cases r'
      obtain ⟨us, rx, px, _⟩ := I1.list qx
      obtain ⟨vs, ry, py, _⟩ := I1.list qy
      refine call_zip_2 px.isList py.isList fun h1 hz hTI hTO g1 g2 _ keep => wpAny_pyIter_zip hz ?_
      have I2 : Inv X pins σ H1 { s1 with heap := h1 } := I1.kept (t' := s1.toks) keep
      refine ⟨s1.heap.objs.size + 4, [s1.heap.objs.size + 4, s1.heap.objs.size + 2, s1.heap.objs.size + 3, s1.heap.objs.size, s1.heap.objs.size + 1], _, _, H1, rfl, I2, turn_zipH (PySem.W.ktu_apart s1.heap.objs.size a b px.lt py.lt), ⟨hz, hTI, ⟨_, _, hTO⟩, g1, g2⟩, fun c hc => ?_, q⟩
      have le : s1.heap.objs.size ≤ c := by
        simp only [List.mem_cons, List.not_mem_nil, or_false] at hc
        rcases hc with z | z | z | z | z <;> rw [z] <;> omega
      exact I1.fpOk le (I1.hok.fresh le)
/-- a block's context that keeps the pins -/
abbrev blkH (X : Cx) (s : Shared) (H : Hp) (scope : Scope) (cenv : Env) (fp : List Addr) : Cx := (X.blk s H scope cenv fp).tr X.pn fun _ _ => False
section
variable {X : Cx}
theorem blkH_start {pins : List (Addr × Obj)} {σ : L2.St} {H : Hp} {s : Shared} {scope : Scope} {own : List (Str × Nat)} {fp : List Addr} (I : Inv X pins σ H s) (ok : BlkOk X.N X.env.scope scope own) (hN : X.N.Nodup) (hfp : ∀ b ∈ fp, FpOk X pins H b ∧ b < s.heap.objs.size) :
    Inv (blkH X s H scope (compEnvC scope (cellsFrom (s.heap.objs.size + 1) scope.names (cloFrom X.env.cells scope.names [])) s.heap.objs.size X.env) fp) [] (wipe σ (own.map (·.2))) H { s with heap := pushCells (s.heap.push { cls := .type "dict", data := .dict #[] }) scope.names } := by
  have J := block_start I ok hN hfp
  refine ⟨J.ok.toTry _ _, J.os, J.bare, J.base, J.loc, J.cell, J.free, J.freeC, fun q hq => ?_, J.hok, J.len⟩
  have hq : q ∈ X.pn := by
    rcases List.mem_append.mp hq with z | z
    · exact z
    · cases z
  obtain ⟨p1, p2, p3, p4, p5⟩ := I.pin q (List.mem_append_left _ hq)
  have lt := Heap.lt_size p1
  refine ⟨pushCells_keeps _ _ _ _ (Heap.get?_push_of_some _ p1), p2, Nat.ne_of_lt lt, fun hm => ?_, p5⟩
  exact (List.mem_cons.mp (I.stkSub q.1 hm)).elim p3 p4
theorem lcH_core {pins : List (Addr × Obj)} {s : Shared} {σ : L2.St} {H : Hp} {Q : VK} {elt tg iter : Expr} {ifs : List Expr} {scope : Scope} {own : List (Str × Nat)} {pos pos' : Pos} {wi : TI} {g : TG} {tt : TT} {te : TE} {use : Option (Value → Sem Unit)} {Qf : Value → Shared → Prop}
    (hot : HotC X) (hN : X.N.Nodup) (I : Inv X pins σ H s) (hi : PIH X tg iter wi) (ok : BlkOk X.N X.env.scope scope own)
    (hg : ∀ (s : Shared) (H : Hp) (C : Addr) (cl : List (Str × Addr)) (fp : List Addr), PG (blkH X s H scope (compEnvC scope cl C X.env) fp) tg g)
    (ht : ∀ (s : Shared) (H : Hp) (C : Addr) (cl : List (Str × Addr)) (fp : List Addr), PTs (blkH X s H scope (compEnvC scope cl C X.env) fp) ifs tt)
    (he : ∀ (s : Shared) (H : Hp) (C : Addr) (cl : List (Str × Addr)) (fp : List Addr), PE (blkH X s H scope (compEnvC scope cl C X.env) fp) elt te) (hs : ∀ x, foldedSetIterable iter X.env x = pure x)
    (q : tLc wi g tt te (own.map (·.2)) σ H Q)
    (fin : ∀ D C s' m H', Inv X pins σ H' s' → Q (.ref D) H' → s'.heap.Ns C m → FpOk X pins H' C → compPost (model X.prog X.w) X.A X.xe use Qf (.ref D) C (.ok .next) s') :
    wpAny (model X.prog X.w) X.A (comprehension (.ListComp elt [⟨tg, iter, ifs, 0⟩] scope pos) scope X.env pos' (newList []) false (eval iter X.env) use) Qf X.xe s := by
  have hfree : ∀ y ∈ scope.names, y.2 = .free → ∃ c, X.env.cells.lookup y.1 = some c := fun y hy e => (ok.free y hy e).elim (fun z => I.ok.has _ (.inl z)) fun z => I.ok.has _ (.inr z)
  refine wpAny_comprehension_free (use := use) rfl hs (closure_ok hfree) ok.kind (fun y hy e => by rw [ok.uniq y hy, e]) (thn (hi.run pins s σ H _ I q) fun xv s1 hx => thn hx fun itv s2 h2 => ?_)
  obtain ⟨it, fp, tn, J, H2, rfl, I2, T, st2, f2, q⟩ := h2
  refine wpAny_newObj_type (newEnv_comp ?_) (by show 0 ≤ sizeLine; decide)
  generalize hD : s2.heap.objs.size = D
  have hDn : H2 D = none := I2.hok.fresh (Nat.le_of_eq hD)
  obtain ⟨W, ⟨m0, w0⟩, turn⟩ := q D hDn
  generalize hs3 : ({ s2 with heap := s2.heap.push { cls := .type "list", data := .seq ([] : List Value).toArray } } : Shared) = s3
  have h3 : s3.heap = s2.heap.push { cls := .type "list", data := .seq ([] : List Value).toArray } := by rw [← hs3]
  have I3 : Inv X pins σ (upd H2 D (.lst [])) s3 := by
    rw [← hs3]
    refine I2.laid (t' := s2.toks) (fun b o e => Heap.get?_push_of_some _ e) (Nat.le_of_eq hD) ⟨Nat.zero_le _, [], 0, .nil, ?_⟩
    rw [← hD]
    exact Heap.get?_push_size _ rfl
  have f3 : ∀ b ∈ fp, FpOk X pins (upd H2 D (.lst [])) b ∧ b < s3.heap.objs.size := fun b hb => by
    obtain ⟨o, e, _⟩ := T.obj _ _ st2 b hb
    have lt := Heap.lt_size e
    refine ⟨⟨?_, (f2 b hb).2⟩, by rw [h3, Heap.size_push]; exact Nat.lt_succ_of_lt lt⟩
    rw [upd_ne (by rw [← hD]; exact Nat.ne_of_lt lt)]
    exact (f2 b hb).1
  have st3 : tn 0 s3.heap := T.keep _ _ _ st2 fun b _ o e => by rw [h3]; exact Heap.get?_push_of_some _ e
  have I4 := blkH_start I3 ok hN f3
  obtain ⟨cl, hcl⟩ : ∃ z, z = cellsFrom (s3.heap.objs.size + 1) scope.names (cloFrom X.env.cells scope.names []) := ⟨_, rfl⟩
  rw [← hcl] at I4
  have pg := hg s3 (upd H2 D (.lst [])) s3.heap.objs.size cl fp
  have pt := ht s3 (upd H2 D (.lst [])) s3.heap.objs.size cl fp
  have pe := he s3 (upd H2 D (.lst [])) s3.heap.objs.size cl fp
  show codeAny _ _ (.compStart (.ListComp elt [⟨tg, iter, ifs, 0⟩] scope pos) 0 (.ref it) (.ref D) (compEnvC scope (cellsFrom (s3.heap.objs.size + 1) scope.names (cloFrom X.env.cells scope.names [])) s3.heap.objs.size X.env)) (compPost (model X.prog X.w) X.A X.xe use Qf (.ref D) s3.heap.objs.size) { s3 with heap := pushCells (s3.heap.push { cls := .type "dict", data := .dict #[] }) scope.names }
  rw [← hcl]
  have nfp : ∀ b ∈ fp, (upd H2 D (.lst [])) b = none := fun b hb => (f3 b hb).1.1
  generalize hce : compEnvC scope cl s3.heap.objs.size X.env = ce at I4 pg pt pe ⊢
  have cL : ce.locals = s3.heap.objs.size := by subst hce; rfl
  generalize hH3 : upd H2 D (.lst []) = H3 at I3 I4 pg pt pe w0 nfp f3
  generalize hs4 : ({ s3 with heap := pushCells (s3.heap.push { cls := .type "dict", data := .dict #[] }) scope.names } : Shared) = s4 at I4 ⊢
  have st4 : tn 0 s4.heap := T.keep _ _ _ st3 fun b _ o e => by rw [← hs4]; exact pushCells_keeps _ _ _ _ (Heap.get?_push_of_some _ e)
  have hcb : HotC (blkH X s3 H3 scope ce fp) := hot
  have stat : ∀ {σ' : L2.St} {H' : Hp} {s' : Shared}, Inv (blkH X s3 H3 scope ce fp) [] σ' H' s' → (∀ b ∈ fp, H' b = none) → ∀ b ∈ fp, FpOk (blkH X s3 H3 scope ce fp) [] H' b := fun {σ' H' s'} I' hn b hb =>
    ⟨hn b hb, (I'.ok.exf b hb).1, I'.ok.exfs b hb, .inl hb, fun x c e => (I'.ok.exf b hb).2 x c e, fun p hp => (f3 b hb).1.2.2.2.2.2 p (List.mem_append_left _ ((List.mem_append.mp hp).elim id fun z => nomatch z))⟩
  have loop : codeAny (model X.prog X.w) X.A (.compLoop (.ListComp elt [⟨tg, iter, ifs, 0⟩] scope pos) 0 (.ref it) (.ref D) ce) (compPost (model X.prog X.w) X.A X.xe use Qf (.ref D) s3.heap.objs.size) s4 := by
    refine compLoop_any (fun n s' => ∃ i H', Inv (blkH X s3 H3 scope ce fp) [] (wipe σ (own.map (·.2))) H' s' ∧ tn i s'.heap ∧ (∀ b ∈ fp, H' b = none) ∧ W i n H') ?_ m0 ⟨0, H3, I4, st4, nfp, w0⟩
    rintro n s5 ⟨i, H5, I5, st5, n5, w5⟩
    rcases turn i n H5 w5 with ⟨stop, qq⟩ | ⟨go, Nx, hNx, step⟩
    · refine thnF (T.done (blkH X s3 H3 scope ce fp) rfl rfl rfl hcb i [] s5 _ H5 (fun _ _ => False) I5 (stat I5 n5) st5 stop) fun r s6 ⟨hr, I6⟩ => ?_
      subst hr
      have I7 : Inv X pins σ H5 s6 := I3.call' (ch := fp) I6.os I6.base I6.hok I6.bare fun b hb => ⟨(f3 b hb).1.2.2.2.1, (f3 b hb).1.2.1, (f3 b hb).1.2.2.2.2.1, (f3 b hb).1.2.2.2.2.2⟩
      have nC : H5 s3.heap.objs.size = none := by
        have z : H5 ce.locals = none := I6.free
        rwa [cL] at z
      obtain ⟨m, hn, _⟩ := I6.loc
      have hn : s6.heap.Ns ce.locals m := hn
      rw [cL] at hn
      exact fin D s3.heap.objs.size s6 m H5 I7 qq hn (I3.fpOk (Nat.le_refl _) nC)
    · refine thnF (T.item (blkH X s3 H3 scope ce fp) rfl rfl rfl hcb i [] s5 _ H5 (fun _ _ => False) I5 (stat I5 n5) st5 go) fun r s6 ⟨u, hr, h6⟩ => ?_
      subst hr
      refine thnF h6 fun _ s7 ⟨x, H7, I7, r7, y7, st7, n7⟩ => ?_
      have I7' := I7.pinned (stat I7 n7) (T.obj _ _ st7)
      refine thnF (pg.run _ s7 _ H7 x u _ I7' r7 (step x H7 y7)) fun _ s8 ⟨σ8, H8, I8, hw8, q8⟩ => ?_
      refine thnF (pt.run _ s8 σ8 H8 _ I8 q8) fun b s9 ⟨H9, I9, q9⟩ => ?_
      have next : ∀ {s' : Shared} {H' : Hp}, Inv (blkH X s3 H3 scope ce fp) ([] ++ pinsAt fp s7.heap) σ8 H' s' → Nx H' → ∃ m, m < n ∧ ∃ i H', Inv (blkH X s3 H3 scope ce fp) [] (wipe σ (own.map (·.2))) H' s' ∧ tn i s'.heap ∧ (∀ b ∈ fp, H' b = none) ∧ W i m H' := fun {s' H'} I' nx => by
        obtain ⟨m', hm, w'⟩ := hNx H' nx
        have pin' : ∀ b ∈ fp, ∀ o, s7.heap.get? b = some o → s'.heap.get? b = some o ∧ H' b = none := fun b hb o e =>
          let z := I'.pin (b, o) (List.mem_append_right _ (List.mem_append_right _ (mem_pinsAt hb e)))
          ⟨z.1, z.2.1⟩
        have hl : (wipe σ (own.map (·.2))).length = σ8.length := by rw [← hw8, wipe_length]
        refine ⟨m', hm, i + 1, H', (I'.unpinned (pins := [])).weak hl (fun j v e => (wipe_some (by rw [hw8]; exact e)).1), T.keep _ _ _ st7 fun b hb o e => (pin' b hb o e).1, fun b hb => ?_, w'⟩
        obtain ⟨o, e, _⟩ := T.obj _ _ st7 b hb
        exact (pin' b hb o e).2
      cases b with
      | false =>
        simp only [Bool.false_eq_true, if_false] at q9 ⊢
        exact next I9 q9
      | true =>
        simp only [if_true] at q9 ⊢
        refine thnF (pe.run _ s9 σ8 H9 _ I9 q9) fun z s10 ⟨yv, H10, I10, r10, acc, hD10, hz10, nx⟩ => ?_
        exact app_ok (X := blkH X s3 H3 scope ce fp) I10 hD10 hz10 r10 fun s11 I11 => next I11 nx
  exact codeAny_compStart_list loop (T.self X.A 0 _ _ _ st4 loop)
/-- name = [..] there -/
theorem ps_setLcH {i : Nat} {y : Str} {py : Pos} {elt tg iter : Expr} {ifs : List Expr} {scope : Scope} {own : List (Str × Nat)} {pos spos : Pos} {wi : TI} {g : TG} {tt : TT} {te : TE} (hot : HotC X) (hN : X.N.Nodup) (hy : X.N[i]? = some y) (hyl : X.env.scope.names.lookup y = some .local)
    (hsw : swapsWith (.ListComp elt [⟨tg, iter, ifs, 0⟩] scope pos) (some (.Name y py)) spos.line X.env = pure true) (hi : PIH X tg iter wi) (ok : BlkOk X.N X.env.scope scope own)
    (hg : ∀ (s : Shared) (H : Hp) (C : Addr) (cl : List (Str × Addr)) (fp : List Addr), PG (blkH X s H scope (compEnvC scope cl C X.env) fp) tg g)
    (ht : ∀ (s : Shared) (H : Hp) (C : Addr) (cl : List (Str × Addr)) (fp : List Addr), PTs (blkH X s H scope (compEnvC scope cl C X.env) fp) ifs tt)
    (he : ∀ (s : Shared) (H : Hp) (C : Addr) (cl : List (Str × Addr)) (fp : List Addr), PE (blkH X s H scope (compEnvC scope cl C X.env) fp) elt te) (hs : ∀ x, foldedSetIterable iter X.env x = pure x) :
    PS X (.Assign [.Name y py] (.ListComp elt [⟨tg, iter, ifs, 0⟩] scope pos) spos) (tAsg (tLc wi g tt te (own.map (·.2))) (gName i)) := by
  refine ⟨fun pins s σ H D I q => ?_⟩
  have q : tLc wi g tt te (own.map (·.2)) σ H (fun x H1 => gName i x σ H1 D.nx) := q
  rw [exec_Assign_Name_used _ _ _ _ hsw]
  refine wpAny_bind (wpAny_standAt (wpAny_bind ?_))
  show wpAny _ X.A (do let _ ← comprehension (.ListComp elt [⟨tg, iter, ifs, 0⟩] scope pos) scope X.env (firstIterPos [⟨tg, iter, ifs, 0⟩] pos) (newList []) false (eval iter X.env) (some (assign (.Name y py) X.env))) _ _ s
  refine wpAny_bind (thn (lcH_core (Qf := fun _ s' => SP X pins D .next s') hot hN I hi ok hg ht he hs q fun L C s' m H' I' qq hn f => ?_) fun _ s' hq => wpAny_pure (wpAny_pure hq))
  show wpAny _ _ (assign (.Name y py) X.env (.ref L)) _ _ _
  refine wpAny_assign_Name (store_ok2 (v := V.ref L) I' hN hy (.inl hyl) rfl (fun s2 I2 ⟨a, sb, ha⟩ => ?_) (.inr hyl))
  obtain ⟨f0, f1, f2, f3, f4, f5⟩ := f
  have ne : C ≠ a := ha.elim (fun z => by rw [z]; exact f1) fun z e => f4 y a z e.symm
  exact ⟨m, hn.sameBut sb ne, fun h3 sb3 => ⟨_, H', I2.turned (t' := s2.toks) (fun b o hb e => (sb3.2 b hb).trans e) f0 f1 f3 f4 f5, qq⟩⟩
end
/-! ### as denotations -/
theorem PIH.weak {X : Cx} {tg e : Expr} {t t' : TI} (h : PIH X tg e t) (w : ∀ σ H Q, t' σ H Q → t σ H Q) : PIH X tg e t' := ⟨fun pins s σ H Q I q => h.run pins s σ H Q I (w σ H Q q)⟩
def JIH (X : Cx) (W : WX) (tg iter : Expr) (gi : SEnv → Cells → Out Src) : Prop := PIH X tg iter (tI (cfg X) W gi)
/-- two lists that are no cells -/
def srcZipH (_ : Cells) : List D → Option Src
  | [.lst xs, .lst ys] => if xs.length = ys.length then some (srcC (zipL xs ys)) else none
  | _ => none
section
variable {X : Cx} {W : WX} {e e2 : Expr} {ga : SEnv → Cells → Out (List D)} {p pos tpos : Pos} {elts : List Expr} {kk : Nat}
theorem ji_zipH (hg : Gl X "zip") (hm : X.mg "zip" = none) (ha : JA X W [e, e2] ga) (hs : starEach [e, e2] X.env = (false, eval e X.env) :: starEach [e2] X.env) (hpl : (backTo pos (starEach [e2] X.env)).any (·.1) = false) :
    JIH X W (.Tuple elts kk tpos) (.Call (.Name "zip" p) [e, e2] [] pos) (eSrcC srcZipH ga) := by
  refine PIH.weak (pi_zipH hg hm ha hs hpl) fun σ H R h => ?_
  obtain ⟨τ, O, sl, ce, w, s, h⟩ := h
  refine ⟨τ, O, sl, ce, w, s, (PostG.bind h).mono fun τ1 O1 ce1 H1 ds e1 w1 h1 vs r => ?_⟩
  split at h1
  · rename_i src hsrc
    unfold srcZipH at hsrc
    split at hsrc
    · rename_i xs ys
      split at hsrc
      · rename_i hl
        cases hsrc
        obtain ⟨v, _, rfl, r1, v2, _, rfl, r2, rfl⟩ := r
        obtain ⟨p1, us, rfl, a2, a3⟩ := repT_lst.mp (show RepT (cfg X) O1 H1 (.lst xs) v from r1)
        obtain ⟨p2, vs, rfl, b2, b3⟩ := repT_lst.mp (show RepT (cfg X) O1 H1 (.lst ys) v2 from r2)
        refine ⟨p1, p2, us, vs, rfl, a2.sq, b2.sq, h1.done w1 _ ?_⟩
        intro τ2 O2 ce2 H2 zs e2 w2 hi hlen
        cases hi
        have l1 := a3.length
        have l2 := b3.length
        have hn : (srcC (zipL xs ys)).n = xs.length := by simp [srcC, zipL, hl]
        have k1 : SqL X.K H2 p1 us := (a2.ext e2).sq
        have k2 : SqL X.K H2 p2 vs := (b2.ext e2).sq
        rw [hn]
        refine ⟨fun i hi => ⟨us, vs, us[i]'(by omega), vs[i]'(by omega), k1, k2, by simp, by simp⟩, ⟨us, vs, k1, k2, by omega⟩, fun i v H' hi y => ?_⟩
        obtain ⟨T, x, y, rfl, hT, rfl, hx, hy⟩ := y
        obtain ⟨d1, e3, e4⟩ := (a3.ext e2).getV (hx us k1)
        obtain ⟨d4, e5, e6⟩ := (b3.ext e2).getV (hy vs k2)
        have sm := same_upd (o := .tup [x, y]) hT
        have ext : Ext τ2 O2 H2 τ2 O2 (upd H2 T (.tup [x, y])) := .same sm
        exact ⟨.tup [d1, d4], zipL_get e3 e5, sm, repT_tup.mpr ⟨T, _, rfl, ⟨fun z => w2.trk T z hT, upd_same⟩, repTs_cons.mpr ⟨_, _, rfl, e4.ext ext, RepTs.one (e6.ext ext)⟩⟩⟩
      · cases hsrc
    · cases hsrc
  · exact h1.elim
end
section
variable {X : Cx} {W : WX} {elt tg iter : Expr} {ifs : List Expr} {scope : Scope} {own : List (Str × Nat)} {pos : Pos} {gi : SEnv → Cells → Out Src} {gt : GDen} {us : List Nat} {tt : SEnv → Cells → Out Bool} {ge : EDen}
theorem js_setCompH (i : Nat) {y : Str} {py spos : Pos} (hot : HotC X) (hN : X.N.Nodup) (hy : X.N[i]? = some y) (hyl : X.env.scope.names.lookup y = some .local)
    (hsw : swapsWith (.ListComp elt [⟨tg, iter, ifs, 0⟩] scope pos) (some (.Name y py)) spos.line X.env = pure true) (hi : JIH X W tg iter gi) (ok : BlkOk X.N X.env.scope scope own) (hus : us = own.map (·.2))
    (hg : ∀ (s : Shared) (H : Hp) (C : Addr) (cl : List (Str × Addr)) (fp : List Addr), JG (blkH X s H scope (compEnvC scope cl C X.env) fp) tg us gt)
    (ht : ∀ (s : Shared) (H : Hp) (C : Addr) (cl : List (Str × Addr)) (fp : List Addr), JTs (blkH X s H scope (compEnvC scope cl C X.env) fp) W0 ifs tt)
    (he : ∀ (s : Shared) (H : Hp) (C : Addr) (cl : List (Str × Addr)) (fp : List Addr), JE (blkH X s H scope (compEnvC scope cl C X.env) fp) W0 elt ge)
    (hs : ∀ x, foldedSetIterable iter X.env x = pure x) : JS X W (.Assign [.Name y py] (.ListComp elt [⟨tg, iter, ifs, 0⟩] scope pos) spos) (sSet i (eComp gi us gt tt ge)) := by
  refine PS.weak (ps_setLcH (wi := tI (cfg X) W gi) (g := tG (cfg X) us gt) (tt := tT (cfg X) W0 tt) (te := tE (cfg X) W0 ge) hot hN hy hyl hsw hi ok hg ht he hs) fun D σ H h => ?_
  obtain ⟨τ, O, sl, ce, w, s, h⟩ := h
  refine comp_r (te := fun _ _ _ => True) (K2 := fun _ _ _ => .bad) hus σ H (fun x H1 => gName i x σ H1 D.nx) ⟨τ, O, sl, ce, w, s, comp_den (Q := fun x H1 => gName i x σ H1 D.nx) ((PostS.st s h).mono fun τ1 O1 ce1 H1 d e1 w1 h1 v r => ?_) fun τ1 O1 ce1 H1 ce' xs w1 h1 hx D τ' O' H' hD e' w' => ?_⟩
  · exact h1 τ1 O1 _ H1 .refl w1 ((s.ext e1).set i r)
  · obtain ⟨⟨O2, e2, w2, r2⟩, _⟩ := comp_end w1 hD e' w' hx
    exact h1 _ _ _ e2 w2 _ r2.rep
end
end Ib

set_option Elab.async false
set_option linter.all false
set_option maxRecDepth 100000
set_option maxHeartbeats 4000000
/-! isinstance of the handled exception; a def called with it. -/
namespace Ib
open PySem PySem.Spec PyProof.Rows L2 HotX L2H
/-- isinstance(e, c), e a pinned exception of the class at D -/
theorem cr_isP {X : Cx} {a D : Addr} {oe : Obj} (C : ExcC X.K D) (hp : (a, oe) ∈ X.pn) (hz : oe.cls = .ref D ∧ oe.dict = none) (hf : ∃ vs, oe.data = .fields vs) : CallR X (.builtin "isinstance") (rIsE X.K D a) := by
  intro pins s σ H xs us Q I r q
  obtain ⟨c, cv, b, rfl, only, e, q⟩ := q
  obtain ⟨get, _⟩ := I.pin (a, oe) (List.mem_append_left _ hp)
  obtain ⟨vs, hv⟩ := hf
  obtain ⟨oc, od, oda, osl⟩ := oe
  obtain ⟨h1, h2⟩ := hz
  dsimp only at h1 h2 hv
  subst h1 h2 hv
  cases r with
  | cons ra rr =>
    cases rr with
    | cons rc rr =>
      cases rr
      cases ra
      cases only _ rc
      exact PySem.W.kia_one (PySem.W.handS_kitx_exc C.hg C.hk C.hs C.hd C.ha C.hn C.ht C.hm) I.kIn (show PySem.W.InstAt s.heap a _ D none from ⟨get, rfl, rfl, trivial⟩) e (fun z => nomatch z) fun tk => ⟨.bl b, H, I.kept (t' := tk) fun _ _ z => z, rfl, q⟩
def eIsE (a : Addr) (b : Bool) (i : Nat) : EDen := fun sl ce => match sl[i]? with
  | some (some (.adr a')) => if a' = a then .ok (.bl b) ce else .bad
  | _ => .bad
section
variable {X : Cx} {W : WX} {a D : Addr} {oe : Obj} {b : Bool} {i : Nat} {n x : Str} {p p1 p2 pos : Pos}
theorem is_t {c : V} {cv : Value} (only : ∀ u, RelV c u → u = cv) (e : PySem.W.kitOne X.K (.ref D) cv = some b) : ∀ σ H Q, tE (cfg X) W (eIsE a b i) σ H Q → tCB (rIsE X.K D a) (tCons (tVar i) (tCons (tC c) tNil)) σ H Q := by
  intro σ H Q h
  obtain ⟨τ, O, sl, ce, w, s, h⟩ := h
  unfold eIsE at h
  split at h
  · rename_i a' hs
    split at h
    · rename_i ea
      subst ea
      obtain ⟨v, e1, r⟩ := s.at_ i _ hs
      rw [repT_adr.mp (show RepT (cfg X) O H (.adr a') v from r)] at e1
      exact ⟨.ref a', e1, c, cv, b, rfl, only, e, h.done w _ (RepT.rep (repT_bl.mpr rfl))⟩
    · exact h.elim
  · exact h.elim
/-- .. a class of the program -/
theorem je_isE {C : Addr} (hC : ExcC X.K D) (hp : (a, oe) ∈ X.pn) (hz : oe.cls = .ref D ∧ oe.dict = none) (hf : ∃ vs, oe.data = .fields vs) (e : PySem.W.kitOne X.K (.ref D) (.ref C) = some b)
    (hg : Gl X "isinstance") (hm : X.mg "isinstance" = none) (hN : X.N[i]? = some n) (hv : Vis X.env.scope n) (hd : (n == ("__debug__" : Str)) = false) (hcd : (n == ("__classdict__" : Str)) = false) (hgx : Gl X x) (hmx : X.mg x = some (.ref C)) (hdx : (x == ("__debug__" : Str)) = false)
    (s1 : starEach [.Name x p2] X.env = (false, eval (.Name x p2) X.env) :: starEach [] X.env) (s2 : starEach [.Name n p1, .Name x p2] X.env = (false, eval (.Name n p1) X.env) :: starEach [.Name x p2] X.env) (hpl : (backTo pos (starEach [.Name x p2] X.env)).any (·.1) = false) :
    JE X W (.Call (.Name "isinstance" p) [.Name n p1, .Name x p2] [] pos) (eIsE a b i) :=
  PE.weak (pe_callB (cr_isP hC hp hz hf) hg hm (by decide +kernel) (pa_cons (pe_var hN hv hd hcd) (pa_cons (pe_glob (v := .ref C) hgx hmx rfl hdx) pa_nil s1) s2) (by decide) (by decide) s2 hpl) (is_t (fun u r => r) e)
/-- .. a built-in class -/
theorem je_isEB {T : String} (hC : ExcC X.K D) (hp : (a, oe) ∈ X.pn) (hz : oe.cls = .ref D ∧ oe.dict = none) (hf : ∃ vs, oe.data = .fields vs) (e : PySem.W.kitOne X.K (.ref D) (.type T) = some b)
    (hg : Gl X "isinstance") (hm : X.mg "isinstance" = none) (hN : X.N[i]? = some n) (hv : Vis X.env.scope n) (hd : (n == ("__debug__" : Str)) = false) (hcd : (n == ("__classdict__" : Str)) = false) (hgx : Gl X x) (hmx : X.mg x = none) (hvx : bootBuiltins x = some (.type T)) (hnx : x ≠ "__name__") (hdx : (x == ("__debug__" : Str)) = false)
    (s1 : starEach [.Name x p2] X.env = (false, eval (.Name x p2) X.env) :: starEach [] X.env) (s2 : starEach [.Name n p1, .Name x p2] X.env = (false, eval (.Name n p1) X.env) :: starEach [.Name x p2] X.env) (hpl : (backTo pos (starEach [.Name x p2] X.env)).any (·.1) = false) :
    JE X W (.Call (.Name "isinstance" p) [.Name n p1, .Name x p2] [] pos) (eIsE a b i) :=
  PE.weak (pe_callB (cr_isP hC hp hz hf) hg hm (by decide +kernel) (pa_cons (pe_var hN hv hd hcd) (pa_cons (pe_bltn (v := .ty T) hgx hmx hvx rfl hnx hdx) pa_nil s1) s2) (by decide) (by decide) s2 hpl) (is_t (fun u r => r) e)
end
/-- the def at f, called with the handled exception of the class at D, hands back the text nm -/
structure FnP (P : Program) (w : World) (K : PySem.W.Frag) (mg : Str → Option Value) (base : Heap) (k : Nat) (f : Addr) (fd : FuncData) (ps : List Str) (D : Addr) (nm : List Nat) : Prop where
  run : ∀ (A : Around) (outer : List Env) (s : Shared) (H : Hp) (args : Args) (Q : VK) (p : Addr × Obj), RoomH k A → Hot1 A p → (p.2.cls = .ref D ∧ p.2.dict = none) → PinOk outer H s p → Env0 P w K mg base A outer s H → BindsTo s fd args (ps.zip [.ref p.1]) →
    (∃ τ O ce, WFh ⟨P, w, K, mg⟩ τ O ce H ∧ ∀ τ' O' H', Ext τ O H τ' O' H' → WFh ⟨P, w, K, mg⟩ τ' O' ce H' → Q (.str (toStr nm)) H') →
    codeAny (model P w) A (.call (.ref f) args) (CR (L2N.CX P w) outer P w H s Q fun _ _ _ => False) s
theorem fnP_of {P : Program} {w : World} {K : PySem.W.Frag} {mg : Str → Option Value} {base : Heap} {x qual : Str} {st : Stmt} {f : Addr} {fd : FuncData} {N ps : List Str} {k : Nat} {D : Addr} {nm : List Nat} {g : Addr → SDen} (F : Fun K x qual st f fd) (S : FnScope N ps (defScope st)) (hl : ps.length = 1)
    (hbody : ∀ (cdv : Value) (A : Around) (outer : List Env) (s : Shared) (H : Hp) (p : Addr × Obj), Hot1 A p → (p.2.cls = .ref D ∧ p.2.dict = none) →
      JSs (cxH (L2N.CX P w) P w K mg base N qual (defScope st) f cdv A outer s H (fun _ _ _ => False) p) (fun _ _ _ _ => False) (defBody st) (g p.1))
    (hval : ∀ a ce, ∃ ce1, g a (some (.adr a) :: List.replicate (N.length - 1) none) ce = .rt (.str nm) ce1 ∧ ce1.take ce.length = ce) (hnm : okS nm) : FnP P w K mg base (k + 1) f fd ps D nm := by
  obtain ⟨oc, od, kV, doc, pm, an, cdv, ct, osl, rfl, lk, hcd⟩ := F.ex
  refine ⟨fun A outer s H args Q p hr hot hz pin e0 hb q => ?_⟩
  have KX : K.In s.heap := e0.mod.kin.keeps fun b o e => (e0.bs b o e).1
  have lim : s.heap.NoLimit := e0.mod.nolimit.keeps fun b o e => (e0.bs b o e).1
  have kinds : ∀ y ∈ ps.zip [Value.ref p.1], (defScope st).names.lookup y.1 = some .local ∨ ((defScope st).names.lookup y.1 = some .cell ∧ ((cellsFrom (s.heap.objs.size + 1) (defScope st).names []).lookup y.1).isSome = true) := fun ⟨n, v⟩ hy =>
    (S.par n (List.of_mem_zip hy).1).elim .inl fun z => .inr ⟨z, PySem.W.cellsFrom_some _ _ _ (.inl z)⟩
  refine codeAny_call_function hr.depth (KX _ _ lk) rfl S.co S.gen rfl (PySem.W.codeRec_of KX hcd) (hb _ _ _ _ ?_)
  refine wpAny_newFunctionEnv_cells S.kind kinds fun env he s1 x1 => ?_
  subst he
  refine ⟨lim.keeps x1.toInCall.keep, codeAny_func ?_⟩
  have I : Inv (cxH (L2N.CX P w) P w K mg base N qual (defScope st) f cdv A outer s H (fun _ _ _ => False) p) [] (L2.start N [.ref p.1]) H s1 := inv_startH S pin e0 (show ([V.ref p.1] : List V).length = ps.length from hl.symm) (.cons rfl .nil) x1
  obtain ⟨τ, O, ce, w0, q⟩ := q
  obtain ⟨ce1, e1, e2⟩ := hval p.1 ce
  have goal : tS ⟨P, w, K, mg⟩ (fun _ _ _ _ => False) (g p.1) { nx := fun _ H' => Q .non H', rt := Q } (L2.start N [.ref p.1]) H := by
    refine ⟨τ, O, some (.adr p.1) :: List.replicate (N.length - 1) none, ce, w0, SRep.start N (ds := [.adr p.1]) (vs := [.ref p.1]) ⟨_, _, rfl, RepT.rep (repT_adr.mpr rfl), rfl⟩, ?_⟩
    rw [e1]
    intro τ' O' v H' ex w' r
    obtain ⟨O2, a1, a2, a3⟩ := cut_ok w0 ex w'
    rw [e2] at a2
    rw [(repT_str.mp (show RepT ⟨P, w, K, mg⟩ O' H' (.str nm) v from r)).1]
    exact q _ _ _ a1 a2
  refine wpAny_mono ((hbody cdv A outer s H p hot hz).run [] s1 (L2.start N [.ref p.1]) H _ I goal) (fun fl s' hs => ?_) fun e s' hs => hs
  have fin : ∀ {σ' : L2.St} {H' : Hp} {v : V} {u : Value}, Inv (cxH (L2N.CX P w) P w K mg base N qual (defScope st) f cdv A outer s H (fun _ _ _ => False) p) [] σ' H' s' → RelV v u → Q v H' → CE outer P w H s Q u s' := fun {σ' H' v u} J rv q => ⟨v, H', J.os, J.bare, J.base, J.hok, rv, q⟩
  cases fl with
  | ret u =>
    obtain ⟨v, σ', H', J, rv, q⟩ := hs
    exact fin J rv q
  | next =>
    obtain ⟨σ', H', J, q⟩ := hs
    exact fin (v := V.non) (u := Value.none) J rfl q
  | brk =>
    obtain ⟨_, _, _, q⟩ := hs
    exact False.elim q
  | cont =>
    obtain ⟨_, _, _, q⟩ := hs
    exact False.elim q
/-- its call in an except suite -/
def tCallP (c : Cfg) (base : Heap) (k : Nat) (f : Addr) (fd : FuncData) (ps : List Str) (a : Addr) (cls : Value) (i : Nat) : TE := fun σ H Q => ∃ D nm, cls = .ref D ∧ FnP c.P c.w c.K c.mg base k f fd ps D nm ∧ σ[i]? = some (some (.ref a)) ∧
  ∃ τ O ce, WFh c τ O ce H ∧ ∀ τ' O' H', Ext τ O H τ' O' H' → WFh c τ' O' ce H' → Q (.str (toStr nm)) H'
theorem pe_callP {X : Cx} {k : Nat} {f a : Addr} {oe : Obj} {cls : Value} {d : Option Addr} {fd : FuncData} {ps : List Str} {x n : Str} {i : Nat} {p p1 pos : Pos} (hp : (a, oe) ∈ X.pn) (hh : X.A.handled = some (.ref a)) (hz : L2N.Zn cls d oe) (hd0 : d = none) (hf : ∃ vs, oe.data = .fields vs) (hr : RoomH k X.A) (hb : Binds X.K fd ps []) (hl : ps.length = 1)
    (hg : Gl X x) (hm : X.mg x = some (.ref f)) (hk : PySem.W.keepIn X.K (.ref f) = true) (hN : X.N[i]? = some n) (hv : Vis X.env.scope n) (hd : (n == ("__debug__" : Str)) = false) (hcd : (n == ("__classdict__" : Str)) = false) (hdb : (x == ("__debug__" : Str)) = false)
    (he : starEach [.Name n p1] X.env = (false, eval (.Name n p1) X.env) :: starEach [] X.env) (hpl : (backTo pos (starEach [] X.env)).any (·.1) = false) :
    PE X (.Call (.Name x p) [.Name n p1] [] pos) (tCallP (cfg X) X.base k f fd ps a cls i) := by
  subst hd0
  refine ⟨fun pins s σ H Q I q => ?_⟩
  obtain ⟨D, nm, rfl, F, hs, q⟩ := q
  have arg : tCons (tVar i) tNil σ H fun vs H1 => vs = [.ref a] ∧ H1 = H := ⟨.ref a, hs, rfl, rfl⟩
  refine wpAny_Call_Name_kw (ld_glob I hg hm ?_ hdb)
  refine PySem.W.callWith_K (h₀ := X.base) I.ok.mod.kin hk (thn ((pa_cons (pe_var (pos := p1) hN hv hd hcd) pa_nil he).run pos pins s σ H _ I arg) fun us s1 ⟨vs, H1, I1, r, ev, eH⟩ => ⟨I1.kIn, ?_⟩) he hpl
  subst ev eH
  obtain ⟨vs0, hv0⟩ := hf
  have P1 := I1.pin (a, oe) (List.mem_append_left _ hp)
  have eu : us = [.ref a] := by
    cases r with
    | cons ra rr => cases rr; cases ra; rfl
  subst eu
  have pin : PinOk X.stack H1 s1 (a, oe) := ⟨P1.1, P1.2.1, fun hm => (List.mem_cons.mp (I1.stkSub a hm)).elim P1.2.2.1 P1.2.2.2.1, P1.2.2.2.2⟩
  have b := hb s1 [.ref a] I1.kIn (by rw [hl]; rfl)
  rw [List.append_nil] at b
  refine wpAny_call (codeAny_mono (F.run X.A X.stack s1 H1 ⟨[.ref a], []⟩ Q (a, oe) hr ⟨hh, vs0, hv0, hz.2.2 vs0 hv0⟩ ⟨hz.1, hz.2.1⟩ pin I1.env0 b q) fun r s' hq => ?_)
  cases r with
  | error e =>
    obtain ⟨_, _, _, _, _, _, _, _, _, _, _, _, z⟩ := hq
    exact z.elim
  | ok fl =>
    cases fl with
    | ret u => exact I1.after hq
    | next => exact False.elim hq
    | brk => exact False.elim hq
    | cont => exact False.elim hq
end Ib

set_option Elab.async false
set_option linter.all false
set_option maxRecDepth 100000
set_option maxHeartbeats 4000000
/-! A lambda without parameters handed to a def that calls it in a try. -/
namespace Ib
open PySem PySem.Spec PyProof.Rows L2 HotX L2H LamX
theorem WFh.tabs {c : Cfg} {τ O : List Addr} {ce : Cells} {H H1 : Hp} {P : Addr} (W : WFh c τ O ce H) (hP : P ∈ (tbls c).map (·.1)) (k : ∀ b o, b ≠ P → H b = some o → H1 b = some o) (T : Tabs (tbls c) H1) : Ext τ O H τ O H1 ∧ WFh c τ O ce H1 := by
  obtain ⟨p0, hp0, e0⟩ := List.mem_map.mp hP
  have inO : P ∈ O := by rw [← e0]; exact (W.tab p0 hp0).1
  have nT : P ∉ τ := by rw [← e0]; exact (W.tab p0 hp0).2.1
  have atP : ∃ ps : Array Value, H1 P = some (.tbl ps) := by
    obtain ⟨ps, h, _⟩ := T p0 hp0
    rw [e0] at h
    exact ⟨ps, h⟩
  have e : Ext τ O H τ O H1 := ⟨fun a o h1 h2 => .inl (k a o (fun z => h1 (by rw [z]; exact inO)) h2), fun _ _ h => h, fun _ h => .inl h⟩
  refine ⟨e, W.len, fun a h => ?_, W.nd, fun j a m h1 h2 => ?_, fun a h x q z => ?_, fun p hp => ⟨(W.tab p hp).1, (W.tab p hp).2.1, T p hp⟩, fun a h x z => ?_⟩
  · by_cases ea : a = P
    · obtain ⟨ps, h1⟩ := atP
      rw [ea, h1]
      exact fun z => nomatch z
    · cases q : H a with
      | none => exact absurd q (W.trk a h)
      | some o => rw [k a o ea q]; exact fun z => nomatch z
  · have ne : a ≠ P := fun z => nT (by rw [← z]; exact List.mem_of_getElem? h1)
    exact (W.cell j a m h1 h2).extL e (fun z => z) fun o q => k a o ne q
  · by_cases ea : a = P
    · obtain ⟨ps, h1⟩ := atP
      rw [ea, h1] at z
      exact codeO_ne ps (Option.some.inj z).symm
    · cases q' : H a with
      | none => exact W.trk a h q'
      | some o =>
        rw [k a o ea q'] at z
        cases z
        exact W.nx a h x q q'
  · by_cases ea : a = P
    · obtain ⟨ps, h1⟩ := atP
      rw [ea, h1] at z
      cases z
    · cases q' : H a with
      | none => exact W.trk a h q'
      | some o =>
        rw [k a o ea q'] at z
        cases z
        exact W.nt a h x q'
section
variable {X : Cx} {pins : List (Addr × Obj)} {σ : L2.St} {H : Hp} {s : Shared}
/-- the lambda's object is made: all but the maker's table stays -/
theorem lam_make3 {T : List (Addr × Str)} {c P : Addr} {params : Arguments} {body : Expr} {scope : Scope} {pos : Pos} {E : Value → Shared → Prop} {Q : Value → Shared → Prop} (I : Inv X pins σ H s) (TB : TabB X.base X.mg c P) (hcode : X.env.code = .ref c)
    (hm : (P, X.env.qual ++ "<lambda>") ∈ T) (hu : ∀ p ∈ T, p.1 = P → p.2 = X.env.qual ++ "<lambda>") (hT : Tabs T H) (hdef : defaultsOf params X.env = ([], [])) (hfree : ∀ y ∈ scope.names, y.2 = .free → ∃ c, X.env.cells.lookup y.1 = some c)
    (q : ∀ (f c' : Addr) (pm ctv : Value) (H1 : Hp) (s' : Shared), Inv X pins σ H1 s' → (∀ b o, b ≠ P → H b = some o → H1 b = some o) → Tabs T H1 →
      s'.heap.get? f = some (PySem.W.kla_obj "<lambda>" (X.env.qual ++ "<lambda>") params body scope (cloFrom X.env.cells scope.names []) pm c' ctv) → H1 f = none → f ∉ frs X.stack → H1 c' = some (CodeO c' (X.env.qual ++ "<lambda>")) → Q (.ref f) s') :
    wpAny (model X.prog X.w) X.A (eval (.Lambda params body scope pos) X.env) Q E s := by
  obtain ⟨ps, hP, ht, ha⟩ := hT _ hm
  have bP : s.heap.BuiltinsAt X.mg P := TB.bm.keeps I.bk
  have gP : s.heap.get? P = some { cls := .none, data := .fields ps } := I.hok P _ hP
  have nofr : ∀ f, s.heap.objs.size ≤ f → f ∉ frs X.stack := fun f hf z => (List.mem_cons.mp (I.stkSub _ z)).elim (fun e => by
    have h1 := I.lt
    rw [← e] at h1
    exact Nat.lt_irrefl _ (Nat.lt_of_lt_of_le h1 hf)) fun e => I.nofs hf e
  refine PySem.W.kla_eval hdef ?_
  cases hc : codeAmong pos ps.toList with
  | none =>
    refine PySem.W.kla_makeFunction (mg := X.mg) (c := c) (P := P) (ps := ps) (closure_ok hfree) I.ok.glob (I.mod.glob.keeps I.bk) hcode (TB.code.keeps I.bk) gP ht hc TB.gP bP fun c' ctv h1 tk keep ge lt rec tab => ?_
    obtain ⟨_, oc, vs, t, e2, hoc, hd, hv⟩ := rec
    cases e2
    have sz : s.heap.objs.size ≤ h1.objs.size := Nat.le_trans ge (Nat.le_of_lt lt)
    have nC : H c' = none := I.hok.fresh ge
    have J := inv_table (t' := tk) (more := #[rawInt pos.line, rawInt pos.col, .ref c']) (h' := h1.push (PySem.W.kla_obj "<lambda>" (X.env.qual ++ "<lambda>") params body scope (cloFrom X.env.cells scope.names []) ((X.mg "__name__").getD .none) c' ctv)) I hP
      (fun b o hb e => Heap.get?_push_of_some _ (keep b o hb e)) (Heap.get?_push_of_some _ tab) ge ⟨oc, vs, t, Heap.get?_push_of_some _ hoc, hd, hv⟩
    have stays : ∀ b o, b ≠ P → H b = some o → upd (upd H P (.tbl (ps ++ #[rawInt pos.line, rawInt pos.col, .ref c']))) c' (CodeO c' (X.env.qual ++ "<lambda>")) b = some o := fun b o hb e => by
      rw [upd_ne (ne_of_none e nC), upd_ne hb]
      exact e
    have grow : (ps ++ #[rawInt pos.line, rawInt pos.col, .ref c']).toList = ps.toList ++ [rawInt pos.line, rawInt pos.col, .ref c'] := by simp
    refine q h1.objs.size c' ((X.mg "__name__").getD .none) ctv _ _ J stays (fun p hp => ?_) (Heap.get?_push_size _ rfl) ?_ (nofr _ sz) upd_same
    · have notP : ∀ {c0 : Addr}, H c0 = some (CodeO c0 p.2) → upd (upd H P (.tbl (ps ++ #[rawInt pos.line, rawInt pos.col, .ref c']))) c' (CodeO c' (X.env.qual ++ "<lambda>")) c0 = some (CodeO c0 p.2) := fun {c0} e => stays _ _ (fun z => by
        rw [z, hP] at e
        exact codeO_ne ps (Option.some.inj e).symm) e
      by_cases hb : p.1 = P
      · have eq := hu p hp hb
        rw [hb]
        refine ⟨_, by rw [upd_ne (ne_of_none hP nC), upd_same], by rw [grow]; exact PySem.TriplesOk_snoc _ _ _ _ ht, fun p' cv hcv => ?_⟩
        rw [grow] at hcv
        rcases among_app _ ht hcv with z | z
        · obtain ⟨c0, e1, e2⟩ := ha p' cv z
          rw [← eq] at e2
          exact ⟨c0, e1, notP e2⟩
        · rw [eq]
          exact ⟨c', z, upd_same⟩
      · obtain ⟨ps', a1, a2, a3⟩ := hT p hp
        refine ⟨ps', stays _ _ hb a1, a2, fun p' cv hcv => ?_⟩
        obtain ⟨c0, e1, e2⟩ := a3 p' cv hcv
        exact ⟨c0, e1, notP e2⟩
    · rw [upd_ne (Nat.ne_of_gt lt), upd_ne (Nat.ne_of_gt (Nat.lt_of_lt_of_le (Heap.lt_size gP) sz))]
      exact I.hok.fresh sz
  | some cv =>
    obtain ⟨c', rfl, hco⟩ := ha pos cv hc
    refine PySem.W.kla_makeFunctionHit (mg := X.mg) (c := c) (P := P) (ps := ps) (closure_ok hfree) I.ok.glob (I.mod.glob.keeps I.bk) hcode (TB.code.keeps I.bk) gP ht hc bP fun ctv h1 tk keep sz => ?_
    have J : Inv X pins σ H { s with heap := h1.push (PySem.W.kla_obj "<lambda>" (X.env.qual ++ "<lambda>") params body scope (cloFrom X.env.cells scope.names []) ((X.mg "__name__").getD .none) c' ctv), toks := tk } := I.kept fun b o e => Heap.get?_push_of_some _ (keep b o e)
    exact q h1.objs.size c' ((X.mg "__name__").getD .none) ctv H _ J (fun _ _ _ h => h) hT (Heap.get?_push_size _ rfl) (I.hok.fresh sz) (nofr _ sz) hco
end
/-- the context of the lambda's body -/
def lamN (X : Cx) (A : Around) (outer : List Env) (s : Shared) (H : Hp) (E : XK) (scope : Scope) (f c' : Addr) : Cx :=
  { lamCx X A outer s H E scope f c' with xe := fun e s' => wpAny (model X.prog X.w) (A.deeper (lamEnv X scope s.heap.objs.size f c')) (leaving (lamEnv X scope s.heap.objs.size f c') e) (fun _ s'' => L2N.CX X.prog X.w outer H s E e s'') (fun e' s'' => L2N.CX X.prog X.w outer H s E e' s'') s' }
section
variable {X : Cx} {pins : List (Addr × Obj)} {σ : L2.St} {H HZ : Hp} {s s1 : Shared}
theorem lamN_start {A : Around} {outer : List Env} {E : XK} {scope : Scope} {f c' : Addr} {h1 : Heap} {tk : Nat} (I : Inv X pins σ H s) (L : LamS X.env.scope scope) (e0 : Env0 X.prog X.w X.K X.mg X.base A outer s1 HZ) (hd : A.handled = none)
    (un : Un (frs X.stack) [] H HZ s.heap s1.heap) (hns : h1.Ns s1.heap.objs.size fun y => ([] : List (Str × Value)).reverse.lookup y) (kp : ∀ b o, s1.heap.get? b = some o → h1.get? b = some o) :
    Inv (lamN X A outer s1 HZ E scope f c') [] σ HZ { s1 with heap := h1, toks := tk } :=
  Inv.toTry (lam_start2 (E := E) (f := f) (c' := c') (tk := tk) I L e0 hd un hns kp) (lamN X A outer s1 HZ E scope f c').xe
/-- x(), in the def that got the lambda -/
theorem pe_actN {CXg : CXT} {Eg : XK} {Ng : List Str} {qg : Str} {sg : Scope} {g f c' : Addr} {cdg pm ctv : Value} {params : Arguments} {body : Expr} {scope : Scope} {k i : Nat} {a : Str} {pn : List (Addr × Obj)} {xe : Value → Shared → Prop} {W : WX} {t : XK → TE} {p1 p2 : Pos}
    (I : Inv X pins σ H s) (L : LamS X.env.scope scope) (hf : s.heap.get? f = some (PySem.W.kla_obj "<lambda>" (X.env.qual ++ "<lambda>") params body scope (cloFrom X.env.cells scope.names []) pm c' ctv)) (hfn : H f = none) (hfr : f ∉ frs X.stack)
    (hbind : bindArgs (PySem.W.kla_fn "<lambda>" (X.env.qual ++ "<lambda>") params body scope (cloFrom X.env.cells scope.names []) pm (.ref c') ctv) ⟨[], []⟩ = pure [])
    (tk : L2N.Takes ((cxOf CXg X.prog X.w X.K X.mg X.base Ng qg sg g cdg X.A X.stack s H Eg).tr pn xe) W) (hr : Room (k + 1) (X.A.deeper (envOfC qg sg s.heap.objs.size g cdg)))
    (hbody : ∀ (A : Around) (outer : List Env) (s : Shared) (H : Hp) (E : XK), Room k (A.deeper (lamEnv X scope s.heap.objs.size f c')) → PE (lamN X A outer s H E scope f c') body (t E))
    (hN : Ng[i]? = some a) (hv : Vis sg a) (hd : (a == ("__debug__" : Str)) = false) (hcd : (a == ("__classdict__" : Str)) = false) :
    PE ((cxOf CXg X.prog X.w X.K X.mg X.base Ng qg sg g cdg X.A X.stack s H Eg).tr pn xe) (.Call (.Name a p1) [] [] p2)
      (fun σZ HZ Q => σZ[i]? = some (some (.ref f)) ∧ HZ c' = some (CodeO c' (X.env.qual ++ "<lambda>")) ∧ t (L2.WE W σZ) σ HZ Q) := by
  refine ⟨fun pinsZ sZ σZ HZ Q IZ q => ?_⟩
  obtain ⟨hs, hc, ht⟩ := q
  refine wpAny_Call_Name_kw (thn ((pe_var (pos := p1) (i := i) hN hv hd hcd).run pinsZ sZ σZ HZ (fun v H1 => v = .ref f ∧ H1 = HZ) IZ ⟨.ref f, hs, rfl, rfl⟩) fun u s1 ⟨v, H1, I1, r1, ev, eH⟩ => ?_)
  subst ev eH
  obtain rfl : u = Value.ref f := r1
  have there : s1.heap.get? f = some (PySem.W.kla_obj "<lambda>" (X.env.qual ++ "<lambda>") params body scope (cloFrom X.env.cells scope.names []) pm c' ctv) := I1.base.keep f _ hf hfn hfr (fun z => nomatch (show f ∈ ([] : List Addr) from z))
  refine PySem.W.callWith_F0 ⟨_, _, _, _, there⟩ ?_
  have un : Un (frs X.stack) [] H H1 s.heap s1.heap := I1.base
  obtain ⟨⟨oc, vs, tt, hoc, hdc, hvc⟩, _, _⟩ := I1.hok c' _ hc
  have run : codeAny (model X.prog X.w) (X.A.deeper (envOfC qg sg s.heap.objs.size g cdg)) (.call (.ref f) ⟨[], []⟩) (CR (L2N.CX X.prog X.w) (envOfC qg sg s.heap.objs.size g cdg :: X.stack) X.prog X.w H1 s1 Q (L2.WE W σZ)) s1 := by
    refine PySem.W.kla_callFunE hr.depth there rfl L.co L.gen rfl ⟨c', oc, vs, tt, rfl, hoc, hdc, hvc⟩ ?_
    rw [hbind]
    refine wpAny_pure (wpAny_newFunctionEnv (fun y hy => (L.own y hy).2) (fun y hy => absurd hy (by simp)) (fun h1 hns hsb => ⟨I1.nolimit.fresh _ hsb, ?_⟩) L.kind)
    show codeAny _ _ (.expr body (lamEnv X scope s1.heap.objs.size f c')) _ _
    have kp : ∀ b o, s1.heap.get? b = some o → h1.get? b = some o := fun b o e => hsb.extBut b o (Nat.ne_of_lt (Heap.lt_size e)) (Heap.get?_push_of_some _ e)
    have J : Inv (lamN X (X.A.deeper (envOfC qg sg s.heap.objs.size g cdg)) (envOfC qg sg s.heap.objs.size g cdg :: X.stack) s1 H1 (L2.WE W σZ) scope f c') [] σ H1 { s1 with heap := h1, toks := s1.toks + ([] : List (Str × Value)).length } :=
      lamN_start I L I1.env0 hr.hd un hns kp
    refine PySem.W.kla_codeExpr (wpAny_mono ((hbody _ _ s1 H1 _ (hr.deeper _)).run [] _ _ H1 Q J ht) (fun v s' hq => ?_) fun e s' hq => hq)
    obtain ⟨w', H', J', rv, q⟩ := hq
    exact ⟨w', H', J'.os, J'.bare, J'.base, J'.hok, rv, q⟩
  refine wpAny_call (codeAny_mono run fun r s' hq => ?_)
  cases r with
  | error e => exact L2N.passAt tk σZ pinsZ H1 s1 e s' I1 hq
  | ok fl =>
    cases fl with
    | ret u => exact I1.after hq
    | next => exact False.elim hq
    | brk => exact False.elim hq
    | cont => exact False.elim hq
end
end Ib

set_option Elab.async false
set_option linter.all false
set_option maxRecDepth 100000
set_option maxHeartbeats 4000000
/-! _law_try(lambda: ..): what is told, or the error's short name. -/
namespace Ib
open PySem PySem.Spec PyProof.Rows L2 HotX L2H LamX
abbrev toldL : List Nat := [116, 111, 108, 100]
/-- ("told", result), or the short name of what was raised -/
def eTry (NT : List (Str × List Nat)) (gb : EDen) : EDen := fun sl ce => match gb sl ce with
  | .ok d ce1 => .ok (.tup [.str toldL, (frz ce1 d).1]) (frz ce1 d).2
  | .ex x ce1 => match NT.lookup x with
    | some nm => .ok (.str nm) ce1
    | none => .bad
  | .bad => .bad
/-- the def that tries -/
structure TryF (P : Program) (w : World) (K : PySem.W.Frag) (mg : Str → Option Value) (base : Heap) (k : Nat) (st : Stmt) (g : Addr) (fd : FuncData) (NT : List (Str × List Nat)) (NE fN : Addr) (fdN : FuncData) (psN : List Str) : Prop where
  F : Fun K "_law_try" "_law_try" st g fd
  m : mg "_law_try" = some (.ref g)
  S : FnScope ["_law_door", "_law_found", "_law_e"] ["_law_door"] (defScope st)
  b : Binds K fd ["_law_door"] []
  l1 : (defScope st).names.lookup ("_law_door" : Str) = some NameKind.local
  l2 : (defScope st).names.lookup ("_law_found" : Str) = some NameKind.local
  l3 : (defScope st).names.lookup ("_law_e" : Str) = some NameKind.local
  g1 : (defScope st).names.lookup ("NoteError" : Str) = some NameKind.globalImplicit
  g2 : (defScope st).names.lookup ("_law_name_of" : Str) = some NameKind.globalImplicit
  body : ∃ (p1 p2 p3 p4 p5 p6 p7 p8 p9 p10 p11 p12 p13 p14 p15 p16 p17 p18 p19 : Pos) (j1 j2 k1 : Nat), defBody st = [.Assign [.Name "_law_found" p1] (.Constant .none j1 p2) p3,
    .Try [.Assign [.Name "_law_found" p4] (.Tuple [.Constant (.str "told") j2 p5, .Call (.Name "_law_door" p6) [] [] p7] k1 p8) p9] [.ExceptHandler (some (.Name "NoteError" p10)) (some "_law_e") [.Assign [.Name "_law_found" p11] (.Call (.Name "_law_name_of" p12) [.Name "_law_e" p13] [] p14) p15] p16] [] [] p17,
    .Return (some (.Name "_law_found" p18)) p19]
  mE : mg "NoteError" = some (.ref NE)
  mN : mg "_law_name_of" = some (.ref fN)
  kN : PySem.W.keepIn K (.ref fN) = true
  bN : Binds K fdN psN []
  lN : psN.length = 1
  tab : ∀ x nm, NT.lookup x = some nm → okS nm ∧ ∃ D, mg x = some (.ref D) ∧ PySem.W.exmOne K (.ref D) (.ref NE) = some true ∧ FnP P w K mg base k fN fdN psN D nm
section
variable {X : Cx} {W : WX} {k : Nat} {st : Stmt} {g : Addr} {fd : FuncData} {NT : List (Str × List Nat)} {NE fN : Addr} {fdN : FuncData} {psN : List Str} {params : Arguments} {body : Expr} {scope : Scope} {gb : EDen} {c P : Addr} {p lpos pos : Pos}
abbrev tryCx (X : Cx) (st : Stmt) (g : Addr) (cdv : Value) (s' : Shared) (H1 : Hp) : Cx := (cxOf C8.CX0 X.prog X.w X.K X.mg X.base ["_law_door", "_law_found", "_law_e"] "_law_try" (defScope st) g cdv X.A X.stack s' H1 C8.E0).nox
theorem je_try (B : TryF X.prog X.w X.K X.mg X.base k st g fd NT NE fN fdN psN) (TB : TabB X.base X.mg c P) (hcode : X.env.code = .ref c) (hmT : (P, X.env.qual ++ "<lambda>") ∈ tbls (cfg X)) (hu : ∀ p ∈ tbls (cfg X), p.1 = P → p.2 = X.env.qual ++ "<lambda>")
    (hr : Room (k + 2) X.A) (hg : Gl X "_law_try") (L : LamS X.env.scope scope) (hdef : defaultsOf params X.env = ([], []))
    (hbind : ∀ (q : Str) (cl : List (Str × Addr)) (pm cv ctv : Value), bindArgs (PySem.W.kla_fn "<lambda>" q params body scope cl pm cv ctv) ⟨[], []⟩ = pure [])
    (hbody : ∀ (A : Around) (outer : List Env) (s : Shared) (H : Hp) (E : XK) (f c' : Addr), Room k (A.deeper (lamEnv X scope s.heap.objs.size f c')) → JE (lamN X A outer s H E scope f c') (fun cls d _ H => E cls d H) body gb)
    (he : starEach [.Lambda params body scope lpos] X.env = (false, eval (.Lambda params body scope lpos) X.env) :: starEach [] X.env) (hpl : (backTo pos (starEach [] X.env)).any (·.1) = false) :
    JE X W (.Call (.Name "_law_try" p) [.Lambda params body scope lpos] [] pos) (eTry NT gb) := by
  refine ⟨fun pins s σ H Q I h => ?_⟩
  obtain ⟨τ, O, sl, ce, w0, s0, h⟩ := h
  obtain ⟨oc, od, kV, doc, pm0, an, cdv, ct, osl, efd, lk, hcd⟩ := B.F.ex
  have hT : Tabs (tbls (cfg X)) H := fun p hp => (w0.tab p hp).2.2
  refine wpAny_Call_Name_kw (ld_glob I hg B.m ?_ (by decide))
  refine PySem.W.callWith_K (h₀ := X.base) I.ok.mod.kin B.F.kp ?_ he hpl
  show wpAny _ _ (spliced ((false, eval (.Lambda params body scope lpos) X.env) :: backTo pos (starEach [] X.env))) _ _ s
  refine Calls.spliced_cons (lam_make3 I TB hcode hmT hu hT hdef (L.has I.ok) fun f c' pm' ctv H1 s' I1 keep T1 hf hfn hfr hco => ?_)
  refine Calls.spliced_nil ⟨I1.kIn, ?_⟩
  obtain ⟨eT, wT⟩ := w0.tabs (List.mem_map.mpr ⟨_, hmT, rfl⟩) keep T1
  have sT := s0.ext eT
  have hT1 := PostG.ext eT h
  obtain ⟨p1, p2, p3, p4, p5, p6, p7, p8, p9, p10, p11, p12, p13, p14, p15, p16, p17, p18, p19, j1, j2, k1, hB⟩ := B.body
  subst efd
  have run : codeAny (model X.prog X.w) X.A (.call (.ref g) ⟨[.ref f], []⟩) (CR C8.CX0 X.stack X.prog X.w H1 s' Q C8.E0) s' := by
    refine run_ofS (N := ["_law_door", "_law_found", "_law_e"]) (ps := ["_law_door"]) (us := [.ref f]) (vs := [.ref f]) lk hcd B.S hr I1.env0 (B.b s' [.ref f] I1.kIn rfl) (.cons rfl .nil) rfl fun hr' => ?_
    have vf : Vis (defScope st) ("_law_found" : Str) := .inl B.l2
    have dS : ∀ (a : Addr) (oe : Obj) (cls : Value) (d : Option Addr) (pn : List (Addr × Obj)), L2N.Zn cls d oe → (∃ vs, oe.data = .fields vs) →
        PSs ((tryCx X st g cdv s' H1).suite a ((a, oe) :: pn)) [.Assign [.Name "_law_found" p11] (.Call (.Name "_law_name_of" p12) [.Name "_law_e" p13] [] p14) p15] (fun D σ H => d = none ∧ tAsg (tCallP (cfg X) X.base k fN fdN psN a cls 2) (gName 1) D σ H) :=
      fun a oe cls d pn hz hfl => ⟨fun pins s σ H D I q => by
        obtain ⟨hd0, q⟩ := q
        exact (pss_one (X := (tryCx X st g cdv s' H1).suite a ((a, oe) :: pn)) (ps_set (i := 1) B.S.nd rfl (.inl B.l2) (pe_callP (X := (tryCx X st g cdv s' H1).suite a ((a, oe) :: pn)) (x := "_law_name_of") (n := "_law_e") (i := 2) (p := p12) (p1 := p13) (pos := p14) (cls := cls) List.mem_cons_self rfl hz hd0 hfl (k := k) ⟨(hr'.mono (Nat.le_succ k)).dp, (hr'.mono (Nat.le_succ k)).un⟩ B.bN B.lN B.g2 B.mN B.kN rfl (.inl B.l3) (by decide) (by decide) (by decide) rfl rfl) rfl (.inr B.l2))).run pins s σ H D I q⟩
    have dB : ∀ (W : WX) (pn : List (Addr × Obj)) (xe : Value → Shared → Prop), L2N.Takes ((tryCx X st g cdv s' H1).tr pn xe) W →
        PSs ((tryCx X st g cdv s' H1).tr pn xe) [.Assign [.Name "_law_found" p4] (.Tuple [.Constant (.str "told") j2 p5, .Call (.Name "_law_door" p6) [] [] p7] k1 p8) p9]
          (tAsg (tTup (tCons (tC (.str "told")) (tCons (fun σZ HZ Q => σZ[0]? = some (some (.ref f)) ∧ HZ c' = some (CodeO c' (X.env.qual ++ "<lambda>")) ∧ tE (cfg X) (fun cls d _ H => L2.WE W σZ cls d H) gb σ HZ Q) tNil))) (gName 1)) :=
      fun W pn xe tk => pss_one (X := (tryCx X st g cdv s' H1).tr pn xe) (ps_set (i := 1) B.S.nd rfl (.inl B.l2)
              (pe_tup (pa_cons pe_str (pa_cons (pe_actN (CXg := C8.CX0) (Eg := C8.E0) (p1 := p6) (p2 := p7) (t := fun E => tE (cfg X) (fun cls d _ H => E cls d H) gb) I1 L hf hfn hfr (hbind _ _ _ _ _) tk hr' (fun A outer s H E hr2 => hbody A outer s H E f c' hr2) rfl (.inl B.l1) (by decide) (by decide)) pa_nil rfl) rfl)) rfl (.inr B.l2))
    refine ⟨?t, PSs.nox (X := cxOf C8.CX0 X.prog X.w X.K X.mg X.base ["_law_door", "_law_found", "_law_e"] "_law_try" (defScope st) g cdv X.A X.stack s' H1 C8.E0) ?d, ?q⟩
    case d =>
      rw [hB]
      exact pss_cons (ps_set (i := 1) B.S.nd rfl (.inl B.l2) pe_non rfl (.inr B.l2))
        (pss_cons (L2N.ps_try_as (X := tryCx X st g cdv s' H1) (c := .ref NE) (i := 2) (Wout := fun _ _ _ _ => False)
            rfl rfl B.S.nd rfl B.l3 ⟨B.g1, by decide, .inl B.mE⟩ takes0N (fun W pn xe tk _ => dB W pn xe tk) dS)
          (pss_one (ps_ret (pe_var (i := 1) rfl vf))))
    case q =>
      refine ⟨rfl, hco, τ, O, sl, ce, wT, sT, ?_⟩
      unfold eTry at hT1
      cases hg : gb sl ce with
      | ok d ce1 =>
        rw [hg] at hT1
        intro τ' O' H' e' w' v r
        refine ⟨by show 2 ≤ sizeLine; decide, fun p hp => ⟨.ref p, rfl, ?_⟩⟩
        obtain ⟨O2, e2, w2, r2⟩ := frz_ok w' r
        have sm := same_upd (o := .tup [V.str "told", v]) hp
        refine hT1 τ' O2 _ ((e'.trans e2).trans (.same sm)) (w2.same sm) _ (RepT.rep (new_tup w2.trk hp (repTs_cons.mpr ⟨_, _, rfl, repT_str.mpr ⟨?_, okS_by (by decide +kernel)⟩, RepTs.one r2⟩)))
        exact congrArg V.str (show _ = toStr toldL by decide +kernel)
      | ex x ce1 =>
        rw [hg] at hT1
        dsimp only at hT1
        intro τ' O' H' e' w' cls hc
        cases hn : NT.lookup x with
        | none => rw [hn] at hT1; exact hT1.elim
        | some nm =>
          rw [hn] at hT1
          obtain ⟨hnm, D, mD, xD, fD⟩ := B.tab x nm hn
          have ec : cls = .ref D := by
            rw [show X.mg x = some cls from hc] at mD
            exact Option.some.inj mD
          refine ⟨true, by rw [ec]; exact xD, fun _ a na => ⟨rfl, D, nm, ec, fD, rfl, τ', O', ce1, w', fun τ2 O2 H2 e2 w2 => ⟨_, rfl, ?_⟩⟩, fun z => nomatch z⟩
          exact hT1 τ2 O2 H2 (e'.trans e2) w2 _ (RepT.rep (repT_str.mpr ⟨rfl, hnm⟩))
      | bad => rw [hg] at hT1; exact hT1.elim
  refine wpAny_call (codeAny_mono run fun r s2 hq => ?_)
  cases r with
  | error e => exact (show False from hq).elim
  | ok fl =>
    cases fl with
    | ret u => exact I1.after hq
    | next => exact False.elim hq
    | brk => exact False.elim hq
    | cont => exact False.elim hq
end
end Ib

set_option Elab.async false
set_option linter.all false
set_option maxRecDepth 100000
set_option maxHeartbeats 4000000
/-! Defs that make lambdas: their code known; classes raised; the law's end with tables. -/
namespace Ib
open PySem PySem.Spec PyProof.Rows L2 HotX L2H LamX
/-- what raising the class of the name x at C asks -/
structure ClsR (K : PySem.W.Frag) (mg : Str → Option Value) (x : Str) (C : Addr) : Prop where
  q : PySem.W.excIn K C [.type "ValueError", .type "Exception", .type "BaseException", .type "object"] "ValueError.__new__" = true
  m : mg x = some (.ref C)
  k : PySem.W.keepIn K (.ref C) = true
  s : PySem.W.subIn K (.ref C) (.type "BaseException") = some true
  t : PySem.W.typeIn K (.ref C) = some (.type "type")
theorem js_raiseC {X : Cx} {W : WX} {x m : Str} {C : Addr} {j : Nat} {p p2 pos rpos : Pos} (c : ClsR X.K X.mg x C) (hc : X.calm = true) (tk : L2N.Takes X W) (hg : Gl X x) (hdb : (x == ("__debug__" : Str)) = false) :
    JS X W (.Raise (some (.Call (.Name x p) [.Constant (.str m) j p2] [] pos)) none rpos) (sRaise x) :=
  js_raise hc tk PySem.F.excBase_ValueError c.q c.m c.k (raises_own c.s c.t) hg hdb
/-- a def whose code object is known -/
theorem fn_okC {P : Program} {w : World} {K : PySem.W.Frag} {mg : Str → Option Value} {base : Heap} {x qual : Str} {st : Stmt} {f c : Addr} {fd : FuncData} {N ps : List Str} {k : Nat} {g : SDen} (F : Fun K x qual st f fd) (hc : fd.code = .ref c) (S : FnScope N ps (defScope st))
    (hbody : ∀ (A : Around) (outer : List Env) (s : Shared) (H : Hp) (E : XK), Room k (A.deeper (envOfC qual (defScope st) s.heap.objs.size f (.ref c))) →
      JSs (cxOf (L2N.CX P w) P w K mg base N qual (defScope st) f (.ref c) A outer s H E) (fun cls d _ H => E cls d H) (defBody st) g) :
    FnOk P w K mg base (L2N.CX P w) (k + 1) f fd ps (spG ⟨P, w, K, mg⟩ ps.length (runF ps.length N.length g)) := by
  obtain ⟨oc, od, kV, doc, pm, an, cdv, ct, osl, rfl, lk, hcd⟩ := F.ex
  obtain rfl : cdv = .ref c := hc
  refine fn_of lk hcd S (fun vs H Q E h => ?_) fun A outer s H vs Q E hr h => ?_
  · obtain ⟨τ, O, ce, ds, hl, _⟩ := h
    exact hl
  · obtain ⟨τ, O, ce, ds, hl, w0, r, h⟩ := h
    have hds : ds.length = ps.length := by rw [r.length]; exact hl
    refine ⟨_, hbody A outer s H E hr, τ, O, _, ce, w0, SRep.start N r, ?_⟩
    unfold runF at h
    rw [if_pos hds] at h
    cases q : g (ds.map some ++ List.replicate (N.length - ds.length) none) ce with
    | rt d ce' => rw [q] at h; exact fun τ' O' v H' e w r => fin_ok w0 h e w r
    | nx sl' ce' => rw [q] at h; exact fun τ' O' σ' H' e w _ => fin_ok (v := .non) w0 h e w (RepT.rep (repT_non.mpr rfl))
    | ex y sl' ce' =>
      rw [q] at h
      intro τ' O' σ' H' e w _ cls hc
      obtain ⟨O2, e2, w2, _⟩ := cut_ok w0 e w
      exact h _ _ _ e2 w2 cls hc
    | bk _ _ => rw [q] at h; exact h.elim
    | ct _ _ => rw [q] at h; exact h.elim
    | bad => rw [q] at h; exact h.elim
theorem cal_mkC {P : Program} {w : World} {K : PySem.W.Frag} {mg : Str → Option Value} {base : Heap} {x : Str} {st : Stmt} {f c : Addr} {fd : FuncData} {N ps : List Str} {k : Nat} {g : SDen} (F : Fun K x x st f fd) (hc : fd.code = .ref c) (hm : mg x = some (.ref f)) (S : FnScope N ps (defScope st))
    (hb : ∀ (kV doc pm : Value) (an : Option Addr) (cdv ct : Value) (us : List Value), us.length = ps.length → bindArgs (PySem.W.fnOf x x (defArgs st) (defBody st) (defScope st) .none kV doc pm an cdv ct) ⟨us, []⟩ = pure (ps.zip us))
    (hbody : ∀ (A : Around) (outer : List Env) (s : Shared) (H : Hp) (E : XK), Room k (A.deeper (envOfC x (defScope st) s.heap.objs.size f (.ref c))) →
      JSs (cxOf (L2N.CX P w) P w K mg base N x (defScope st) f (.ref c) A outer s H E) (fun cls d _ H => E cls d H) (defBody st) g) :
    Cal P w K mg base (k + 1) x ps.length (runF ps.length N.length g) := ⟨f, fd, ps, rfl, fn_okC F hc S hbody, hm, F.kp, F.binds hb⟩
/-! tables -/
def csK (K : PySem.W.Frag) : List (Addr × Addr) := LAMS.filterMap (PySem.W.tabIn K)
def tbK (K : PySem.W.Frag) : List (Addr × Str) := LAMS.filterMap fun x => (PySem.W.tabIn K x).map fun p => (p.2, (x ++ ".<locals>.") ++ "<lambda>")
theorem tbls_is {c : Cfg} : tbls c = tbK c.K := rfl
def tbU (K : PySem.W.Frag) : Bool := (tbK K).all fun p => (tbK K).all fun q => !(decide (p.1 = q.1)) || decide (p.2 = q.2)
theorem tb_mem {K : PySem.W.Frag} {x : Str} {c P : Addr} (hx : x ∈ LAMS) (t : PySem.W.tabIn K x = some (c, P)) : (P, (x ++ ".<locals>.") ++ "<lambda>") ∈ tbK K := List.mem_filterMap.mpr ⟨x, hx, by rw [t]; rfl⟩
theorem cs_mem {K : PySem.W.Frag} {x : Str} {c P : Addr} (hx : x ∈ LAMS) (t : PySem.W.tabIn K x = some (c, P)) : (c, P) ∈ csK K := List.mem_filterMap.mpr ⟨x, hx, t⟩
theorem tb_uniq {K : PySem.W.Frag} {q : Str} {P : Addr} (u : tbU K = true) (h : (P, q) ∈ tbK K) : ∀ p ∈ tbK K, p.1 = P → p.2 = q := fun p hp e => by
  have z := List.all_eq_true.mp (List.all_eq_true.mp u p hp) _ h
  simp only [Bool.or_eq_true, Bool.not_eq_true', decide_eq_false_iff_not, decide_eq_true_eq] at z
  exact z.resolve_left fun n => n e
theorem tab_code {K : PySem.W.Frag} {x : Str} {f c P : Addr} {fd : FuncData} {oc : Value} {od : Option Addr} {osl : Array (Option Value)} (a : PySem.W.nsIn K mainGlobals x = some (some (.ref f))) (l : K.lookup f = some ⟨oc, od, .func fd, osl⟩) (t : PySem.W.tabIn K x = some (c, P)) : fd.code = .ref c := by
  unfold PySem.W.tabIn at t
  rw [a] at t
  simp only [l] at t
  split at t
  · rename_i c' hc
    split at t
    · split at t
      · cases t; exact hc
      · cases t
    · cases t
  · cases t
theorem tab_mk {K : PySem.W.Frag} {x : Str} {f c P : Addr} {fd : FuncData} {oc oc2 : Value} {od od2 : Option Addr} {osl osl2 : Array (Option Value)} {vs : Array Value} (a : PySem.W.nsIn K mainGlobals x = some (some (.ref f))) (l : K.lookup f = some ⟨oc, od, .func fd, osl⟩) (hc : fd.code = .ref c) (lc : K.lookup c = some ⟨oc2, od2, .fields vs, osl2⟩)
    (hv : vs[11]? = some (.ref P)) : PySem.W.tabIn K x = some (c, P) := by
  unfold PySem.W.tabIn
  rw [a]
  simp only [l, hc, lc, hv]
theorem law_at {l : PySem.W.OpenLaw} {w : World} {K : PySem.W.Frag} {CX : CXT} {k : Nat} {x : Str} {mg mb : Str → Option Value} {fa : Addr} {h : Heap} {p : Program} {loose : List Str} {mean : ExcName → Option Value} {F : FDen}
    (T : Top p loose mean mg mb h) (X : K.In h) (hN : ((csK K).all fun p => (K.lookup p.2).isNone) = true) (hR : (LAMS.all fun x => ((recsOf p).find? fun e => e.name == x).isSome) = true) (fl : ∀ ns : List Int, ns.length ≤ 1000 → ∃ ce, F [.lst (ns.map D.int)] [] = .ok (.bl true) ce)
    (A : ∃ fd : FuncData, (∀ (s : Shared) (v : Value), BindsTo s fd ⟨[v], []⟩ [(x, v)]) ∧ ∀ base : Heap, K.In base → base.Ns mainGlobals mg → (∀ p ∈ csK K, TabB base mg p.1 p.2) → FnOk l.prog w K mg base CX k fa fd [x] (spG ⟨l.prog, w, K, mg⟩ 1 F)) :
    LawAtS l w K CX k 63 x mg fa h := by
  obtain ⟨fd, hb, hF⟩ := A
  have tab : ∀ p ∈ csK K, PySem.W.CodeHd h p.1 p.2 ∧ h.get? p.2 = some { cls := .none, data := .fields #[] } := fun p hp => by
    obtain ⟨y, hy, t⟩ := List.mem_filterMap.mp hp
    obtain ⟨d, hd⟩ := Option.isSome_iff_exists.mp (List.all_eq_true.mp hR y hy)
    exact PySem.W.tab_of (c := p.1) (P := p.2) T X hd t
  refine ⟨fd, csK K, _, fun p hp => (tab p hp).2, fun p hp => ?_, fun p hp => (tab p hp).1, hb, fun H a ns hl _ hH hS => ?_, hF⟩
  · exact Option.isNone_iff_eq_none.mp (List.all_eq_true.mp hN p hp)
  · refine law_spT (F := F) 63 (fun ns h => fl ns (by omega)) H a ns hl hS fun p hp => ?_
    obtain ⟨y, hy, t⟩ := List.mem_filterMap.mp (show p ∈ LAMS.filterMap _ from hp)
    cases q : PySem.W.tabIn K y with
    | none => rw [show PySem.W.tabIn (Cfg.K ⟨l.prog, w, K, mg⟩) y = none from q] at t; cases t
    | some r =>
      rw [show PySem.W.tabIn (Cfg.K ⟨l.prog, w, K, mg⟩) y = some r from q] at t
      cases t
      exact hH r (List.mem_filterMap.mpr ⟨y, hy, q⟩)
theorem walk_T {l : PySem.W.OpenLaw} {n k : Nat} {q : Program} {loose : List Str} {XP : (Str → Option Value) → Heap → Prop} {YP : World → Heap → Prop} {d : DefRec} {K : Params → PySem.W.Frag} {CX : World → CXT} {x : Str}
    (hn : l.most = some n) (hn2 : n ≤ sizeLine) (hdf : d.params.defaults = []) (hr : Room k callerA) (hY : ∀ (w : World) (h : Heap), YP w h → (K w.params).In h)
    (F : ∀ (w : World) (s0 : Shared) (mg mb : Str → Option Value) (fa : Addr) (h : Heap), (K w.params).In h → Top q (PySem.W.looseW q loose) (ExcName.means s0.heap) mg mb h → mg d.name = some (.ref fa) → LawAtS l w (K w.params) (CX w) k n x mg fa h)
    (hCX : ∀ (w : World) (H : Hp) (s : Shared) (e : Value) (s' : Shared), CX w [] H s (fun _ _ _ => False) e s' → False) :
    PySem.W.WalkO q loose XP YP l.row.toRowW d [] (fun f vs => PySem.call f vs) := by
  refine Att.attach_callB hn hdf fun w s0 s1 mg mb fa o pm cd doc a vs ns G Y ho hd hcd hmg hobj hints hlen hbits hg => ?_
  have KX := hY w _ Y
  obtain ⟨fd, cs, sp, hT, nT, C, hb, hsp, hF⟩ := F w s0 mg mb fa _ KX G.T hmg
  exact law_callTs KX G.T.g G.T.b G.T.builtins G.T.nolimit hg hT nT C G.T.bmain hobj hints (Nat.le_trans hlen hn2) hr hF hb (fun H hH hS => hsp H a ns hlen hbits hH hS) fun H e s' => hCX w H s1 e s'
end Ib

set_option Elab.async false
set_option linter.all false
set_option maxRecDepth 100000
set_option maxHeartbeats 4000000
/-! While an exception is handled: a tuple taken apart. -/
namespace HotX
open PySem PySem.Spec PyProof.Rows
section
variable {prog : Program} {w : World} {A : Around} {E : Value → Shared → Prop} {s : Shared}
theorem tup_end_hot {x1 it a : Addr} {i : Nat} {xs : Array Value} {Q : Option Value → Shared → Prop} (hot : HotAt A x1 s.heap) (n1 : x1 ≠ it) (st : IsTupIter s.heap it a i) (tp : IsTup s.heap a xs) (hx : xs[i]? = none)
    (q : ∀ h', Heap.ExtBut it s.heap h' → Q none { s with heap := h' }) : wpAny (model prog w) A (pyNext (.ref it)) Q E s := by
  obtain ⟨o, ho, hc, hd⟩ := id st
  obtain ⟨oa, hoa, _, na, hda⟩ := tp
  obtain ⟨hh, o1, vs1, g1, d1, c1⟩ := hot
  unfold pyNext
  refine wpAny_bind (wpAny_attempt (wpAny_callSpecial?_slot (name := Str.ofString "__next__") st.typeIs slot_tupleiter_next (wpAny_call_entry slot_tupleiter_next st.typeIs entry_tupleiter_next ?_ (args_tupleiter_next _))))
  show wpAny _ A.in1 (field (.ref it) 0 >>= _) _ _ _
  refine wpAny_bind (wpAny_field ho hd (x := .ref a) rfl ?_)
  show wpAny _ A.in1 (if (Value.ref a == Value.none) = true then _ else _) _ _ _
  rw [if_neg (show ¬ ((Value.ref a == Value.none) = true) from Bool.false_ne_true)]
  show wpAny _ A.in1 (field (.ref it) 1 >>= _) _ _ _
  refine wpAny_bind (wpAny_field ho hd (x := .int i 0) rfl ?_)
  show wpAny _ A.in1 (seqItems? (.ref a) >>= _) _ _ _
  refine wpAny_bind (wpAny_seqItems hoa hda ?_)
  simp only [Int.toNat_natCast, hx]
  refine wpAny_bind (wpAny_rule (wpAny_bind (wpAny_setField ho hd (by simp) ?_)))
  show wpAny _ A.in1 (newExc (.type "StopIteration") [] >>= _) _ _ _
  refine wpAny_bind ?_
  simp only [newExc, newTuple]
  refine wpAny_bind (wpAny_newObj_type ?_ (by size_fits))
  refine wpAny_bind (m := firstArgMember _ _) (wpAny_of_eq (a := Value.none) (by first | rfl | (simp only [firstArgMember]; rfl)) ?_)
  refine wpAny_newObj_type ?_ (by size_fits)
  have g2 : (s.heap.update it (Obj.mapFields (·.setIfInBounds 0 .none))).get? x1 = some o1 := (Heap.get?_update_other _ _ (Ne.symm n1)).trans g1
  refine raiseNew_hot ⟨hh, o1, vs1, Heap.get?_push_of_some _ (Heap.get?_push_of_some _ g2), d1, c1⟩ (Nat.ne_of_lt (Heap.lt_size (Heap.get?_push_of_some _ g2))) (Heap.get?_push_size _ rfl) rfl (by first | (simp; done) | (simp; omega) | (simp only [Array.size_append]; simp; omega)) ?_
  refine wpAny_bind (wpAny_isInstance (T := "StopIteration") (b := true) ⟨_, Heap.get?_update_self _ (Heap.get?_push_size _ rfl) rfl, rfl⟩ isSubtype_stop (wpAny_pure (q _ fun b ob hb e => ?_)))
  have e2 : (s.heap.update it (Obj.mapFields (·.setIfInBounds 0 .none))).get? b = some ob := (Heap.get?_update_other _ _ (Ne.symm hb)).trans e
  rw [Heap.get?_update_other _ _ (Nat.ne_of_gt (Heap.lt_size (Heap.get?_push_of_some _ e2)))]
  exact Heap.get?_push_of_some _ (Heap.get?_push_of_some _ e2)
theorem assign_tup_hot {env : Env} {elts : List Expr} {kk : Nat} {pos : Pos} {x1 a : Addr} {xs : Array Value} {Q : Unit → Shared → Prop} (hot : HotAt A x1 s.heap) (tp : IsTup s.heap a xs) (hn : (assignEach elts env).length = xs.size) (hs : (assignEach elts env).findIdx? (·.1) = none)
    (q : ∀ h', Heap.ExtBut s.heap.objs.size s.heap h' → wpAny (model prog w) A (assignInOrder ((assignEach elts env).map (·.2)) xs.toList) Q E { s with heap := h' }) : wpAny (model prog w) A (assign (.Tuple elts kk pos) env (.ref a)) Q E s := by
  rw [assign_Tuple]
  refine wpAny_bind (wpAny_standAt ?_)
  unfold unpack
  rw [hn, hs]
  refine wpAny_bind (wpAny_holding ?_)
  have la : a ≠ s.heap.objs.size := by obtain ⟨o, ho, _⟩ := tp; exact Nat.ne_of_lt (Heap.lt_size ho)
  have lx : x1 < s.heap.objs.size := by obtain ⟨_, o1, _, g1, _⟩ := hot; exact Heap.lt_size g1
  unfold unpackItems
  refine wpAny_bind ?_
  unfold notIterableAtAll
  refine wpAny_bind (wpAny_specialOf tp.typeIs slot_tuple_iter.lookup (wpAny_pure ?_))
  simp only [Bool.false_eq_true, if_false]
  refine wpAny_bind (wpAny_holding (iter_tuple tp ?_))
  refine wpAny_bind (wpAny_holding (draw_tuple la xs.size 0 _ _ ⟨_, Heap.get?_push_size _ rfl, rfl, rfl⟩ (tp.push _) (by omega) fun h1 it1 sb1 => ?_))
  have all : List.take xs.size (List.drop 0 xs.toList) = xs.toList := (congrArg _ (List.drop_zero)).trans (List.take_of_length_le (by simp))
  rw [all, if_neg (by simp)]
  have hot1 : HotAt A x1 h1 := hot.keeps fun o e => sb1.extBut _ _ (Nat.ne_of_lt lx) (Heap.get?_push_of_some _ e)
  refine wpAny_bind (wpAny_holding (tup_end_hot (s := { s with heap := h1 }) hot1 (Nat.ne_of_lt lx) it1 ((tp.push _).extBut sb1.extBut la) (by simp) fun h2 e2 => ?_))
  simp only [Option.isSome_none, Bool.false_eq_true, if_false]
  exact wpAny_pure (q h2 fun b o hb e => e2 b o hb (sb1.extBut b o hb (Heap.get?_push_of_some _ e)))
end
end HotX
namespace Ib
open PySem PySem.Spec PyProof.Rows L2 HotX L2H LamX
theorem pg_tupH {X : Cx} {es : List Expr} {k : Nat} {t : TGs} {n : Nat} {pos : Pos} (hc : HotC X) (h : PGs X es t) (hn : (assignEach es X.env).length = n) (hst : (assignEach es X.env).findIdx? (·.1) = none) : PG X (.Tuple es k pos) (gTup X.K n t) := by
  refine ⟨fun pins s σ H v u Q I r hw => ?_⟩
  obtain ⟨a, xs, rfl, hq, hl, hw⟩ := hw
  cases r
  obtain ⟨its, rv, ht, hz⟩ := I.tuple hq
  obtain ⟨x1, hot⟩ := hc.at I
  refine assign_tup_hot hot ht (by simp [hn, ← hl, rv.length]) hst fun h' hx => ?_
  exact h.run pins _ σ H xs _ Q (I.kept (t' := s.toks) fun b o e => hx b o (Nat.ne_of_lt (Heap.lt_size e)) e) (by simpa using rv) hw
theorem jg_tupH {X : Cx} {pos : Pos} {es : List Expr} {k : Nat} {us : List Nat} {gs : GsDen} {n : Nat} (hc : HotC X) (h : JGs X es us gs) (hn : (assignEach es X.env).length = n) (hst : (assignEach es X.env).findIdx? (·.1) = none) :
    JG X (.Tuple es k pos) us (gT gs n) := by
  refine ⟨fun pins s σ H v u Q I r hw => ?_⟩
  obtain ⟨τ, O, sl, d, sl', sr, rd, e, q⟩ := hw
  cases d with
  | tup ds =>
    obtain ⟨p, vs, rfl, h1, h2⟩ := repT_tup.mp rd
    unfold gT at e
    simp only at e
    split at e
    · rename_i hl
      exact (pg_tupH hc h hn hst).run pins s σ H _ u Q I r ⟨p, vs, rfl, h1.sq, by rw [← h2.length]; exact hl, τ, O, sl, ds, sl', sr, h2.reps, e, q⟩
    · cases e
  | _ => cases e
/-- je_try, the table's place said of K -/
theorem je_tryK {X : Cx} {W : WX} {k : Nat} {st : Stmt} {g : Addr} {fd : FuncData} {NT : List (Str × List Nat)} {NE fN : Addr} {fdN : FuncData} {psN : List Str} {params : Arguments} {body : Expr} {scope : Scope} {gb : EDen} {c P : Addr} {p lpos pos : Pos} {q : Str}
    (B : TryF X.prog X.w X.K X.mg X.base k st g fd NT NE fN fdN psN) (TB : TabB X.base X.mg c P) (hcode : X.env.code = .ref c) (hq : X.env.qual = q) (hmT : (P, q ++ "<lambda>") ∈ tbK X.K) (hu : tbU X.K = true)
    (hr : Room (k + 2) X.A) (hg : Gl X "_law_try") (L : LamS X.env.scope scope) (hdef : defaultsOf params X.env = ([], []))
    (hbind : ∀ (q : Str) (cl : List (Str × Addr)) (pm cv ctv : Value), bindArgs (PySem.W.kla_fn "<lambda>" q params body scope cl pm cv ctv) ⟨[], []⟩ = pure [])
    (hbody : ∀ (A : Around) (outer : List Env) (s : Shared) (H : Hp) (E : XK) (f c' : Addr), Room k (A.deeper (lamEnv X scope s.heap.objs.size f c')) → JE (lamN X A outer s H E scope f c') (fun cls d _ H => E cls d H) body gb)
    (he : starEach [.Lambda params body scope lpos] X.env = (false, eval (.Lambda params body scope lpos) X.env) :: starEach [] X.env) (hpl : (backTo pos (starEach [] X.env)).any (·.1) = false) :
    JE X W (.Call (.Name "_law_try" p) [.Lambda params body scope lpos] [] pos) (eTry NT gb) := by
  subst hq
  exact je_try B TB hcode hmT (tb_uniq hu hmT) hr hg L hdef hbind hbody he hpl
/-- .. in a def's own context -/
theorem je_tryC {Pg : Program} {w : World} {K : PySem.W.Frag} {mg : Str → Option Value} {base : Heap} {N : List Str} {q : Str} {sc : Scope} {f0 c P : Addr} {A0 : Around} {outer0 : List Env} {s0 : Shared} {H0 : Hp} {E0 : XK} {W : WX} {k : Nat} {st : Stmt} {g : Addr} {fd : FuncData} {NT : List (Str × List Nat)} {NE fN : Addr} {fdN : FuncData} {psN : List Str} {params : Arguments} {body : Expr} {scope : Scope} {gb : EDen} {p lpos pos : Pos}
    (B : TryF Pg w K mg base k st g fd NT NE fN fdN psN) (TB : TabB base mg c P) (hmT : (P, (q ++ ".<locals>.") ++ "<lambda>") ∈ tbK K) (hu : tbU K = true)
    (hr : Room (k + 2) (A0.deeper (envOfC q sc s0.heap.objs.size f0 (.ref c)))) (hg : sc.names.lookup ("_law_try" : Str) = some NameKind.globalImplicit) (L : lamSB sc scope = true) (hdef : ∀ env, defaultsOf params env = ([], []))
    (hbind : ∀ (q : Str) (cl : List (Str × Addr)) (pm cv ctv : Value), bindArgs (PySem.W.kla_fn "<lambda>" q params body scope cl pm cv ctv) ⟨[], []⟩ = pure [])
    (hbody : ∀ (A : Around) (outer : List Env) (s : Shared) (H : Hp) (E : XK) (f c' : Addr), Room k (A.deeper (lamEnv (cxOf (L2N.CX Pg w) Pg w K mg base N q sc f0 (.ref c) A0 outer0 s0 H0 E0) scope s.heap.objs.size f c')) →
      JE (lamN (cxOf (L2N.CX Pg w) Pg w K mg base N q sc f0 (.ref c) A0 outer0 s0 H0 E0) A outer s H E scope f c') (fun cls d _ H => E cls d H) body gb)
    (he : ∀ env, starEach [.Lambda params body scope lpos] env = (false, eval (.Lambda params body scope lpos) env) :: starEach [] env) (hpl : ∀ env, (backTo pos (starEach [] env)).any (·.1) = false) :
    JE (cxOf (L2N.CX Pg w) Pg w K mg base N q sc f0 (.ref c) A0 outer0 s0 H0 E0) W (.Call (.Name "_law_try" p) [.Lambda params body scope lpos] [] pos) (eTry NT gb) :=
  je_tryK (q := q ++ ".<locals>.") B TB rfl rfl hmT hu hr hg (lamS_by L) (hdef _) hbind hbody (he _) (hpl _)
end Ib

set_option Elab.async false
set_option linter.all false
set_option maxRecDepth 100000
set_option maxHeartbeats 4000000
namespace Ib
open PySem PySem.Spec PyProof.Rows L2
local macro_rules | `(tactic| walk_at "w1") => `(tactic| first
  | ((with_reducible refine id_WE ?_); first
    | with_reducible refine we_c ?_
    | with_reducible refine we_var (by with_unfolding_all exact rfl) ?_
    | with_reducible refine we_bin ?_
    | with_reducible refine we_cons ?_
    | with_reducible refine we_nil ?_
    | with_reducible refine we_fn ?_
    | with_reducible refine we_tOf ?_
    | with_reducible refine we_tNot ?_
    | with_reducible refine we_tAnd ?_
    | with_reducible refine we_tOr ?_
    | with_reducible refine we_call ?_
    | with_reducible refine we_if ?_
    | with_reducible refine we_and ?_
    | with_reducible refine we_or ?_
    | with_reducible refine we_not ?_
    | with_reducible refine we_un ?_
    | with_reducible refine we_sl ?_
    | with_reducible refine we_oNone ?_
    | with_reducible refine we_oSome ?_
    | with_reducible refine we_chain ?_
    | with_reducible refine we_tup ?_
    | with_reducible refine we_lst ?_
    | with_reducible refine we_lstC ?_
    | with_reducible refine we_meth0 ?_
    | with_reducible refine we_methR ?_
    | with_reducible refine we_iter ?_
    | with_reducible refine we_src ?_
    | with_reducible refine we_srcC ?_
    | with_reducible refine we_LR ?_
    | with_reducible refine we_rg1 ?_
    | with_reducible refine we_rg2 ?_
    | with_reducible refine we_lrTree ?_
    | with_reducible refine we_lrCell ?_
    | with_reducible refine we_trTree ?_)
  | ((with_reducible refine id_WS ?_); first
    | with_reducible refine ws_seq ?_
    | with_reducible refine ws_set ?_
    | with_reducible refine ws_if ?_
    | with_reducible refine ws_ret ?_
    | with_reducible refine ws_expr ?_
    | with_reducible refine ws_nil ?_
    | with_reducible refine ws_multi ?_
    | with_reducible refine ws_for ?_
    | with_reducible refine ws_retF ?_
    | with_reducible refine ws_retN ?_
    | with_reducible refine ws_break ?_
    | with_reducible refine ws_cont ?_
    | with_reducible refine ws_aug (by with_unfolding_all exact rfl) ?_)
  | ((with_reducible refine id_WSet ?_); first
    | with_reducible refine wset0 ?_
    | with_reducible refine wset1 ?_
    | with_reducible refine wset2 ?_
    | with_reducible refine wset3 ?_
    | with_reducible refine wset4 ?_
    | with_reducible refine wset5 ?_
    | with_reducible refine wset6 ?_
    | with_reducible refine wset7 ?_
    | with_reducible refine wset8 ?_
    | with_reducible refine wset9 ?_
    | with_reducible refine wset10 ?_
    | with_reducible refine wset11 ?_
    | with_reducible refine wset12 ?_
    | with_reducible refine wset13 ?_
    | with_reducible refine wset14 ?_
    | with_reducible refine wset15 ?_)
  | with_reducible refine wsets_cons ?_
  | with_reducible refine wsets_nil ?_
  | with_reducible refine wbl ?_
  | with_reducible refine wint ?_
  | with_reducible refine wif_T ?_
  | with_reducible refine wif_F ?_
  | with_reducible refine wif_nT ?_
  | with_reducible refine wif_nF ?_
  | ((with_reducible refine wtree ?_ ?_ ?_); exact rfl; exact rfl)
  | with_reducible refine wgw_n ?_
  | ((with_reducible refine wgw_t2 ?_ ?_); decide)
  | with_reducible refine wg_n ?_
  | ((with_reducible refine wg_t ?_ ?_); exact rfl)
  | with_reducible refine wsrc_str ?_
  | ((with_reducible refine wsrc_cells ?_ ?_); omega)
  | with_reducible refine wsrc_lst ?_
  | with_reducible refine wsrc_tup ?_
  | with_reducible refine wsrc_en_str ?_
  | with_reducible refine wsrc_en_lst ?_
  | with_reducible refine wsrc_zip_str ?_
  | ((with_reducible refine wsrc_r1 ?_ ?_); omega)
  | ((with_reducible refine wsrc_r1L ?_ ?_ ?_); omega; omega)
  | ((with_reducible refine wsrc_r2 ?_ ?_ ?_); omega; omega)
  | with_reducible refine wloop_C ?_
  | ((with_reducible refine wrg1 ?_ ?_); omega)
  | ((with_reducible refine And.intro ?_ ?_); (with_reducible (first | exact dty_str | exact dty_lst))))
local macro_rules | `(tactic| walk_at "wo") => `(tactic| ((with_reducible refine id_WO ?_); first
  | with_reducible refine wo_add_nat ?_
  | with_reducible refine wo_add_int ?_
  | ((with_reducible refine wo_add_str ?_ ?_); (first | omega | (simp; done) | (simp; omega)))
  | ((with_reducible refine wo_add_lst ?_ ?_); (first | omega | (simp; done) | (simp; omega)))
  | with_reducible refine wo_iadd_nat ?_
  | with_reducible refine wo_iadd_int ?_
  | with_reducible refine wo_sub ?_
  | with_reducible refine wo_neg ?_
  | with_reducible refine wo_eq_sg ?_
  | with_reducible refine wo_ne_sg ?_
  | with_reducible refine wo_eq_str ?_
  | with_reducible refine wo_ne_str ?_
  | with_reducible refine wo_eq_nat ?_
  | with_reducible refine wo_ne_nat ?_
  | with_reducible refine wo_eq_int ?_
  | with_reducible refine wo_ne_int ?_
  | with_reducible refine wo_eq_bl ?_
  | with_reducible refine wo_ne_bl ?_
  | with_reducible refine wo_in_sg ?_
  | with_reducible refine wo_notin_sg ?_
  | with_reducible refine wo_lt ?_
  | with_reducible refine wo_le ?_
  | with_reducible refine wo_gt ?_
  | with_reducible refine wo_ge ?_
  | with_reducible refine wo_ix_strN (by first | assumption | (simp; done)) ?_
  | with_reducible refine wo_ix_lstN (by first | assumption | (simp; done)) ?_
  | with_reducible refine wo_ix_tupN (by first | assumption | (simp; done)) ?_
  | with_reducible refine wo_ix_str (by first | assumption | with_unfolding_all exact rfl) ?_
  | with_reducible refine wo_ix_lst (by first | assumption | with_unfolding_all exact rfl) ?_
  | with_reducible refine wo_ix_tup (by first | assumption | with_unfolding_all exact rfl) ?_
  | with_reducible refine wo_sl_strT ?_
  | with_reducible refine wo_sl_strD1 ?_
  | with_reducible refine wo_sl_strD ?_
  | with_reducible refine wo_sl_str ?_
  | with_reducible refine wo_sl_lstT ?_
  | with_reducible refine wo_sl_lstD ?_
  | with_reducible refine wo_sl_lst ?_
  | with_reducible refine wo_sl_tup ?_
  | with_reducible refine wo_len_map ?_
  | with_reducible refine wo_len_str ?_
  | with_reducible refine wo_len_lst ?_
  | with_reducible refine wo_len_tup ?_
  | with_reducible refine wo_int_bl ?_
  | with_reducible refine wo_int_int ?_
  | with_reducible refine wo_up1 ?_
  | with_reducible refine wo_lo1 ?_
  | with_reducible refine wo_up ?_
  | with_reducible refine wo_lo ?_
  | with_reducible refine wo_islo ?_
  | with_reducible refine wo_isup ?_
  | with_reducible refine wo_all ?_
  | with_reducible refine wo_sum ?_
  | with_reducible refine wo_max2 ?_
  | with_reducible refine wo_min2 ?_
  | with_reducible refine wo_eq_nil ?_
  | with_reducible refine wo_ne_nil ?_
  | with_reducible refine wo_eq_nats ?_
  | with_reducible refine wo_ne_nats ?_
  | with_reducible refine wo_eq_strs ?_
  | with_reducible refine wo_ne_strs ?_
  | with_reducible refine wo_in_strs ?_
  | with_reducible refine wo_notin_strs ?_
  | with_reducible refine wo_in_nats ?_
  | with_reducible refine wo_notin_nats ?_
  | with_reducible refine wo_isnon_non ?_
  | with_reducible refine wo_isnon_int ?_
  | with_reducible refine wo_isnot_non ?_
  | with_reducible refine wo_isnot_int ?_
  | with_reducible refine wo_is_bl ?_
  | with_reducible refine wo_isnot_bl ?_))
local macro_rules | `(tactic| walk_at "wu") => `(tactic| fail)
local macro_rules | `(tactic| walk_at "w") => `(tactic| repeat (first | walk_at "wu" | walk_at "w1" | walk_at "wo"))
theorem lookup_or {x a : Str} {v b : List Nat} {r : List (Str × List Nat)} (h : List.lookup x ((a, b) :: r) = some v) : (x = a ∧ b = v) ∨ List.lookup x r = some v := by
  rw [List.lookup_cons] at h
  split at h
  · rename_i q
    exact .inl ⟨by simpa using q, Option.some.inj h⟩
  · exact .inr h
def NMW : List (List Nat) := [[82, 111, 119], [87, 111, 114, 107, 115], [79, 114, 100, 101, 114], [78, 117, 109, 98, 101, 114], [73, 110, 100, 101, 120], [83, 116, 114, 101, 116, 99, 104], [83, 105, 103, 110], [80, 97, 116, 116, 101, 114, 110], [82, 105, 103, 104, 116], [80, 111, 115, 115, 105, 98, 108, 101], [85, 110, 100, 111]]
theorem we_isE {a : Addr} {b : Bool} {i : Nat} {sl : SEnv} {ce : Cells} {Q : D → Cells → Prop} {E : Str → Cells → Prop} (h : sl[i]? = some (some (.adr a))) (q : Q (.bl b) ce) : WE (eIsE a b i sl ce) Q E :=
  we_eq (by unfold eIsE; rw [h]; exact if_pos rfl) q
theorem ws_out {r : SOut} {d : D} {ce : Cells} (h : WS r (fun _ _ => False) (fun d' ce' => d' = d ∧ ce' = ce) (fun _ _ => False) (fun _ _ => False) (fun _ _ _ => False)) : ∃ ce1, r = .rt d ce1 ∧ ce1.take ce.length = ce := by
  cases h with
  | nx _ _ _ z => exact z.elim
  | rt d' ce' h z => obtain ⟨rfl, rfl⟩ := z; exact ⟨_, h, List.take_length⟩
  | bk _ _ _ z => exact z.elim
  | ct _ _ _ z => exact z.elim
  | ex _ _ _ _ z => exact z.elim
theorem zip_dm : ∀ (ws : List (List Nat)) (bs : List Bool), zipL (ws.map D.str) (bs.map D.bl) = (ws.zip bs).map fun q => D.tup [.str q.1, .bl q.2] := fun ws bs => by
  unfold zipL
  rw [List.zipWith_map, List.zip, List.map_zipWith]
theorem we_nmC {ce : Cells} {a : Option D} {ws : List (List Nat)} {bs : List Bool} {Q : D → Cells → Prop} {E : Str → Cells → Prop} (hl : ws.length = bs.length) (h1 : ws.length ≤ 1000) {x3 x4 x5 : Option D}
    (q : Q (.lst (((ws.zip bs).filter (·.2)).map fun p => .str p.1)) ce) : WE (eComp (eSrcC srcZipH (aCons (eVar 2) (aCons (eVar 1) aNil))) [4, 5] (gT (gsN [4, 5]) 2) (tOf (eVar 5)) (eVar 4) [a, some (.lst (bs.map D.bl)), some (.lst (ws.map D.str)), x3, x4, x5] ce) Q E := by
  with_reducible refine we_compT (ys := ws.zip bs) (h := fun q => D.tup [.str q.1, .bl q.2]) (fun q => q.2) (fun q => .str q.1) (items_C ?_) (by simp; omega) (fun y hy => ?_) (fun _ _ _ => rfl) q
  · walk_at "w"
    refine ⟨_, by unfold srcZipH; exact if_pos (by simpa using hl), ?_, rfl⟩
    rw [zip_dm]
  · walk_at "w"
    intro acc
    refine ⟨?_, fun _ => ?_⟩
    · walk_at "w"
      exact ⟨rfl, rfl⟩
    · walk_at "w"
      exact ⟨rfl, rfl⟩
end Ib

set_option Elab.async false
set_option linter.all false
set_option maxRecDepth 100000
set_option maxHeartbeats 4000000
namespace Ib
open PySem PySem.Spec PyProof.Rows L2
def topS (i : Nat) : Stmt := PySem.Challenge.pw_ibidnotes_k18_whole_written_notes.main.body.getD i (.Pass ⟨0, 0, 0, 0⟩)
local macro_rules | `(tactic| walk_at "w1") => `(tactic| first
  | ((with_reducible refine id_WE ?_); first
    | with_reducible refine we_c ?_
    | with_reducible refine we_var (by with_unfolding_all exact rfl) ?_
    | with_reducible refine we_bin ?_
    | with_reducible refine we_cons ?_
    | with_reducible refine we_nil ?_
    | with_reducible refine we_fn ?_
    | with_reducible refine we_tOf ?_
    | with_reducible refine we_tNot ?_
    | with_reducible refine we_tAnd ?_
    | with_reducible refine we_tOr ?_
    | with_reducible refine we_call ?_
    | with_reducible refine we_if ?_
    | with_reducible refine we_and ?_
    | with_reducible refine we_or ?_
    | with_reducible refine we_not ?_
    | with_reducible refine we_un ?_
    | with_reducible refine we_sl ?_
    | with_reducible refine we_oNone ?_
    | with_reducible refine we_oSome ?_
    | with_reducible refine we_chain ?_
    | with_reducible refine we_tup ?_
    | with_reducible refine we_lst ?_
    | with_reducible refine we_lstC ?_
    | with_reducible refine we_meth0 ?_
    | with_reducible refine we_methR ?_
    | with_reducible refine we_iter ?_
    | with_reducible refine we_src ?_
    | with_reducible refine we_srcC ?_
    | with_reducible refine we_LR ?_
    | with_reducible refine we_rg1 ?_
    | with_reducible refine we_rg2 ?_
    | with_reducible refine we_lrTree ?_
    | with_reducible refine we_lrCell ?_
    | with_reducible refine we_trTree ?_)
  | ((with_reducible refine id_WS ?_); first
    | with_reducible refine ws_seq ?_
    | with_reducible refine ws_set ?_
    | with_reducible refine ws_if ?_
    | with_reducible refine ws_ret ?_
    | with_reducible refine ws_expr ?_
    | with_reducible refine ws_nil ?_
    | with_reducible refine ws_multi ?_
    | with_reducible refine ws_for ?_
    | with_reducible refine ws_retF ?_
    | with_reducible refine ws_retN ?_
    | with_reducible refine ws_break ?_
    | with_reducible refine ws_cont ?_
    | with_reducible refine ws_aug (by with_unfolding_all exact rfl) ?_)
  | ((with_reducible refine id_WSet ?_); first
    | with_reducible refine wset0 ?_
    | with_reducible refine wset1 ?_
    | with_reducible refine wset2 ?_
    | with_reducible refine wset3 ?_
    | with_reducible refine wset4 ?_
    | with_reducible refine wset5 ?_
    | with_reducible refine wset6 ?_
    | with_reducible refine wset7 ?_
    | with_reducible refine wset8 ?_
    | with_reducible refine wset9 ?_
    | with_reducible refine wset10 ?_
    | with_reducible refine wset11 ?_
    | with_reducible refine wset12 ?_
    | with_reducible refine wset13 ?_
    | with_reducible refine wset14 ?_
    | with_reducible refine wset15 ?_)
  | with_reducible refine wsets_cons ?_
  | with_reducible refine wsets_nil ?_
  | with_reducible refine wbl ?_
  | with_reducible refine wint ?_
  | with_reducible refine wif_T ?_
  | with_reducible refine wif_F ?_
  | with_reducible refine wif_nT ?_
  | with_reducible refine wif_nF ?_
  | ((with_reducible refine wtree ?_ ?_ ?_); exact rfl; exact rfl)
  | with_reducible refine wgw_n ?_
  | ((with_reducible refine wgw_t2 ?_ ?_); decide)
  | with_reducible refine wg_n ?_
  | ((with_reducible refine wg_t ?_ ?_); exact rfl)
  | with_reducible refine wsrc_str ?_
  | ((with_reducible refine wsrc_cells ?_ ?_); omega)
  | with_reducible refine wsrc_lst ?_
  | with_reducible refine wsrc_tup ?_
  | with_reducible refine wsrc_en_str ?_
  | with_reducible refine wsrc_en_lst ?_
  | with_reducible refine wsrc_zip_str ?_
  | ((with_reducible refine wsrc_r1 ?_ ?_); omega)
  | ((with_reducible refine wsrc_r1L ?_ ?_ ?_); omega; omega)
  | ((with_reducible refine wsrc_r2 ?_ ?_ ?_); omega; omega)
  | with_reducible refine wloop_C ?_
  | ((with_reducible refine wrg1 ?_ ?_); omega)
  | ((with_reducible refine And.intro ?_ ?_); (with_reducible (first | exact dty_str | exact dty_lst))))
local macro_rules | `(tactic| walk_at "wo") => `(tactic| ((with_reducible refine id_WO ?_); first
  | with_reducible refine wo_add_nat ?_
  | with_reducible refine wo_add_int ?_
  | ((with_reducible refine wo_add_str ?_ ?_); (first | omega | (simp; done) | (simp; omega)))
  | ((with_reducible refine wo_add_lst ?_ ?_); (first | omega | (simp; done) | (simp; omega)))
  | with_reducible refine wo_iadd_nat ?_
  | with_reducible refine wo_iadd_int ?_
  | with_reducible refine wo_sub ?_
  | with_reducible refine wo_neg ?_
  | with_reducible refine wo_eq_sg ?_
  | with_reducible refine wo_ne_sg ?_
  | with_reducible refine wo_eq_str ?_
  | with_reducible refine wo_ne_str ?_
  | with_reducible refine wo_eq_nat ?_
  | with_reducible refine wo_ne_nat ?_
  | with_reducible refine wo_eq_int ?_
  | with_reducible refine wo_ne_int ?_
  | with_reducible refine wo_eq_bl ?_
  | with_reducible refine wo_ne_bl ?_
  | with_reducible refine wo_in_sg ?_
  | with_reducible refine wo_notin_sg ?_
  | with_reducible refine wo_lt ?_
  | with_reducible refine wo_le ?_
  | with_reducible refine wo_gt ?_
  | with_reducible refine wo_ge ?_
  | with_reducible refine wo_ix_strN (by first | assumption | (simp; done)) ?_
  | with_reducible refine wo_ix_lstN (by first | assumption | (simp; done)) ?_
  | with_reducible refine wo_ix_tupN (by first | assumption | (simp; done)) ?_
  | with_reducible refine wo_ix_str (by first | assumption | with_unfolding_all exact rfl) ?_
  | with_reducible refine wo_ix_lst (by first | assumption | with_unfolding_all exact rfl) ?_
  | with_reducible refine wo_ix_tup (by first | assumption | with_unfolding_all exact rfl) ?_
  | with_reducible refine wo_sl_strT ?_
  | with_reducible refine wo_sl_strD1 ?_
  | with_reducible refine wo_sl_strD ?_
  | with_reducible refine wo_sl_str ?_
  | with_reducible refine wo_sl_lstT ?_
  | with_reducible refine wo_sl_lstD ?_
  | with_reducible refine wo_sl_lst ?_
  | with_reducible refine wo_sl_tup ?_
  | with_reducible refine wo_len_map ?_
  | with_reducible refine wo_len_str ?_
  | with_reducible refine wo_len_lst ?_
  | with_reducible refine wo_len_tup ?_
  | with_reducible refine wo_int_bl ?_
  | with_reducible refine wo_int_int ?_
  | with_reducible refine wo_up1 ?_
  | with_reducible refine wo_lo1 ?_
  | with_reducible refine wo_up ?_
  | with_reducible refine wo_lo ?_
  | with_reducible refine wo_islo ?_
  | with_reducible refine wo_isup ?_
  | with_reducible refine wo_all ?_
  | with_reducible refine wo_sum ?_
  | with_reducible refine wo_max2 ?_
  | with_reducible refine wo_min2 ?_
  | with_reducible refine wo_eq_nil ?_
  | with_reducible refine wo_ne_nil ?_
  | with_reducible refine wo_eq_nats ?_
  | with_reducible refine wo_ne_nats ?_
  | with_reducible refine wo_eq_strs ?_
  | with_reducible refine wo_ne_strs ?_
  | with_reducible refine wo_in_strs ?_
  | with_reducible refine wo_notin_strs ?_
  | with_reducible refine wo_in_nats ?_
  | with_reducible refine wo_notin_nats ?_
  | with_reducible refine wo_isnon_non ?_
  | with_reducible refine wo_isnon_int ?_
  | with_reducible refine wo_isnot_non ?_
  | with_reducible refine wo_isnot_int ?_
  | with_reducible refine wo_is_bl ?_
  | with_reducible refine wo_isnot_bl ?_))
local macro_rules | `(tactic| walk_at "wu") => `(tactic| fail)
local macro_rules | `(tactic| walk_at "w") => `(tactic| repeat (first | walk_at "wu" | walk_at "w1" | walk_at "wo"))
local macro_rules | `(tactic| walk_at "wu") => `(tactic| (with_reducible refine we_isE (by with_unfolding_all exact rfl) ?_))
abbrev s_is_from : Stmt := topS 16
theorem sc_is_from : FnScope ["value", "low", "high"] ["value", "low", "high"] (defScope s_is_from) := ⟨rfl, rfl, rfl, by decide +kernel, rfl, by decide +kernel, by decide +kernel⟩
def G_is_from : SDen := (sRet (eAnd (eCall dIsi (aCons (eVar 0) (aCons (eC (.ty "int")) aNil))) (eAnd (eNot (eCall dIsi (aCons (eVar 0) (aCons (eC (.ty "bool")) aNil)))) (eChain dLe dLe (eVar 1) (eVar 0) (eVar 2)))))
def F_is_from : FDen := runF 3 3 G_is_from
theorem w_is_from {a0 a1 a2 : D} {ce : Cells} {Q : D → Cells → Prop} {E : Str → Cells → Prop} (h : WS ((sRet (eAnd (eCall dIsi (aCons (eVar 0) (aCons (eC (.ty "int")) aNil))) (eAnd (eNot (eCall dIsi (aCons (eVar 0) (aCons (eC (.ty "bool")) aNil)))) (eChain dLe dLe (eVar 1) (eVar 0) (eVar 2))))) [some a0, some a1, some a2] ce) (fun _ ce1 => WFin ce.length .non ce1 Q) (fun d ce1 => WFin ce.length d ce1 Q) (fun _ _ => False) (fun _ _ => False) fun x _ ce1 => E x (ce1.take ce.length)) : WE (F_is_from [a0, a1, a2] ce) Q E := run_ws rfl h
theorem cal_is_from {P : Program} {w : World} {K : PySem.W.Frag} {mg : Str → Option Value} {base : Heap} {f : Addr} {fd : FuncData} (F : Fun K "is_from" "is_from" s_is_from f fd) (hm : mg "is_from" = some (.ref f)) (z_bool : mg "bool" = none) (z_int : mg "int" = none) (z_isinstance : mg "isinstance" = none) : Cal P w K mg base 1 "is_from" 3 F_is_from := by
  refine cal_mk (g := G_is_from) (ps := ["value", "low", "high"]) (N := ["value", "low", "high"]) F hm sc_is_from (fun _ _ _ _ _ _ us hl => match us, hl with | [_, _, _], _ => rfl) fun cdv A outer s H E hr => ?_
  exact (js_one (js_ret (je_and (je_callB cj_isi (by rfl) z_isinstance (by decide +kernel) (ja_cons (je_var 0 rfl (Or.inl rfl) (by decide) (by decide)) (ja_cons (je_ty "int" (by rfl) z_int (by decide +kernel) (by decide) (by decide)) ja_nil (by rfl)) (by rfl)) (by decide) (by decide) (by rfl) (by rfl)) (je_and (je_not (je_callB cj_isi (by rfl) z_isinstance (by decide +kernel) (ja_cons (je_var 0 rfl (Or.inl rfl) (by decide) (by decide)) (ja_cons (je_ty "bool" (by rfl) z_bool (by decide +kernel) (by decide) (by decide)) ja_nil (by rfl)) (by rfl)) (by decide) (by decide) (by rfl) (by rfl))) (je_one (je_chain oj_le oj_le (je_var 1 rfl (Or.inl rfl) (by decide) (by decide)) (je_var 0 rfl (Or.inl rfl) (by decide) (by decide)) (je_var 2 rfl (Or.inl rfl) (by decide) (by decide)) (by with_unfolding_all rfl)))))))

abbrev s_is_sign : Stmt := topS 17
theorem sc_is_sign : FnScope ["value"] ["value"] (defScope s_is_sign) := ⟨rfl, rfl, rfl, by decide +kernel, rfl, by decide +kernel, by decide +kernel⟩
def G_is_sign : SDen := (sRet (eAnd (eCall dIsi (aCons (eVar 0) (aCons (eC (.ty "str")) aNil))) (eAnd (eBin dEq (eCall dLen (aCons (eVar 0) aNil)) (eC (.int 1))) (eOr (eBin dEq (eVar 0) (eC (.str [45]))) (eBin dIn (eMeth0 "str" dUpper (eVar 0)) (eC (.str [65, 66, 67, 68, 69, 70, 71, 72, 73, 74, 75, 76, 77, 78, 79, 80, 81, 82, 83, 84, 85, 86, 87, 88, 89, 90])))))))
def F_is_sign : FDen := runF 1 1 G_is_sign
theorem w_is_sign {a0 : D} {ce : Cells} {Q : D → Cells → Prop} {E : Str → Cells → Prop} (h : WS ((sRet (eAnd (eCall dIsi (aCons (eVar 0) (aCons (eC (.ty "str")) aNil))) (eAnd (eBin dEq (eCall dLen (aCons (eVar 0) aNil)) (eC (.int 1))) (eOr (eBin dEq (eVar 0) (eC (.str [45]))) (eBin dIn (eMeth0 "str" dUpper (eVar 0)) (eC (.str [65, 66, 67, 68, 69, 70, 71, 72, 73, 74, 75, 76, 77, 78, 79, 80, 81, 82, 83, 84, 85, 86, 87, 88, 89, 90]))))))) [some a0] ce) (fun _ ce1 => WFin ce.length .non ce1 Q) (fun d ce1 => WFin ce.length d ce1 Q) (fun _ _ => False) (fun _ _ => False) fun x _ ce1 => E x (ce1.take ce.length)) : WE (F_is_sign [a0] ce) Q E := run_ws rfl h
theorem cal_is_sign {P : Program} {w : World} {K : PySem.W.Frag} {mg : Str → Option Value} {base : Heap} {f : Addr} {fd : FuncData} (F : Fun K "is_sign" "is_sign" s_is_sign f fd) (hm : mg "is_sign" = some (.ref f)) (z_isinstance : mg "isinstance" = none) (z_len : mg "len" = none) (z_str : mg "str" = none) {u_LETTERS : Value} (m_LETTERS : mg "LETTERS" = some u_LETTERS) (r_LETTERS : RelV (.str "ABCDEFGHIJKLMNOPQRSTUVWXYZ") u_LETTERS) : Cal P w K mg base 1 "is_sign" 1 F_is_sign := by
  refine cal_mk (g := G_is_sign) (ps := ["value"]) (N := ["value"]) F hm sc_is_sign (fun _ _ _ _ _ _ us hl => match us, hl with | [_], _ => rfl) fun cdv A outer s H E hr => ?_
  exact (js_one (js_ret (je_and (je_callB cj_isi (by rfl) z_isinstance (by decide +kernel) (ja_cons (je_var 0 rfl (Or.inl rfl) (by decide) (by decide)) (ja_cons (je_ty "str" (by rfl) z_str (by decide +kernel) (by decide) (by decide)) ja_nil (by rfl)) (by rfl)) (by decide) (by decide) (by rfl) (by rfl)) (je_and (je_cmp (oj_eq hr.units) (je_callB cj_len (by rfl) z_len (by decide +kernel) (ja_cons (je_var 0 rfl (Or.inl rfl) (by decide) (by decide)) ja_nil (by rfl)) (by decide) (by decide) (by rfl) (by rfl)) je_int (nomark _)) (je_one (je_or (je_cmp (oj_eq hr.units) (je_var 0 rfl (Or.inl rfl) (by decide) (by decide)) (je_str [45] (by decide +kernel) (by decide +kernel)) (nomark _)) (je_one (je_cmp oj_in (je_meth0 PySem.F.plainAttrs_str PySem.F.slot_str_upper PySem.F.type_str_upper mj_upper (je_var 0 rfl (Or.inl rfl) (by decide) (by decide)) (by rfl) (by rfl)) (je_glC (d := .str [65, 66, 67, 68, 69, 70, 71, 72, 73, 74, 75, 76, 77, 78, 79, 80, 81, 82, 83, 84, 85, 86, 87, 88, 89, 90]) (by rfl) m_LETTERS r_LETTERS (by decide) (fun _ _ => repT_str.mpr ⟨congrArg V.str (show _ = toStr [65, 66, 67, 68, 69, 70, 71, 72, 73, 74, 75, 76, 77, 78, 79, 80, 81, 82, 83, 84, 85, 86, 87, 88, 89, 90] by decide +kernel), okS_by (by decide +kernel)⟩)) (by rfl)))))))))

abbrev s_is_row : Stmt := topS 18
theorem sc_is_row : FnScope ["value", "sign"] ["value"] (defScope s_is_row) := ⟨rfl, rfl, rfl, by decide +kernel, rfl, by decide +kernel, by decide +kernel⟩
def G_is_row : SDen := (sRet (eAnd (eCall dIsi (aCons (eVar 0) (aCons (eC (.ty "str")) aNil))) (eAnd (eBin dLe (eCall dLen (aCons (eVar 0) aNil)) (eC (.int 30))) (eCall dAll (aCons (eComp (eIter (eVar 0)) [1] (gN 1) ttYes (eFn F_is_sign (aCons (eVar 1) aNil))) aNil)))))
def F_is_row : FDen := runF 1 2 G_is_row
theorem w_is_row {a0 : D} {ce : Cells} {Q : D → Cells → Prop} {E : Str → Cells → Prop} (h : WS ((sRet (eAnd (eCall dIsi (aCons (eVar 0) (aCons (eC (.ty "str")) aNil))) (eAnd (eBin dLe (eCall dLen (aCons (eVar 0) aNil)) (eC (.int 30))) (eCall dAll (aCons (eComp (eIter (eVar 0)) [1] (gN 1) ttYes (eFn F_is_sign (aCons (eVar 1) aNil))) aNil))))) [some a0, none] ce) (fun _ ce1 => WFin ce.length .non ce1 Q) (fun d ce1 => WFin ce.length d ce1 Q) (fun _ _ => False) (fun _ _ => False) fun x _ ce1 => E x (ce1.take ce.length)) : WE (F_is_row [a0] ce) Q E := run_ws rfl h
theorem cal_is_row {P : Program} {w : World} {K : PySem.W.Frag} {mg : Str → Option Value} {base : Heap} {f : Addr} {fd : FuncData} (F : Fun K "is_row" "is_row" s_is_row f fd) (hm : mg "is_row" = some (.ref f)) (z_all : mg "all" = none) (z_isinstance : mg "isinstance" = none) (z_len : mg "len" = none) (z_str : mg "str" = none) {u_MOST_NOTES : Value} (m_MOST_NOTES : mg "MOST_NOTES" = some u_MOST_NOTES) (r_MOST_NOTES : RelV (.int 30) u_MOST_NOTES) (c_is_sign : Cal P w K mg base 1 "is_sign" 1 F_is_sign) : Cal P w K mg base 2 "is_row" 1 F_is_row := by
  refine cal_mk (g := G_is_row) (ps := ["value"]) (N := ["value", "sign"]) F hm sc_is_row (fun _ _ _ _ _ _ us hl => match us, hl with | [_], _ => rfl) fun cdv A outer s H E hr => ?_
  exact (js_one (js_ret (je_and (je_callB cj_isi (by rfl) z_isinstance (by decide +kernel) (ja_cons (je_var 0 rfl (Or.inl rfl) (by decide) (by decide)) (ja_cons (je_ty "str" (by rfl) z_str (by decide +kernel) (by decide) (by decide)) ja_nil (by rfl)) (by rfl)) (by decide) (by decide) (by rfl) (by rfl)) (je_and (je_cmp oj_le (je_callB cj_len (by rfl) z_len (by decide +kernel) (ja_cons (je_var 0 rfl (Or.inl rfl) (by decide) (by decide)) ja_nil (by rfl)) (by decide) (by decide) (by rfl) (by rfl)) (je_glC (d := .int 30) (by rfl) m_MOST_NOTES r_MOST_NOTES (by decide) (fun _ _ => repT_int.mpr rfl)) (nomark _)) (je_one (je_callB (cj_all rfl) (by rfl) z_all (by decide +kernel) (ja_cons (je_comp rfl sc_is_row.nd (ji_val (je_var 0 rfl (Or.inl rfl) (by decide) (by decide))) (blkOk_by (own := [("sign", 1)]) (N := ["value", "sign"]) (sc := defScope s_is_row) (by decide +kernel)) rfl (fun _ _ _ _ _ => (jg_name 1 sc_is_row.nd rfl (Or.inl rfl) (Or.inr rfl))) (fun _ _ _ _ _ => jts_nil) (fun _ _ _ _ _ => (je_cal takes0N c_is_sign rfl (hr.mono (by omega)) (by rfl) (ja_cons (je_var 1 rfl (Or.inl rfl) (by decide) (by decide)) ja_nil (by rfl)) (ga_cons ga_nil) (by decide) (by rfl) (by rfl))) (fun _ => rfl)) ja_nil (by rfl)) (by decide) (by decide) (by rfl) (by rfl)))))))

abbrev s_works_of : Stmt := topS 19
theorem sc_works_of : FnScope ["row", "found", "sign"] ["row"] (defScope s_works_of) := ⟨rfl, rfl, rfl, by decide +kernel, rfl, by decide +kernel, by decide +kernel⟩
def G_works_of : SDen := (sSeq (sSet 1 (eC (.str []))) (sSeq (sFor (eIter (eVar 0)) (gN 2) (sSet 1 (eBin dAdd (eVar 1) (eIf (tOf (eBin dEq (eVar 2) (eC (.str [45])))) (eBin dIx (eBin dAdd (eVar 1) (eC (.str [63]))) (eIf (tOf (eBin dNe (eVar 1) (eC (.str [])))) (eUn dNeg (eC (.int 2))) (eC (.int 0)))) (eMeth0 "str" dUpper (eVar 2)))))) (sRet (eVar 1))))
def F_works_of : FDen := runF 1 3 G_works_of
theorem w_works_of {a0 : D} {ce : Cells} {Q : D → Cells → Prop} {E : Str → Cells → Prop} (h : WS ((sSeq (sSet 1 (eC (.str []))) (sSeq (sFor (eIter (eVar 0)) (gN 2) (sSet 1 (eBin dAdd (eVar 1) (eIf (tOf (eBin dEq (eVar 2) (eC (.str [45])))) (eBin dIx (eBin dAdd (eVar 1) (eC (.str [63]))) (eIf (tOf (eBin dNe (eVar 1) (eC (.str [])))) (eUn dNeg (eC (.int 2))) (eC (.int 0)))) (eMeth0 "str" dUpper (eVar 2)))))) (sRet (eVar 1)))) [some a0, none, none] ce) (fun _ ce1 => WFin ce.length .non ce1 Q) (fun d ce1 => WFin ce.length d ce1 Q) (fun _ _ => False) (fun _ _ => False) fun x _ ce1 => E x (ce1.take ce.length)) : WE (F_works_of [a0] ce) Q E := run_ws rfl h
theorem cal_works_of {P : Program} {w : World} {K : PySem.W.Frag} {mg : Str → Option Value} {base : Heap} {f : Addr} {fd : FuncData} (F : Fun K "works_of" "works_of" s_works_of f fd) (hm : mg "works_of" = some (.ref f)) : Cal P w K mg base 1 "works_of" 1 F_works_of := by
  refine cal_mk (g := G_works_of) (ps := ["row"]) (N := ["row", "found", "sign"]) F hm sc_works_of (fun _ _ _ _ _ _ us hl => match us, hl with | [_], _ => rfl) fun cdv A outer s H E hr => ?_
  exact (js_cons (js_set 1 sc_works_of.nd rfl (Or.inl rfl) (je_str [] (by decide +kernel) (by decide +kernel)) (by rfl) (Or.inl rfl)) (js_cons (js_for (passes_of rfl) rfl (ji_val (je_var 0 rfl (Or.inl rfl) (by decide) (by decide))) (jg_name 2 sc_works_of.nd rfl (Or.inl rfl) (Or.inl rfl)) (js_one (js_set 1 sc_works_of.nd rfl (Or.inl rfl) (je_bin oj_add (je_var 1 rfl (Or.inl rfl) (by decide) (by decide)) (je_if (jt_cmp (oj_eq hr.units) (je_var 2 rfl (Or.inl rfl) (by decide) (by decide)) (je_str [45] (by decide +kernel) (by decide +kernel)) (nomark _)) (je_ix ij_ix (je_bin oj_add (je_var 1 rfl (Or.inl rfl) (by decide) (by decide)) (je_str [63] (by decide +kernel) (by decide +kernel))) (je_if (jt_cmp (oj_ne hr.units) (je_var 1 rfl (Or.inl rfl) (by decide) (by decide)) (je_str [] (by decide +kernel) (by decide +kernel)) (nomark _)) (je_un uj_neg je_int) je_int) (fun _ _ => rfl)) (je_meth0 PySem.F.plainAttrs_str PySem.F.slot_str_upper PySem.F.type_str_upper mj_upper (je_var 2 rfl (Or.inl rfl) (by decide) (by decide)) (by rfl) (by rfl)))) (by rfl) (Or.inl rfl))) (fun _ => rfl)) (js_one (js_ret (je_var 1 rfl (Or.inl rfl) (by decide) (by decide))))))

abbrev s_faults : Stmt := topS 20
theorem sc_faults : FnScope ["row", "works", "missing", "place", "sign"] ["row"] (defScope s_faults) := ⟨rfl, rfl, rfl, by decide +kernel, rfl, by decide +kernel, by decide +kernel⟩
def G_faults : SDen := (sSeq (sSet 1 (eFn F_works_of (aCons (eVar 0) aNil))) (sSeq (sSet 2 (eComp (eSrcC srcEnum (aCons (eVar 0) aNil)) [3, 4] (gT (gsN [3, 4]) 2) ttYes (eAnd (eMeth0 "str" dIsLower (eVar 4)) (eBin dNotIn (eMeth0 "str" dUpper (eVar 4)) (eSl (eVar 0) oNone (oSome (eVar 3))))))) (sRet (eComp (eSrc srcRange1 (aCons (eCall dLen (aCons (eVar 0) aNil)) aNil)) [3] (gN 3) (tOrD (tOf (eBin dEq (eBin dIx (eVar 1) (eVar 3)) (eC (.str [63])))) (tOf (eBin dIx (eVar 2) (eVar 3)))) (eVar 3)))))
def F_faults : FDen := runF 1 5 G_faults
theorem w_faults {a0 : D} {ce : Cells} {Q : D → Cells → Prop} {E : Str → Cells → Prop} (h : WS ((sSeq (sSet 1 (eFn F_works_of (aCons (eVar 0) aNil))) (sSeq (sSet 2 (eComp (eSrcC srcEnum (aCons (eVar 0) aNil)) [3, 4] (gT (gsN [3, 4]) 2) ttYes (eAnd (eMeth0 "str" dIsLower (eVar 4)) (eBin dNotIn (eMeth0 "str" dUpper (eVar 4)) (eSl (eVar 0) oNone (oSome (eVar 3))))))) (sRet (eComp (eSrc srcRange1 (aCons (eCall dLen (aCons (eVar 0) aNil)) aNil)) [3] (gN 3) (tOrD (tOf (eBin dEq (eBin dIx (eVar 1) (eVar 3)) (eC (.str [63])))) (tOf (eBin dIx (eVar 2) (eVar 3)))) (eVar 3))))) [some a0, none, none, none, none] ce) (fun _ ce1 => WFin ce.length .non ce1 Q) (fun d ce1 => WFin ce.length d ce1 Q) (fun _ _ => False) (fun _ _ => False) fun x _ ce1 => E x (ce1.take ce.length)) : WE (F_faults [a0] ce) Q E := run_ws rfl h
theorem cal_faults {P : Program} {w : World} {K : PySem.W.Frag} {mg : Str → Option Value} {base : Heap} {f : Addr} {fd : FuncData} (F : Fun K "faults" "faults" s_faults f fd) (hm : mg "faults" = some (.ref f)) (z_enumerate : mg "enumerate" = none) (z_len : mg "len" = none) (z_range : mg "range" = none) (c_works_of : Cal P w K mg base 1 "works_of" 1 F_works_of) : Cal P w K mg base 2 "faults" 1 F_faults := by
  refine cal_mk (g := G_faults) (ps := ["row"]) (N := ["row", "works", "missing", "place", "sign"]) F hm sc_faults (fun _ _ _ _ _ _ us hl => match us, hl with | [_], _ => rfl) fun cdv A outer s H E hr => ?_
  exact (js_cons (js_set 1 sc_faults.nd rfl (Or.inr rfl) (je_cal (L2N.takes_of rfl rfl rfl rfl) c_works_of rfl (hr.mono (by omega)) (by rfl) (ja_cons (je_var 0 rfl (Or.inr (Or.inl rfl)) (by decide) (by decide)) ja_nil (by rfl)) (ga_cons ga_nil) (by decide) (by rfl) (by rfl)) (by rfl) (Or.inl rfl)) (js_cons (js_set 2 sc_faults.nd rfl (Or.inr rfl) (je_comp rfl sc_faults.nd (ji_enum (by rfl) z_enumerate (ja_cons (je_var 0 rfl (Or.inr (Or.inl rfl)) (by decide) (by decide)) ja_nil (by rfl)) (by rfl)) (blkOk_by (own := [("place", 3), ("sign", 4)]) (N := ["row", "works", "missing", "place", "sign"]) (sc := defScope s_faults) (by decide +kernel)) rfl (fun _ _ _ _ _ => (jg_tup rfl (jgs_cons 3 sc_faults.nd rfl (Or.inl rfl) (Or.inr rfl) (jgs_cons 4 sc_faults.nd rfl (Or.inl rfl) (Or.inr rfl) jgs_nil rfl) rfl) rfl rfl)) (fun _ _ _ _ _ => jts_nil) (fun _ _ _ _ _ => (je_and (je_meth0 PySem.F.plainAttrs_str PySem.F.slot_str_islower PySem.F.type_str_islower mj_islower (je_var 4 rfl (Or.inl rfl) (by decide) (by decide)) (by rfl) (by rfl)) (je_one (je_cmp oj_notin (je_meth0 PySem.F.plainAttrs_str PySem.F.slot_str_upper PySem.F.type_str_upper mj_upper (je_var 4 rfl (Or.inl rfl) (by decide) (by decide)) (by rfl) (by rfl)) (je_sl (je_var 0 rfl (Or.inr (Or.inl rfl)) (by decide) (by decide)) jo_none (jo_some (je_var 3 rfl (Or.inl rfl) (by decide) (by decide)))) (by rfl))))) (fun _ => rfl)) (by rfl) (Or.inl rfl)) (js_one (js_ret (je_comp rfl sc_faults.nd (ji_range1 (by rfl) z_range (ja_cons (je_callB cj_len (by rfl) z_len (by decide +kernel) (ja_cons (je_var 0 rfl (Or.inr (Or.inl rfl)) (by decide) (by decide)) ja_nil (by rfl)) (by decide) (by decide) (by rfl) (by rfl)) ja_nil (by rfl)) (by rfl)) (blkOk_by (own := [("place", 3)]) (N := ["row", "works", "missing", "place", "sign"]) (sc := defScope s_faults) (by decide +kernel)) rfl (fun _ _ _ _ _ => (jg_name 3 sc_faults.nd rfl (Or.inl rfl) (Or.inr rfl))) (fun _ _ _ _ _ => (jts_one (jw_pt (jw_or (jt_cmp (oj_eq hr.units) (je_ix ij_ix (je_var 1 rfl (Or.inr (Or.inl rfl)) (by decide) (by decide)) (je_var 3 rfl (Or.inl rfl) (by decide) (by decide)) (fun _ _ => rfl)) (je_str [63] (by decide +kernel) (by decide +kernel)) (nomark _)) (jw_or1 (jt_val (je_ix ij_ix (je_var 2 rfl (Or.inr (Or.inl rfl)) (by decide) (by decide)) (je_var 3 rfl (Or.inl rfl) (by decide) (by decide)) (fun _ _ => rfl)) (fun _ => rfl))))))) (fun _ _ _ _ _ => (je_var 3 rfl (Or.inl rfl) (by decide) (by decide))) (fun _ => rfl))))))

abbrev s_need_row : Stmt := topS 21
theorem sc_need_row : FnScope ["row"] ["row"] (defScope s_need_row) := ⟨rfl, rfl, rfl, by decide +kernel, rfl, by decide +kernel, by decide +kernel⟩
def G_need_row : SDen := (sIf (tNotD (tOf (eFn F_is_row (aCons (eVar 0) aNil)))) sNever sNil)
def F_need_row : FDen := runF 1 1 G_need_row
theorem w_need_row {a0 : D} {ce : Cells} {Q : D → Cells → Prop} {E : Str → Cells → Prop} (h : WS ((sIf (tNotD (tOf (eFn F_is_row (aCons (eVar 0) aNil)))) sNever sNil) [some a0] ce) (fun _ ce1 => WFin ce.length .non ce1 Q) (fun d ce1 => WFin ce.length d ce1 Q) (fun _ _ => False) (fun _ _ => False) fun x _ ce1 => E x (ce1.take ce.length)) : WE (F_need_row [a0] ce) Q E := run_ws rfl h
theorem cal_need_row {P : Program} {w : World} {K : PySem.W.Frag} {mg : Str → Option Value} {base : Heap} {f : Addr} {fd : FuncData} (F : Fun K "need_row" "need_row" s_need_row f fd) (hm : mg "need_row" = some (.ref f)) (c_is_row : Cal P w K mg base 2 "is_row" 1 F_is_row) : Cal P w K mg base 3 "need_row" 1 F_need_row := by
  refine cal_mk (g := G_need_row) (ps := ["row"]) (N := ["row"]) F hm sc_need_row (fun _ _ _ _ _ _ us hl => match us, hl with | [_], _ => rfl) fun cdv A outer s H E hr => ?_
  exact (js_one (js_if (jt_not (jt_val (je_cal (L2N.takes_of rfl rfl rfl rfl) c_is_row rfl (hr.mono (by omega)) (by rfl) (ja_cons (je_var 0 rfl (Or.inl rfl) (by decide) (by decide)) ja_nil (by rfl)) (ga_cons ga_nil) (by decide) (by rfl) (by rfl)) (fun _ => rfl))) (js_one js_never) js_nil))

abbrev s_need_right : Stmt := topS 22
theorem sc_need_right : FnScope ["row"] ["row"] (defScope s_need_right) := ⟨rfl, rfl, rfl, by decide +kernel, rfl, by decide +kernel, by decide +kernel⟩
def G_need_right : SDen := (sIf (tOrD (tNotD (tOf (eFn F_is_row (aCons (eVar 0) aNil)))) (tOf (eBin dNe (eFn F_faults (aCons (eVar 0) aNil)) (eLst aNil)))) sNever sNil)
def F_need_right : FDen := runF 1 1 G_need_right
theorem w_need_right {a0 : D} {ce : Cells} {Q : D → Cells → Prop} {E : Str → Cells → Prop} (h : WS ((sIf (tOrD (tNotD (tOf (eFn F_is_row (aCons (eVar 0) aNil)))) (tOf (eBin dNe (eFn F_faults (aCons (eVar 0) aNil)) (eLst aNil)))) sNever sNil) [some a0] ce) (fun _ ce1 => WFin ce.length .non ce1 Q) (fun d ce1 => WFin ce.length d ce1 Q) (fun _ _ => False) (fun _ _ => False) fun x _ ce1 => E x (ce1.take ce.length)) : WE (F_need_right [a0] ce) Q E := run_ws rfl h
theorem cal_need_right {P : Program} {w : World} {K : PySem.W.Frag} {mg : Str → Option Value} {base : Heap} {f : Addr} {fd : FuncData} (F : Fun K "need_right" "need_right" s_need_right f fd) (hm : mg "need_right" = some (.ref f)) (c_is_row : Cal P w K mg base 2 "is_row" 1 F_is_row) (c_faults : Cal P w K mg base 2 "faults" 1 F_faults) : Cal P w K mg base 3 "need_right" 1 F_need_right := by
  refine cal_mk (g := G_need_right) (ps := ["row"]) (N := ["row"]) F hm sc_need_right (fun _ _ _ _ _ _ us hl => match us, hl with | [_], _ => rfl) fun cdv A outer s H E hr => ?_
  exact (js_one (js_if (jw_pt (jw_or (jt_not (jt_val (je_cal (L2N.takes_of rfl rfl rfl rfl) c_is_row rfl (hr.mono (by omega)) (by rfl) (ja_cons (je_var 0 rfl (Or.inl rfl) (by decide) (by decide)) ja_nil (by rfl)) (ga_cons ga_nil) (by decide) (by rfl) (by rfl)) (fun _ => rfl))) (jw_or1 (jt_cmp (oj_ne hr.units) (je_cal (L2N.takes_of rfl rfl rfl rfl) c_faults rfl (hr.mono (by omega)) (by rfl) (ja_cons (je_var 0 rfl (Or.inl rfl) (by decide) (by decide)) ja_nil (by rfl)) (ga_cons ga_nil) (by decide) (by rfl) (by rfl)) (je_lst ja_nil) (nomark _))))) (js_one js_never) js_nil))

abbrev s_first_wrong : Stmt := topS 23
theorem sc_first_wrong : FnScope ["row", "found"] ["row"] (defScope s_first_wrong) := ⟨rfl, rfl, rfl, by decide +kernel, rfl, by decide +kernel, by decide +kernel⟩
def G_first_wrong : SDen := (sSeq (sExpr (eFn F_need_row (aCons (eVar 0) aNil))) (sSeq (sSet 1 (eFn F_faults (aCons (eVar 0) aNil))) (sRet (eIf (tOf (eBin dNe (eVar 1) (eLst aNil))) (eBin dIx (eVar 1) (eC (.int 0))) (eC .non)))))
def F_first_wrong : FDen := runF 1 2 G_first_wrong
theorem w_first_wrong {a0 : D} {ce : Cells} {Q : D → Cells → Prop} {E : Str → Cells → Prop} (h : WS ((sSeq (sExpr (eFn F_need_row (aCons (eVar 0) aNil))) (sSeq (sSet 1 (eFn F_faults (aCons (eVar 0) aNil))) (sRet (eIf (tOf (eBin dNe (eVar 1) (eLst aNil))) (eBin dIx (eVar 1) (eC (.int 0))) (eC .non))))) [some a0, none] ce) (fun _ ce1 => WFin ce.length .non ce1 Q) (fun d ce1 => WFin ce.length d ce1 Q) (fun _ _ => False) (fun _ _ => False) fun x _ ce1 => E x (ce1.take ce.length)) : WE (F_first_wrong [a0] ce) Q E := run_ws rfl h
theorem cal_first_wrong {P : Program} {w : World} {K : PySem.W.Frag} {mg : Str → Option Value} {base : Heap} {f : Addr} {fd : FuncData} (F : Fun K "first_wrong" "first_wrong" s_first_wrong f fd) (hm : mg "first_wrong" = some (.ref f)) (c_need_row : Cal P w K mg base 3 "need_row" 1 F_need_row) (c_faults : Cal P w K mg base 2 "faults" 1 F_faults) : Cal P w K mg base 4 "first_wrong" 1 F_first_wrong := by
  refine cal_mk (g := G_first_wrong) (ps := ["row"]) (N := ["row", "found"]) F hm sc_first_wrong (fun _ _ _ _ _ _ us hl => match us, hl with | [_], _ => rfl) fun cdv A outer s H E hr => ?_
  exact (js_cons (js_expr (je_cal (L2N.takes_of rfl rfl rfl rfl) c_need_row rfl (hr.mono (by omega)) (by rfl) (ja_cons (je_var 0 rfl (Or.inl rfl) (by decide) (by decide)) ja_nil (by rfl)) (ga_cons ga_nil) (by decide) (by rfl) (by rfl)) (by rfl)) (js_cons (js_set 1 sc_first_wrong.nd rfl (Or.inl rfl) (je_cal (L2N.takes_of rfl rfl rfl rfl) c_faults rfl (hr.mono (by omega)) (by rfl) (ja_cons (je_var 0 rfl (Or.inl rfl) (by decide) (by decide)) ja_nil (by rfl)) (ga_cons ga_nil) (by decide) (by rfl) (by rfl)) (by rfl) (Or.inl rfl)) (js_one (js_ret (je_if (jt_cmp (oj_ne hr.units) (je_var 1 rfl (Or.inl rfl) (by decide) (by decide)) (je_lst ja_nil) (nomark _)) (je_ix ij_ix (je_var 1 rfl (Or.inl rfl) (by decide) (by decide)) je_int (fun _ _ => rfl)) je_non)))))

abbrev s_is_right : Stmt := topS 24
theorem sc_is_right : FnScope ["row"] ["row"] (defScope s_is_right) := ⟨rfl, rfl, rfl, by decide +kernel, rfl, by decide +kernel, by decide +kernel⟩
def G_is_right : SDen := (sSeq (sExpr (eFn F_need_row (aCons (eVar 0) aNil))) (sRet (eBin dEq (eFn F_faults (aCons (eVar 0) aNil)) (eLst aNil))))
def F_is_right : FDen := runF 1 1 G_is_right
theorem w_is_right {a0 : D} {ce : Cells} {Q : D → Cells → Prop} {E : Str → Cells → Prop} (h : WS ((sSeq (sExpr (eFn F_need_row (aCons (eVar 0) aNil))) (sRet (eBin dEq (eFn F_faults (aCons (eVar 0) aNil)) (eLst aNil)))) [some a0] ce) (fun _ ce1 => WFin ce.length .non ce1 Q) (fun d ce1 => WFin ce.length d ce1 Q) (fun _ _ => False) (fun _ _ => False) fun x _ ce1 => E x (ce1.take ce.length)) : WE (F_is_right [a0] ce) Q E := run_ws rfl h
theorem cal_is_right {P : Program} {w : World} {K : PySem.W.Frag} {mg : Str → Option Value} {base : Heap} {f : Addr} {fd : FuncData} (F : Fun K "is_right" "is_right" s_is_right f fd) (hm : mg "is_right" = some (.ref f)) (c_need_row : Cal P w K mg base 3 "need_row" 1 F_need_row) (c_faults : Cal P w K mg base 2 "faults" 1 F_faults) : Cal P w K mg base 4 "is_right" 1 F_is_right := by
  refine cal_mk (g := G_is_right) (ps := ["row"]) (N := ["row"]) F hm sc_is_right (fun _ _ _ _ _ _ us hl => match us, hl with | [_], _ => rfl) fun cdv A outer s H E hr => ?_
  exact (js_cons (js_expr (je_cal (L2N.takes_of rfl rfl rfl rfl) c_need_row rfl (hr.mono (by omega)) (by rfl) (ja_cons (je_var 0 rfl (Or.inl rfl) (by decide) (by decide)) ja_nil (by rfl)) (ga_cons ga_nil) (by decide) (by rfl) (by rfl)) (by rfl)) (js_one (js_ret (je_cmp (oj_eq hr.units) (je_cal (L2N.takes_of rfl rfl rfl rfl) c_faults rfl (hr.mono (by omega)) (by rfl) (ja_cons (je_var 0 rfl (Or.inl rfl) (by decide) (by decide)) ja_nil (by rfl)) (ga_cons ga_nil) (by decide) (by rfl) (by rfl)) (je_lst ja_nil) (nomark _)))))

abbrev s_read : Stmt := topS 25
theorem sc_read : FnScope ["row"] ["row"] (defScope s_read) := ⟨rfl, rfl, rfl, by decide +kernel, rfl, by decide +kernel, by decide +kernel⟩
def G_read : SDen := (sSeq (sExpr (eFn F_need_right (aCons (eVar 0) aNil))) (sRet (eFn F_works_of (aCons (eVar 0) aNil))))
def F_read : FDen := runF 1 1 G_read
theorem w_read {a0 : D} {ce : Cells} {Q : D → Cells → Prop} {E : Str → Cells → Prop} (h : WS ((sSeq (sExpr (eFn F_need_right (aCons (eVar 0) aNil))) (sRet (eFn F_works_of (aCons (eVar 0) aNil)))) [some a0] ce) (fun _ ce1 => WFin ce.length .non ce1 Q) (fun d ce1 => WFin ce.length d ce1 Q) (fun _ _ => False) (fun _ _ => False) fun x _ ce1 => E x (ce1.take ce.length)) : WE (F_read [a0] ce) Q E := run_ws rfl h
theorem cal_read {P : Program} {w : World} {K : PySem.W.Frag} {mg : Str → Option Value} {base : Heap} {f : Addr} {fd : FuncData} (F : Fun K "read" "read" s_read f fd) (hm : mg "read" = some (.ref f)) (c_need_right : Cal P w K mg base 3 "need_right" 1 F_need_right) (c_works_of : Cal P w K mg base 1 "works_of" 1 F_works_of) : Cal P w K mg base 4 "read" 1 F_read := by
  refine cal_mk (g := G_read) (ps := ["row"]) (N := ["row"]) F hm sc_read (fun _ _ _ _ _ _ us hl => match us, hl with | [_], _ => rfl) fun cdv A outer s H E hr => ?_
  exact (js_cons (js_expr (je_cal (L2N.takes_of rfl rfl rfl rfl) c_need_right rfl (hr.mono (by omega)) (by rfl) (ja_cons (je_var 0 rfl (Or.inl rfl) (by decide) (by decide)) ja_nil (by rfl)) (ga_cons ga_nil) (by decide) (by rfl) (by rfl)) (by rfl)) (js_one (js_ret (je_cal (L2N.takes_of rfl rfl rfl rfl) c_works_of rfl (hr.mono (by omega)) (by rfl) (ja_cons (je_var 0 rfl (Or.inl rfl) (by decide) (by decide)) ja_nil (by rfl)) (ga_cons ga_nil) (by decide) (by rfl) (by rfl)))))

abbrev s_is_works : Stmt := topS 26
theorem sc_is_works : FnScope ["value", "sign"] ["value"] (defScope s_is_works) := ⟨rfl, rfl, rfl, by decide +kernel, rfl, by decide +kernel, by decide +kernel⟩
def G_is_works : SDen := (sRet (eAnd (eCall dIsi (aCons (eVar 0) (aCons (eC (.ty "str")) aNil))) (eAnd (eBin dLe (eCall dLen (aCons (eVar 0) aNil)) (eC (.int 30))) (eCall dAll (aCons (eComp (eIter (eVar 0)) [1] (gN 1) ttYes (eBin dIn (eVar 1) (eC (.str [65, 66, 67, 68, 69, 70, 71, 72, 73, 74, 75, 76, 77, 78, 79, 80, 81, 82, 83, 84, 85, 86, 87, 88, 89, 90])))) aNil)))))
def F_is_works : FDen := runF 1 2 G_is_works
theorem w_is_works {a0 : D} {ce : Cells} {Q : D → Cells → Prop} {E : Str → Cells → Prop} (h : WS ((sRet (eAnd (eCall dIsi (aCons (eVar 0) (aCons (eC (.ty "str")) aNil))) (eAnd (eBin dLe (eCall dLen (aCons (eVar 0) aNil)) (eC (.int 30))) (eCall dAll (aCons (eComp (eIter (eVar 0)) [1] (gN 1) ttYes (eBin dIn (eVar 1) (eC (.str [65, 66, 67, 68, 69, 70, 71, 72, 73, 74, 75, 76, 77, 78, 79, 80, 81, 82, 83, 84, 85, 86, 87, 88, 89, 90])))) aNil))))) [some a0, none] ce) (fun _ ce1 => WFin ce.length .non ce1 Q) (fun d ce1 => WFin ce.length d ce1 Q) (fun _ _ => False) (fun _ _ => False) fun x _ ce1 => E x (ce1.take ce.length)) : WE (F_is_works [a0] ce) Q E := run_ws rfl h
theorem cal_is_works {P : Program} {w : World} {K : PySem.W.Frag} {mg : Str → Option Value} {base : Heap} {f : Addr} {fd : FuncData} (F : Fun K "is_works" "is_works" s_is_works f fd) (hm : mg "is_works" = some (.ref f)) (z_all : mg "all" = none) (z_isinstance : mg "isinstance" = none) (z_len : mg "len" = none) (z_str : mg "str" = none) {u_LETTERS : Value} (m_LETTERS : mg "LETTERS" = some u_LETTERS) (r_LETTERS : RelV (.str "ABCDEFGHIJKLMNOPQRSTUVWXYZ") u_LETTERS) {u_MOST_NOTES : Value} (m_MOST_NOTES : mg "MOST_NOTES" = some u_MOST_NOTES) (r_MOST_NOTES : RelV (.int 30) u_MOST_NOTES) : Cal P w K mg base 1 "is_works" 1 F_is_works := by
  refine cal_mk (g := G_is_works) (ps := ["value"]) (N := ["value", "sign"]) F hm sc_is_works (fun _ _ _ _ _ _ us hl => match us, hl with | [_], _ => rfl) fun cdv A outer s H E hr => ?_
  exact (js_one (js_ret (je_and (je_callB cj_isi (by rfl) z_isinstance (by decide +kernel) (ja_cons (je_var 0 rfl (Or.inl rfl) (by decide) (by decide)) (ja_cons (je_ty "str" (by rfl) z_str (by decide +kernel) (by decide) (by decide)) ja_nil (by rfl)) (by rfl)) (by decide) (by decide) (by rfl) (by rfl)) (je_and (je_cmp oj_le (je_callB cj_len (by rfl) z_len (by decide +kernel) (ja_cons (je_var 0 rfl (Or.inl rfl) (by decide) (by decide)) ja_nil (by rfl)) (by decide) (by decide) (by rfl) (by rfl)) (je_glC (d := .int 30) (by rfl) m_MOST_NOTES r_MOST_NOTES (by decide) (fun _ _ => repT_int.mpr rfl)) (nomark _)) (je_one (je_callB (cj_all rfl) (by rfl) z_all (by decide +kernel) (ja_cons (je_comp rfl sc_is_works.nd (ji_val (je_var 0 rfl (Or.inl rfl) (by decide) (by decide))) (blkOk_by (own := [("sign", 1)]) (N := ["value", "sign"]) (sc := defScope s_is_works) (by decide +kernel)) rfl (fun _ _ _ _ _ => (jg_name 1 sc_is_works.nd rfl (Or.inl rfl) (Or.inr rfl))) (fun _ _ _ _ _ => jts_nil) (fun _ _ _ _ _ => (je_cmp oj_in (je_var 1 rfl (Or.inl rfl) (by decide) (by decide)) (je_glC (d := .str [65, 66, 67, 68, 69, 70, 71, 72, 73, 74, 75, 76, 77, 78, 79, 80, 81, 82, 83, 84, 85, 86, 87, 88, 89, 90]) (by rfl) m_LETTERS r_LETTERS (by decide) (fun _ _ => repT_str.mpr ⟨congrArg V.str (show _ = toStr [65, 66, 67, 68, 69, 70, 71, 72, 73, 74, 75, 76, 77, 78, 79, 80, 81, 82, 83, 84, 85, 86, 87, 88, 89, 90] by decide +kernel), okS_by (by decide +kernel)⟩)) (by rfl))) (fun _ => rfl)) ja_nil (by rfl)) (by decide) (by decide) (by rfl) (by rfl)))))))

abbrev s_need_works : Stmt := topS 27
theorem sc_need_works : FnScope ["works"] ["works"] (defScope s_need_works) := ⟨rfl, rfl, rfl, by decide +kernel, rfl, by decide +kernel, by decide +kernel⟩
def G_need_works : SDen := (sIf (tNotD (tOf (eFn F_is_works (aCons (eVar 0) aNil)))) sNever sNil)
def F_need_works : FDen := runF 1 1 G_need_works
theorem w_need_works {a0 : D} {ce : Cells} {Q : D → Cells → Prop} {E : Str → Cells → Prop} (h : WS ((sIf (tNotD (tOf (eFn F_is_works (aCons (eVar 0) aNil)))) sNever sNil) [some a0] ce) (fun _ ce1 => WFin ce.length .non ce1 Q) (fun d ce1 => WFin ce.length d ce1 Q) (fun _ _ => False) (fun _ _ => False) fun x _ ce1 => E x (ce1.take ce.length)) : WE (F_need_works [a0] ce) Q E := run_ws rfl h
theorem cal_need_works {P : Program} {w : World} {K : PySem.W.Frag} {mg : Str → Option Value} {base : Heap} {f : Addr} {fd : FuncData} (F : Fun K "need_works" "need_works" s_need_works f fd) (hm : mg "need_works" = some (.ref f)) (c_is_works : Cal P w K mg base 1 "is_works" 1 F_is_works) : Cal P w K mg base 2 "need_works" 1 F_need_works := by
  refine cal_mk (g := G_need_works) (ps := ["works"]) (N := ["works"]) F hm sc_need_works (fun _ _ _ _ _ _ us hl => match us, hl with | [_], _ => rfl) fun cdv A outer s H E hr => ?_
  exact (js_one (js_if (jt_not (jt_val (je_cal (L2N.takes_of rfl rfl rfl rfl) c_is_works rfl (hr.mono (by omega)) (by rfl) (ja_cons (je_var 0 rfl (Or.inl rfl) (by decide) (by decide)) ja_nil (by rfl)) (ga_cons ga_nil) (by decide) (by rfl) (by rfl)) (fun _ => rfl))) (js_one js_never) js_nil))

abbrev s_shortest_of : Stmt := topS 28
theorem sc_shortest_of : FnScope ["works", "found", "place", "work"] ["works"] (defScope s_shortest_of) := ⟨rfl, rfl, rfl, by decide +kernel, rfl, by decide +kernel, by decide +kernel⟩
def G_shortest_of : SDen := (sSeq (sSet 1 (eC (.str []))) (sSeq (sFor (eSrcC srcEnum (aCons (eVar 0) aNil)) (gT (gsN [2, 3]) 2) (sIf (tAndD (tOf (eBin dGt (eVar 2) (eC (.int 0)))) (tOf (eBin dEq (eBin dIx (eVar 0) (eBin dSub (eVar 2) (eC (.int 1)))) (eVar 3)))) (sSet 1 (eBin dAdd (eVar 1) (eC (.str [45])))) (sSet 1 (eBin dAdd (eVar 1) (eIf (tOf (eBin dIn (eVar 3) (eSl (eVar 0) oNone (oSome (eVar 2))))) (eMeth0 "str" dLower (eVar 3)) (eVar 3)))))) (sRet (eVar 1))))
def F_shortest_of : FDen := runF 1 4 G_shortest_of
theorem w_shortest_of {a0 : D} {ce : Cells} {Q : D → Cells → Prop} {E : Str → Cells → Prop} (h : WS ((sSeq (sSet 1 (eC (.str []))) (sSeq (sFor (eSrcC srcEnum (aCons (eVar 0) aNil)) (gT (gsN [2, 3]) 2) (sIf (tAndD (tOf (eBin dGt (eVar 2) (eC (.int 0)))) (tOf (eBin dEq (eBin dIx (eVar 0) (eBin dSub (eVar 2) (eC (.int 1)))) (eVar 3)))) (sSet 1 (eBin dAdd (eVar 1) (eC (.str [45])))) (sSet 1 (eBin dAdd (eVar 1) (eIf (tOf (eBin dIn (eVar 3) (eSl (eVar 0) oNone (oSome (eVar 2))))) (eMeth0 "str" dLower (eVar 3)) (eVar 3)))))) (sRet (eVar 1)))) [some a0, none, none, none] ce) (fun _ ce1 => WFin ce.length .non ce1 Q) (fun d ce1 => WFin ce.length d ce1 Q) (fun _ _ => False) (fun _ _ => False) fun x _ ce1 => E x (ce1.take ce.length)) : WE (F_shortest_of [a0] ce) Q E := run_ws rfl h
theorem cal_shortest_of {P : Program} {w : World} {K : PySem.W.Frag} {mg : Str → Option Value} {base : Heap} {f : Addr} {fd : FuncData} (F : Fun K "shortest_of" "shortest_of" s_shortest_of f fd) (hm : mg "shortest_of" = some (.ref f)) (z_enumerate : mg "enumerate" = none) : Cal P w K mg base 1 "shortest_of" 1 F_shortest_of := by
  refine cal_mk (g := G_shortest_of) (ps := ["works"]) (N := ["works", "found", "place", "work"]) F hm sc_shortest_of (fun _ _ _ _ _ _ us hl => match us, hl with | [_], _ => rfl) fun cdv A outer s H E hr => ?_
  exact (js_cons (js_set 1 sc_shortest_of.nd rfl (Or.inl rfl) (je_str [] (by decide +kernel) (by decide +kernel)) (by rfl) (Or.inl rfl)) (js_cons (js_for (passes_of rfl) rfl (ji_enum (by rfl) z_enumerate (ja_cons (je_var 0 rfl (Or.inl rfl) (by decide) (by decide)) ja_nil (by rfl)) (by rfl)) (jg_tup rfl (jgs_cons 2 sc_shortest_of.nd rfl (Or.inl rfl) (Or.inl rfl) (jgs_cons 3 sc_shortest_of.nd rfl (Or.inl rfl) (Or.inl rfl) jgs_nil rfl) rfl) rfl rfl) (js_one (js_if (jw_pt (jw_and (jt_cmp oj_gt (je_var 2 rfl (Or.inl rfl) (by decide) (by decide)) je_int (nomark _)) (jw_and1 (jt_cmp (oj_eq hr.units) (je_ix ij_ix (je_var 0 rfl (Or.inl rfl) (by decide) (by decide)) (je_bin oj_sub (je_var 2 rfl (Or.inl rfl) (by decide) (by decide)) je_int) (fun _ _ => rfl)) (je_var 3 rfl (Or.inl rfl) (by decide) (by decide)) (nomark _))))) (js_one (js_set 1 sc_shortest_of.nd rfl (Or.inl rfl) (je_bin oj_add (je_var 1 rfl (Or.inl rfl) (by decide) (by decide)) (je_str [45] (by decide +kernel) (by decide +kernel))) (by rfl) (Or.inl rfl))) (js_one (js_set 1 sc_shortest_of.nd rfl (Or.inl rfl) (je_bin oj_add (je_var 1 rfl (Or.inl rfl) (by decide) (by decide)) (je_if (jt_cmp oj_in (je_var 3 rfl (Or.inl rfl) (by decide) (by decide)) (je_sl (je_var 0 rfl (Or.inl rfl) (by decide) (by decide)) jo_none (jo_some (je_var 2 rfl (Or.inl rfl) (by decide) (by decide)))) (by rfl)) (je_meth0 PySem.F.plainAttrs_str PySem.F.slot_str_lower PySem.F.type_str_lower mj_lower (je_var 3 rfl (Or.inl rfl) (by decide) (by decide)) (by rfl) (by rfl)) (je_var 3 rfl (Or.inl rfl) (by decide) (by decide)))) (by rfl) (Or.inl rfl))))) (fun _ => rfl)) (js_one (js_ret (je_var 1 rfl (Or.inl rfl) (by decide) (by decide))))))

abbrev s_shortest : Stmt := topS 29
theorem sc_shortest : FnScope ["works"] ["works"] (defScope s_shortest) := ⟨rfl, rfl, rfl, by decide +kernel, rfl, by decide +kernel, by decide +kernel⟩
def G_shortest : SDen := (sSeq (sExpr (eFn F_need_works (aCons (eVar 0) aNil))) (sRet (eFn F_shortest_of (aCons (eVar 0) aNil))))
def F_shortest : FDen := runF 1 1 G_shortest
theorem w_shortest {a0 : D} {ce : Cells} {Q : D → Cells → Prop} {E : Str → Cells → Prop} (h : WS ((sSeq (sExpr (eFn F_need_works (aCons (eVar 0) aNil))) (sRet (eFn F_shortest_of (aCons (eVar 0) aNil)))) [some a0] ce) (fun _ ce1 => WFin ce.length .non ce1 Q) (fun d ce1 => WFin ce.length d ce1 Q) (fun _ _ => False) (fun _ _ => False) fun x _ ce1 => E x (ce1.take ce.length)) : WE (F_shortest [a0] ce) Q E := run_ws rfl h
theorem cal_shortest {P : Program} {w : World} {K : PySem.W.Frag} {mg : Str → Option Value} {base : Heap} {f : Addr} {fd : FuncData} (F : Fun K "shortest" "shortest" s_shortest f fd) (hm : mg "shortest" = some (.ref f)) (c_need_works : Cal P w K mg base 2 "need_works" 1 F_need_works) (c_shortest_of : Cal P w K mg base 1 "shortest_of" 1 F_shortest_of) : Cal P w K mg base 3 "shortest" 1 F_shortest := by
  refine cal_mk (g := G_shortest) (ps := ["works"]) (N := ["works"]) F hm sc_shortest (fun _ _ _ _ _ _ us hl => match us, hl with | [_], _ => rfl) fun cdv A outer s H E hr => ?_
  exact (js_cons (js_expr (je_cal (L2N.takes_of rfl rfl rfl rfl) c_need_works rfl (hr.mono (by omega)) (by rfl) (ja_cons (je_var 0 rfl (Or.inl rfl) (by decide) (by decide)) ja_nil (by rfl)) (ga_cons ga_nil) (by decide) (by rfl) (by rfl)) (by rfl)) (js_one (js_ret (je_cal (L2N.takes_of rfl rfl rfl rfl) c_shortest_of rfl (hr.mono (by omega)) (by rfl) (ja_cons (je_var 0 rfl (Or.inl rfl) (by decide) (by decide)) ja_nil (by rfl)) (ga_cons ga_nil) (by decide) (by rfl) (by rfl)))))

abbrev s_count_writings : Stmt := topS 30
theorem sc_count_writings : FnScope ["works", "found", "place", "work"] ["works"] (defScope s_count_writings) := ⟨rfl, rfl, rfl, by decide +kernel, rfl, by decide +kernel, by decide +kernel⟩
def G_count_writings : SDen := (sSeq (sExpr (eFn F_need_works (aCons (eVar 0) aNil))) (sSeq (sSet 1 (eC (.int 1))) (sSeq (sFor (eSrcC srcEnum (aCons (eVar 0) aNil)) (gT (gsN [2, 3]) 2) (sIf (tOf (eBin dIn (eVar 3) (eSl (eVar 0) oNone (oSome (eVar 2))))) (sAug 1 dMul (eIf (tOf (eBin dEq (eBin dIx (eVar 0) (eBin dSub (eVar 2) (eC (.int 1)))) (eVar 3))) (eC (.int 3)) (eC (.int 2)))) sNil)) (sRet (eVar 1)))))
def F_count_writings : FDen := runF 1 4 G_count_writings
theorem w_count_writings {a0 : D} {ce : Cells} {Q : D → Cells → Prop} {E : Str → Cells → Prop} (h : WS ((sSeq (sExpr (eFn F_need_works (aCons (eVar 0) aNil))) (sSeq (sSet 1 (eC (.int 1))) (sSeq (sFor (eSrcC srcEnum (aCons (eVar 0) aNil)) (gT (gsN [2, 3]) 2) (sIf (tOf (eBin dIn (eVar 3) (eSl (eVar 0) oNone (oSome (eVar 2))))) (sAug 1 dMul (eIf (tOf (eBin dEq (eBin dIx (eVar 0) (eBin dSub (eVar 2) (eC (.int 1)))) (eVar 3))) (eC (.int 3)) (eC (.int 2)))) sNil)) (sRet (eVar 1))))) [some a0, none, none, none] ce) (fun _ ce1 => WFin ce.length .non ce1 Q) (fun d ce1 => WFin ce.length d ce1 Q) (fun _ _ => False) (fun _ _ => False) fun x _ ce1 => E x (ce1.take ce.length)) : WE (F_count_writings [a0] ce) Q E := run_ws rfl h
theorem cal_count_writings {P : Program} {w : World} {K : PySem.W.Frag} {mg : Str → Option Value} {base : Heap} {f : Addr} {fd : FuncData} (F : Fun K "count_writings" "count_writings" s_count_writings f fd) (hm : mg "count_writings" = some (.ref f)) (z_enumerate : mg "enumerate" = none) (c_need_works : Cal P w K mg base 2 "need_works" 1 F_need_works) : Cal P w K mg base 3 "count_writings" 1 F_count_writings := by
  refine cal_mk (g := G_count_writings) (ps := ["works"]) (N := ["works", "found", "place", "work"]) F hm sc_count_writings (fun _ _ _ _ _ _ us hl => match us, hl with | [_], _ => rfl) fun cdv A outer s H E hr => ?_
  exact (js_cons (js_expr (je_cal (L2N.takes_of rfl rfl rfl rfl) c_need_works rfl (hr.mono (by omega)) (by rfl) (ja_cons (je_var 0 rfl (Or.inl rfl) (by decide) (by decide)) ja_nil (by rfl)) (ga_cons ga_nil) (by decide) (by rfl) (by rfl)) (by rfl)) (js_cons (js_set 1 sc_count_writings.nd rfl (Or.inl rfl) je_int (by rfl) (Or.inl rfl)) (js_cons (js_for (passes_of rfl) rfl (ji_enum (by rfl) z_enumerate (ja_cons (je_var 0 rfl (Or.inl rfl) (by decide) (by decide)) ja_nil (by rfl)) (by rfl)) (jg_tup rfl (jgs_cons 2 sc_count_writings.nd rfl (Or.inl rfl) (Or.inl rfl) (jgs_cons 3 sc_count_writings.nd rfl (Or.inl rfl) (Or.inl rfl) jgs_nil rfl) rfl) rfl rfl) (js_one (js_if (jt_cmp oj_in (je_var 3 rfl (Or.inl rfl) (by decide) (by decide)) (je_sl (je_var 0 rfl (Or.inl rfl) (by decide) (by decide)) jo_none (jo_some (je_var 2 rfl (Or.inl rfl) (by decide) (by decide)))) (by rfl)) (js_one (js_aug 1 sc_count_writings.nd rfl (Or.inl rfl) (je_if (jt_cmp (oj_eq hr.units) (je_ix ij_ix (je_var 0 rfl (Or.inl rfl) (by decide) (by decide)) (je_bin oj_sub (je_var 2 rfl (Or.inl rfl) (by decide) (by decide)) je_int) (fun _ _ => rfl)) (je_var 3 rfl (Or.inl rfl) (by decide) (by decide)) (nomark _)) je_int je_int) oj_imul (Or.inl rfl))) js_nil)) (fun _ => rfl)) (js_one (js_ret (je_var 1 rfl (Or.inl rfl) (by decide) (by decide)))))))

abbrev s_count_rows : Stmt := topS 31
theorem sc_count_rows : FnScope ["length", "many", "table", "turn", "later", "known", "again"] ["length", "many"] (defScope s_count_rows) := ⟨rfl, rfl, rfl, by decide +kernel, rfl, by decide +kernel, by decide +kernel⟩
def G_count_rows : SDen := (sSeq (sIf (tOrD (tNotD (tOf (eFn F_is_from (aCons (eVar 0) (aCons (eC (.int 0)) (aCons (eC (.int 30)) aNil)))))) (tNotD (tOf (eFn F_is_from (aCons (eVar 1) (aCons (eC (.int 0)) (aCons (eCall dLen (aCons (eC (.str [65, 66, 67, 68, 69, 70, 71, 72, 73, 74, 75, 76, 77, 78, 79, 80, 81, 82, 83, 84, 85, 86, 87, 88, 89, 90])) aNil)) aNil))))))) sNever sNil) (sSeq (sSet 2 (eDisp1 (eC (.int 0)) (eC (.int 1)))) (sSeq (sFor (eSrc srcRange1 (aCons (eVar 0) aNil)) (gN 3) (sSeq (sSet 4 eDNew) (sSeq (sFor (eIter (eCall dSortD (aCons (eVar 2) aNil))) (gN 5) (sSeq (sSet 6 (eBin dMul (eBin dDGet (eVar 2) (eVar 5)) (eBin dAdd (eBin dMul (eC (.int 2)) (eVar 5)) (eCall dInt (aCons (eBin dGt (eVar 5) (eC (.int 0))) aNil))))) (sSeq (sDPut (eVar 4) (eVar 5) (eBin dAdd (eDGetD (eVar 4) (eVar 5) (eC (.int 0))) (eVar 6))) (sDPut (eVar 4) (eBin dAdd (eVar 5) (eC (.int 1))) (eBin dAdd (eDGetD (eVar 4) (eBin dAdd (eVar 5) (eC (.int 1))) (eC (.int 0))) (eBin dMul (eBin dDGet (eVar 2) (eVar 5)) (eBin dSub (eVar 1) (eVar 5)))))))) (sSet 2 (eVar 4))))) (sRet (eCall dSum (aCons (eComp (eIter (eCall dSortD (aCons (eVar 2) aNil))) [5] (gN 5) ttYes (eBin dDGet (eVar 2) (eVar 5))) aNil))))))
def F_count_rows : FDen := runF 2 7 G_count_rows
theorem w_count_rows {a0 a1 : D} {ce : Cells} {Q : D → Cells → Prop} {E : Str → Cells → Prop} (h : WS ((sSeq (sIf (tOrD (tNotD (tOf (eFn F_is_from (aCons (eVar 0) (aCons (eC (.int 0)) (aCons (eC (.int 30)) aNil)))))) (tNotD (tOf (eFn F_is_from (aCons (eVar 1) (aCons (eC (.int 0)) (aCons (eCall dLen (aCons (eC (.str [65, 66, 67, 68, 69, 70, 71, 72, 73, 74, 75, 76, 77, 78, 79, 80, 81, 82, 83, 84, 85, 86, 87, 88, 89, 90])) aNil)) aNil))))))) sNever sNil) (sSeq (sSet 2 (eDisp1 (eC (.int 0)) (eC (.int 1)))) (sSeq (sFor (eSrc srcRange1 (aCons (eVar 0) aNil)) (gN 3) (sSeq (sSet 4 eDNew) (sSeq (sFor (eIter (eCall dSortD (aCons (eVar 2) aNil))) (gN 5) (sSeq (sSet 6 (eBin dMul (eBin dDGet (eVar 2) (eVar 5)) (eBin dAdd (eBin dMul (eC (.int 2)) (eVar 5)) (eCall dInt (aCons (eBin dGt (eVar 5) (eC (.int 0))) aNil))))) (sSeq (sDPut (eVar 4) (eVar 5) (eBin dAdd (eDGetD (eVar 4) (eVar 5) (eC (.int 0))) (eVar 6))) (sDPut (eVar 4) (eBin dAdd (eVar 5) (eC (.int 1))) (eBin dAdd (eDGetD (eVar 4) (eBin dAdd (eVar 5) (eC (.int 1))) (eC (.int 0))) (eBin dMul (eBin dDGet (eVar 2) (eVar 5)) (eBin dSub (eVar 1) (eVar 5)))))))) (sSet 2 (eVar 4))))) (sRet (eCall dSum (aCons (eComp (eIter (eCall dSortD (aCons (eVar 2) aNil))) [5] (gN 5) ttYes (eBin dDGet (eVar 2) (eVar 5))) aNil)))))) [some a0, some a1, none, none, none, none, none] ce) (fun _ ce1 => WFin ce.length .non ce1 Q) (fun d ce1 => WFin ce.length d ce1 Q) (fun _ _ => False) (fun _ _ => False) fun x _ ce1 => E x (ce1.take ce.length)) : WE (F_count_rows [a0, a1] ce) Q E := run_ws rfl h
theorem cal_count_rows {P : Program} {w : World} {K : PySem.W.Frag} {mg : Str → Option Value} {base : Heap} {f : Addr} {fd : FuncData} (F : Fun K "count_rows" "count_rows" s_count_rows f fd) (hm : mg "count_rows" = some (.ref f)) (z_int : mg "int" = none) (z_len : mg "len" = none) (z_range : mg "range" = none) (z_sorted : mg "sorted" = none) (z_sum : mg "sum" = none) {u_LETTERS : Value} (m_LETTERS : mg "LETTERS" = some u_LETTERS) (r_LETTERS : RelV (.str "ABCDEFGHIJKLMNOPQRSTUVWXYZ") u_LETTERS) {u_MOST_NOTES : Value} (m_MOST_NOTES : mg "MOST_NOTES" = some u_MOST_NOTES) (r_MOST_NOTES : RelV (.int 30) u_MOST_NOTES) (c_is_from : Cal P w K mg base 1 "is_from" 3 F_is_from) : Cal P w K mg base 2 "count_rows" 2 F_count_rows := by
  refine cal_mk (g := G_count_rows) (ps := ["length", "many"]) (N := ["length", "many", "table", "turn", "later", "known", "again"]) F hm sc_count_rows (fun _ _ _ _ _ _ us hl => match us, hl with | [_, _], _ => rfl) fun cdv A outer s H E hr => ?_
  exact (js_cons (js_if (jw_pt (jw_or (jt_not (jt_val (je_cal (L2N.takes_of rfl rfl rfl rfl) c_is_from rfl (hr.mono (by omega)) (by rfl) (ja_cons (je_var 0 rfl (Or.inl rfl) (by decide) (by decide)) (ja_cons je_int (ja_cons (je_glC (d := .int 30) (by rfl) m_MOST_NOTES r_MOST_NOTES (by decide) (fun _ _ => repT_int.mpr rfl)) ja_nil (by rfl)) (by rfl)) (by rfl)) (ga_cons (ga_cons (ga_cons ga_nil))) (by decide) (by rfl) (by rfl)) (fun _ => rfl))) (jw_or1 (jt_not (jt_val (je_cal (L2N.takes_of rfl rfl rfl rfl) c_is_from rfl (hr.mono (by omega)) (by rfl) (ja_cons (je_var 1 rfl (Or.inl rfl) (by decide) (by decide)) (ja_cons je_int (ja_cons (je_callB cj_len (by rfl) z_len (by decide +kernel) (ja_cons (je_glC (d := .str [65, 66, 67, 68, 69, 70, 71, 72, 73, 74, 75, 76, 77, 78, 79, 80, 81, 82, 83, 84, 85, 86, 87, 88, 89, 90]) (by rfl) m_LETTERS r_LETTERS (by decide) (fun _ _ => repT_str.mpr ⟨congrArg V.str (show _ = toStr [65, 66, 67, 68, 69, 70, 71, 72, 73, 74, 75, 76, 77, 78, 79, 80, 81, 82, 83, 84, 85, 86, 87, 88, 89, 90] by decide +kernel), okS_by (by decide +kernel)⟩)) ja_nil (by rfl)) (by decide) (by decide) (by rfl) (by rfl)) ja_nil (by rfl)) (by rfl)) (by rfl)) (ga_cons (ga_cons (ga_cons ga_nil))) (by decide) (by rfl) (by rfl)) (fun _ => rfl)))))) (js_one js_never) js_nil) (js_cons (js_set 2 sc_count_rows.nd rfl (Or.inr rfl) (je_disp1 je_int je_int) (by rfl) (Or.inl rfl)) (js_cons (js_for (passes_of rfl) rfl (ji_range1 (by rfl) z_range (ja_cons (je_var 0 rfl (Or.inl rfl) (by decide) (by decide)) ja_nil (by rfl)) (by rfl)) (jg_name 3 sc_count_rows.nd rfl (Or.inl rfl) (Or.inl rfl)) (js_cons (js_set 4 sc_count_rows.nd rfl (Or.inl rfl) je_dnew (by rfl) (Or.inl rfl)) (js_cons (js_for (passes_of rfl) rfl (ji_val (je_callB (cj_sortD rfl) (by rfl) z_sorted (by decide +kernel) (ja_cons (je_var 2 rfl (Or.inr (Or.inl rfl)) (by decide) (by decide)) ja_nil (by rfl)) (by decide) (by decide) (by rfl) (by rfl))) (jg_name 5 sc_count_rows.nd rfl (Or.inl rfl) (Or.inl rfl)) (js_cons (js_set 6 sc_count_rows.nd rfl (Or.inl rfl) (je_bin oj_mul (je_dget (hu1 hr.units) (je_var 2 rfl (Or.inr (Or.inl rfl)) (by decide) (by decide)) (je_var 5 rfl (Or.inl rfl) (by decide) (by decide)) (fun _ _ => rfl)) (je_bin oj_add (je_bin oj_mul je_int (je_var 5 rfl (Or.inl rfl) (by decide) (by decide))) (je_callTy cj_int (by rfl) z_int (by decide +kernel) (ja_cons (je_cmp oj_gt (je_var 5 rfl (Or.inl rfl) (by decide) (by decide)) je_int (nomark _)) ja_nil (by rfl)) (by decide) (by decide) (by rfl) (by rfl)))) (by rfl) (Or.inl rfl)) (js_cons (js_dput (hu1 hr.units) (je_var 4 rfl (Or.inl rfl) (by decide) (by decide)) (je_var 5 rfl (Or.inl rfl) (by decide) (by decide)) (je_bin oj_add (je_dgetD (hu1 hr.units) (je_var 4 rfl (Or.inl rfl) (by decide) (by decide)) (je_var 5 rfl (Or.inl rfl) (by decide) (by decide)) je_int ⟨by rfl, by rfl, by rfl, by rfl⟩) (je_var 6 rfl (Or.inl rfl) (by decide) (by decide))) (by rfl)) (js_one (js_dput (hu1 hr.units) (je_var 4 rfl (Or.inl rfl) (by decide) (by decide)) (je_bin oj_add (je_var 5 rfl (Or.inl rfl) (by decide) (by decide)) je_int) (je_bin oj_add (je_dgetD (hu1 hr.units) (je_var 4 rfl (Or.inl rfl) (by decide) (by decide)) (je_bin oj_add (je_var 5 rfl (Or.inl rfl) (by decide) (by decide)) je_int) je_int ⟨by rfl, by rfl, by rfl, by rfl⟩) (je_bin oj_mul (je_dget (hu1 hr.units) (je_var 2 rfl (Or.inr (Or.inl rfl)) (by decide) (by decide)) (je_var 5 rfl (Or.inl rfl) (by decide) (by decide)) (fun _ _ => rfl)) (je_bin oj_sub (je_var 1 rfl (Or.inl rfl) (by decide) (by decide)) (je_var 5 rfl (Or.inl rfl) (by decide) (by decide))))) (by rfl))))) (fun _ => rfl)) (js_one (js_set 2 sc_count_rows.nd rfl (Or.inr rfl) (je_var 4 rfl (Or.inl rfl) (by decide) (by decide)) (by rfl) (Or.inl rfl))))) (fun _ => rfl)) (js_one (js_ret (je_callB (cj_sum rfl) (by rfl) z_sum (by decide +kernel) (ja_cons (je_comp rfl sc_count_rows.nd (ji_val (je_callB (cj_sortD rfl) (by rfl) z_sorted (by decide +kernel) (ja_cons (je_var 2 rfl (Or.inr (Or.inl rfl)) (by decide) (by decide)) ja_nil (by rfl)) (by decide) (by decide) (by rfl) (by rfl))) (blkOk_by (own := [("known", 5)]) (N := ["length", "many", "table", "turn", "later", "known", "again"]) (sc := defScope s_count_rows) (by decide +kernel)) rfl (fun _ _ _ _ _ => (jg_name 5 sc_count_rows.nd rfl (Or.inl rfl) (Or.inr rfl))) (fun _ _ _ _ _ => jts_nil) (fun _ _ _ _ _ => (je_dget (hu1 hr.units) (je_var 2 rfl (Or.inr (Or.inl rfl)) (by decide) (by decide)) (je_var 5 rfl (Or.inl rfl) (by decide) (by decide)) (fun _ _ => rfl))) (fun _ => rfl)) ja_nil (by rfl)) (by decide) (by decide) (by rfl) (by rfl)))))))

abbrev s_factorial : Stmt := topS 33
theorem sc_factorial : FnScope ["many", "found", "k"] ["many"] (defScope s_factorial) := ⟨rfl, rfl, rfl, by decide +kernel, rfl, by decide +kernel, by decide +kernel⟩
def G_factorial : SDen := (sSeq (sSet 1 (eC (.int 1))) (sSeq (sFor (eSrc srcRange2 (aCons (eC (.int 2)) (aCons (eBin dAdd (eVar 0) (eC (.int 1))) aNil))) (gN 2) (sAug 1 dMul (eVar 2))) (sRet (eVar 1))))
def F_factorial : FDen := runF 1 3 G_factorial
theorem w_factorial {a0 : D} {ce : Cells} {Q : D → Cells → Prop} {E : Str → Cells → Prop} (h : WS ((sSeq (sSet 1 (eC (.int 1))) (sSeq (sFor (eSrc srcRange2 (aCons (eC (.int 2)) (aCons (eBin dAdd (eVar 0) (eC (.int 1))) aNil))) (gN 2) (sAug 1 dMul (eVar 2))) (sRet (eVar 1)))) [some a0, none, none] ce) (fun _ ce1 => WFin ce.length .non ce1 Q) (fun d ce1 => WFin ce.length d ce1 Q) (fun _ _ => False) (fun _ _ => False) fun x _ ce1 => E x (ce1.take ce.length)) : WE (F_factorial [a0] ce) Q E := run_ws rfl h
theorem cal_factorial {P : Program} {w : World} {K : PySem.W.Frag} {mg : Str → Option Value} {base : Heap} {f : Addr} {fd : FuncData} (F : Fun K "factorial" "factorial" s_factorial f fd) (hm : mg "factorial" = some (.ref f)) (z_range : mg "range" = none) : Cal P w K mg base 1 "factorial" 1 F_factorial := by
  refine cal_mk (g := G_factorial) (ps := ["many"]) (N := ["many", "found", "k"]) F hm sc_factorial (fun _ _ _ _ _ _ us hl => match us, hl with | [_], _ => rfl) fun cdv A outer s H E hr => ?_
  exact (js_cons (js_set 1 sc_factorial.nd rfl (Or.inl rfl) je_int (by rfl) (Or.inl rfl)) (js_cons (js_for (passes_of rfl) rfl (ji_range2 (by rfl) z_range (ja_cons je_int (ja_cons (je_bin oj_add (je_var 0 rfl (Or.inl rfl) (by decide) (by decide)) je_int) ja_nil (by rfl)) (by rfl)) (by rfl) (by rfl)) (jg_name 2 sc_factorial.nd rfl (Or.inl rfl) (Or.inl rfl)) (js_one (js_aug 1 sc_factorial.nd rfl (Or.inl rfl) (je_var 2 rfl (Or.inl rfl) (by decide) (by decide)) oj_imul (Or.inl rfl))) (fun _ => rfl)) (js_one (js_ret (je_var 1 rfl (Or.inl rfl) (by decide) (by decide))))))

abbrev s_ways : Stmt := topS 34
theorem sc_ways : FnScope ["row", "works", "left", "last", "names", "found", "seen", "work", "heads", "slots", "turn", "place"] ["row", "works", "left", "last"] (defScope s_ways) := ⟨rfl, rfl, rfl, by decide +kernel, rfl, by decide +kernel, by decide +kernel⟩
def G_ways : SDen := (sSeq (sSet 4 (eComp (eIter (eVar 2)) [11] (gN 11) (tOf (eBin dNe (eBin dIx (eVar 0) (eVar 11)) (eC (.str [45])))) (eVar 11))) (sSeq (sSet 5 (eFn F_factorial (aCons (eCall dLen (aCons (eVar 4) aNil)) aNil))) (sSeq (sSet 6 (eSComp (eSrc srcRange1 (aCons (eCall dLen (aCons (eVar 0) aNil)) aNil)) [11] (gN 11) (tAndD (tOf (eBin dNotIn (eVar 11) (eVar 2))) (tOf (eMeth0 "str" dIsUpper (eBin dIx (eVar 0) (eVar 11))))) (eBin dIx (eVar 1) (eVar 11)))) (sSeq (sFor (eIter (eCall dSortQ (aCons (eCall dSet (aCons (eVar 1) aNil)) aNil))) (gN 7) (sSeq (sSet 8 (eComp (eIter (eVar 4)) [11] (gN 11) (tOf (eBin dEq (eBin dIx (eVar 1) (eVar 11)) (eVar 7))) (eVar 11))) (sSeq (sIf (tAndD (tOf (eBin dNe (eVar 8) (eLst aNil))) (tOf (eBin dNotInQ (eVar 7) (eVar 6)))) (sSet 5 (eBin dDiv (eBin dMul (eVar 5) (eCall dLen (aCons (eComp (eIter (eVar 8)) [11] (gN 11) (tOf (eMeth0 "str" dIsUpper (eBin dIx (eVar 0) (eVar 11)))) (eVar 11)) aNil))) (eCall dLen (aCons (eVar 8) aNil)))) sNil) (sSeq (sSet 9 (eBin dAdd (eCall dLen (aCons (eVar 8) aNil)) (eCall dInt (aCons (eAnd (eBin dIsNot (eVar 3) (eC .non)) (eBin dEq (eBin dIx (eVar 1) (eVar 3)) (eVar 7))) aNil)))) (sFor (eSrc srcRange1 (aCons (eCall dLen (aCons (eComp (eIter (eVar 2)) [11] (gN 11) (tAndD (tOf (eBin dEq (eBin dIx (eVar 0) (eVar 11)) (eC (.str [45])))) (tOf (eBin dEq (eBin dIx (eVar 1) (eVar 11)) (eVar 7)))) (eVar 11)) aNil)) aNil)) (gN 10) (sAug 5 dMul (eBin dAdd (eVar 9) (eVar 10)))))))) (sRet (eVar 5))))))
def F_ways : FDen := runF 4 12 G_ways
theorem w_ways {a0 a1 a2 a3 : D} {ce : Cells} {Q : D → Cells → Prop} {E : Str → Cells → Prop} (h : WS ((sSeq (sSet 4 (eComp (eIter (eVar 2)) [11] (gN 11) (tOf (eBin dNe (eBin dIx (eVar 0) (eVar 11)) (eC (.str [45])))) (eVar 11))) (sSeq (sSet 5 (eFn F_factorial (aCons (eCall dLen (aCons (eVar 4) aNil)) aNil))) (sSeq (sSet 6 (eSComp (eSrc srcRange1 (aCons (eCall dLen (aCons (eVar 0) aNil)) aNil)) [11] (gN 11) (tAndD (tOf (eBin dNotIn (eVar 11) (eVar 2))) (tOf (eMeth0 "str" dIsUpper (eBin dIx (eVar 0) (eVar 11))))) (eBin dIx (eVar 1) (eVar 11)))) (sSeq (sFor (eIter (eCall dSortQ (aCons (eCall dSet (aCons (eVar 1) aNil)) aNil))) (gN 7) (sSeq (sSet 8 (eComp (eIter (eVar 4)) [11] (gN 11) (tOf (eBin dEq (eBin dIx (eVar 1) (eVar 11)) (eVar 7))) (eVar 11))) (sSeq (sIf (tAndD (tOf (eBin dNe (eVar 8) (eLst aNil))) (tOf (eBin dNotInQ (eVar 7) (eVar 6)))) (sSet 5 (eBin dDiv (eBin dMul (eVar 5) (eCall dLen (aCons (eComp (eIter (eVar 8)) [11] (gN 11) (tOf (eMeth0 "str" dIsUpper (eBin dIx (eVar 0) (eVar 11)))) (eVar 11)) aNil))) (eCall dLen (aCons (eVar 8) aNil)))) sNil) (sSeq (sSet 9 (eBin dAdd (eCall dLen (aCons (eVar 8) aNil)) (eCall dInt (aCons (eAnd (eBin dIsNot (eVar 3) (eC .non)) (eBin dEq (eBin dIx (eVar 1) (eVar 3)) (eVar 7))) aNil)))) (sFor (eSrc srcRange1 (aCons (eCall dLen (aCons (eComp (eIter (eVar 2)) [11] (gN 11) (tAndD (tOf (eBin dEq (eBin dIx (eVar 0) (eVar 11)) (eC (.str [45])))) (tOf (eBin dEq (eBin dIx (eVar 1) (eVar 11)) (eVar 7)))) (eVar 11)) aNil)) aNil)) (gN 10) (sAug 5 dMul (eBin dAdd (eVar 9) (eVar 10)))))))) (sRet (eVar 5)))))) [some a0, some a1, some a2, some a3, none, none, none, none, none, none, none, none] ce) (fun _ ce1 => WFin ce.length .non ce1 Q) (fun d ce1 => WFin ce.length d ce1 Q) (fun _ _ => False) (fun _ _ => False) fun x _ ce1 => E x (ce1.take ce.length)) : WE (F_ways [a0, a1, a2, a3] ce) Q E := run_ws rfl h
theorem cal_ways {P : Program} {w : World} {K : PySem.W.Frag} {mg : Str → Option Value} {base : Heap} {f : Addr} {fd : FuncData} (F : Fun K "ways" "ways" s_ways f fd) (hm : mg "ways" = some (.ref f)) (z_int : mg "int" = none) (z_len : mg "len" = none) (z_range : mg "range" = none) (z_set : mg "set" = none) (z_sorted : mg "sorted" = none) (c_factorial : Cal P w K mg base 1 "factorial" 1 F_factorial) : Cal P w K mg base 2 "ways" 4 F_ways := by
  refine cal_mk (g := G_ways) (ps := ["row", "works", "left", "last"]) (N := ["row", "works", "left", "last", "names", "found", "seen", "work", "heads", "slots", "turn", "place"]) F hm sc_ways (fun _ _ _ _ _ _ us hl => match us, hl with | [_, _, _, _], _ => rfl) fun cdv A outer s H E hr => ?_
  exact (js_cons (js_setComp 4 rfl sc_ways.nd rfl rfl (sw_true rfl rfl rfl (by decide +kernel)) (ji_val (je_var 2 rfl (Or.inr (Or.inl rfl)) (by decide) (by decide))) (blkOk_by (own := [("place", 11)]) (N := ["row", "works", "left", "last", "names", "found", "seen", "work", "heads", "slots", "turn", "place"]) (sc := defScope s_ways) (by decide +kernel)) rfl (fun _ _ _ _ _ => (jg_name 11 sc_ways.nd rfl (Or.inl rfl) (Or.inr rfl))) (fun _ _ _ _ _ => (jts_one (jt_cmp (oj_ne hr.units) (je_ix ij_ix (je_var 0 rfl (Or.inr (Or.inl rfl)) (by decide) (by decide)) (je_var 11 rfl (Or.inl rfl) (by decide) (by decide)) (fun _ _ => rfl)) (je_str [45] (by decide +kernel) (by decide +kernel)) (nomark _)))) (fun _ _ _ _ _ => (je_var 11 rfl (Or.inl rfl) (by decide) (by decide))) (fun _ => rfl)) (js_cons (js_set 5 sc_ways.nd rfl (Or.inl rfl) (je_cal (L2N.takes_of rfl rfl rfl rfl) c_factorial rfl (hr.mono (by omega)) (by rfl) (ja_cons (je_callB cj_len (by rfl) z_len (by decide +kernel) (ja_cons (je_var 4 rfl (Or.inl rfl) (by decide) (by decide)) ja_nil (by rfl)) (by decide) (by decide) (by rfl) (by rfl)) ja_nil (by rfl)) (ga_cons ga_nil) (by decide) (by rfl) (by rfl)) (by rfl) (Or.inl rfl)) (js_cons (js_setSComp 6 rfl sc_ways.nd rfl rfl (sw_trueS rfl rfl rfl (by decide +kernel)) (ji_range1 (by rfl) z_range (ja_cons (je_callB cj_len (by rfl) z_len (by decide +kernel) (ja_cons (je_var 0 rfl (Or.inr (Or.inl rfl)) (by decide) (by decide)) ja_nil (by rfl)) (by decide) (by decide) (by rfl) (by rfl)) ja_nil (by rfl)) (by rfl)) (blkOk_by (own := [("place", 11)]) (N := ["row", "works", "left", "last", "names", "found", "seen", "work", "heads", "slots", "turn", "place"]) (sc := defScope s_ways) (by decide +kernel)) rfl (fun _ _ _ _ _ => (jg_name 11 sc_ways.nd rfl (Or.inl rfl) (Or.inr rfl))) (fun _ _ _ _ _ => (jts_one (jw_pt (jw_and (jt_cmp oj_notin (je_var 11 rfl (Or.inl rfl) (by decide) (by decide)) (je_var 2 rfl (Or.inr (Or.inl rfl)) (by decide) (by decide)) (by rfl)) (jw_and1 (jt_val (je_meth0 PySem.F.plainAttrs_str PySem.F.slot_str_isupper PySem.F.type_str_isupper mj_isupper (je_ix ij_ix (je_var 0 rfl (Or.inr (Or.inl rfl)) (by decide) (by decide)) (je_var 11 rfl (Or.inl rfl) (by decide) (by decide)) (fun _ _ => rfl)) (by rfl) (by rfl)) (fun _ => rfl))))))) (fun _ _ _ _ _ => (je_ix ij_ix (je_var 1 rfl (Or.inr (Or.inl rfl)) (by decide) (by decide)) (je_var 11 rfl (Or.inl rfl) (by decide) (by decide)) (fun _ _ => rfl))) (fun _ => rfl)) (js_cons (js_for (passes_of rfl) rfl (ji_val (je_callB (cj_sortQ rfl) (by rfl) z_sorted (by decide +kernel) (ja_cons (je_callTy (cj_set rfl) (by rfl) z_set (by decide +kernel) (ja_cons (je_var 1 rfl (Or.inr (Or.inl rfl)) (by decide) (by decide)) ja_nil (by rfl)) (by decide) (by decide) (by rfl) (by rfl)) ja_nil (by rfl)) (by decide) (by decide) (by rfl) (by rfl))) (jg_name 7 sc_ways.nd rfl (Or.inr rfl) (Or.inl rfl)) (js_cons (js_setComp 8 rfl sc_ways.nd rfl rfl (sw_true rfl rfl rfl (by decide +kernel)) (ji_val (je_var 4 rfl (Or.inl rfl) (by decide) (by decide))) (blkOk_by (own := [("place", 11)]) (N := ["row", "works", "left", "last", "names", "found", "seen", "work", "heads", "slots", "turn", "place"]) (sc := defScope s_ways) (by decide +kernel)) rfl (fun _ _ _ _ _ => (jg_name 11 sc_ways.nd rfl (Or.inl rfl) (Or.inr rfl))) (fun _ _ _ _ _ => (jts_one (jt_cmp (oj_eq hr.units) (je_ix ij_ix (je_var 1 rfl (Or.inr (Or.inl rfl)) (by decide) (by decide)) (je_var 11 rfl (Or.inl rfl) (by decide) (by decide)) (fun _ _ => rfl)) (je_var 7 rfl (Or.inr (Or.inl rfl)) (by decide) (by decide)) (nomark _)))) (fun _ _ _ _ _ => (je_var 11 rfl (Or.inl rfl) (by decide) (by decide))) (fun _ => rfl)) (js_cons (js_if (jw_pt (jw_and (jt_cmp (oj_ne hr.units) (je_var 8 rfl (Or.inl rfl) (by decide) (by decide)) (je_lst ja_nil) (nomark _)) (jw_and1 (jt_cmp oj_notinQ (je_var 7 rfl (Or.inr (Or.inl rfl)) (by decide) (by decide)) (je_var 6 rfl (Or.inl rfl) (by decide) (by decide)) (by rfl))))) (js_one (js_set 5 sc_ways.nd rfl (Or.inl rfl) (je_bin oj_div (je_bin oj_mul (je_var 5 rfl (Or.inl rfl) (by decide) (by decide)) (je_callB cj_len (by rfl) z_len (by decide +kernel) (ja_cons (je_comp rfl sc_ways.nd (ji_val (je_var 8 rfl (Or.inl rfl) (by decide) (by decide))) (blkOk_by (own := [("place", 11)]) (N := ["row", "works", "left", "last", "names", "found", "seen", "work", "heads", "slots", "turn", "place"]) (sc := defScope s_ways) (by decide +kernel)) rfl (fun _ _ _ _ _ => (jg_name 11 sc_ways.nd rfl (Or.inl rfl) (Or.inr rfl))) (fun _ _ _ _ _ => (jts_one (jt_val (je_meth0 PySem.F.plainAttrs_str PySem.F.slot_str_isupper PySem.F.type_str_isupper mj_isupper (je_ix ij_ix (je_var 0 rfl (Or.inr (Or.inl rfl)) (by decide) (by decide)) (je_var 11 rfl (Or.inl rfl) (by decide) (by decide)) (fun _ _ => rfl)) (by rfl) (by rfl)) (fun _ => rfl)))) (fun _ _ _ _ _ => (je_var 11 rfl (Or.inl rfl) (by decide) (by decide))) (fun _ => rfl)) ja_nil (by rfl)) (by decide) (by decide) (by rfl) (by rfl))) (je_callB cj_len (by rfl) z_len (by decide +kernel) (ja_cons (je_var 8 rfl (Or.inl rfl) (by decide) (by decide)) ja_nil (by rfl)) (by decide) (by decide) (by rfl) (by rfl))) (by rfl) (Or.inl rfl))) js_nil) (js_cons (js_set 9 sc_ways.nd rfl (Or.inl rfl) (je_bin oj_add (je_callB cj_len (by rfl) z_len (by decide +kernel) (ja_cons (je_var 8 rfl (Or.inl rfl) (by decide) (by decide)) ja_nil (by rfl)) (by decide) (by decide) (by rfl) (by rfl)) (je_callTy cj_int (by rfl) z_int (by decide +kernel) (ja_cons (je_and (je_cmp oj_isnot (je_var 3 rfl (Or.inl rfl) (by decide) (by decide)) je_non (nomark _)) (je_one (je_cmp (oj_eq hr.units) (je_ix ij_ix (je_var 1 rfl (Or.inr (Or.inl rfl)) (by decide) (by decide)) (je_var 3 rfl (Or.inl rfl) (by decide) (by decide)) (fun _ _ => rfl)) (je_var 7 rfl (Or.inr (Or.inl rfl)) (by decide) (by decide)) (nomark _)))) ja_nil (by rfl)) (by decide) (by decide) (by rfl) (by rfl))) (by rfl) (Or.inl rfl)) (js_one (js_for (passes_of rfl) rfl (ji_range1 (by rfl) z_range (ja_cons (je_callB cj_len (by rfl) z_len (by decide +kernel) (ja_cons (je_comp rfl sc_ways.nd (ji_val (je_var 2 rfl (Or.inr (Or.inl rfl)) (by decide) (by decide))) (blkOk_by (own := [("place", 11)]) (N := ["row", "works", "left", "last", "names", "found", "seen", "work", "heads", "slots", "turn", "place"]) (sc := defScope s_ways) (by decide +kernel)) rfl (fun _ _ _ _ _ => (jg_name 11 sc_ways.nd rfl (Or.inl rfl) (Or.inr rfl))) (fun _ _ _ _ _ => (jts_one (jw_pt (jw_and (jt_cmp (oj_eq hr.units) (je_ix ij_ix (je_var 0 rfl (Or.inr (Or.inl rfl)) (by decide) (by decide)) (je_var 11 rfl (Or.inl rfl) (by decide) (by decide)) (fun _ _ => rfl)) (je_str [45] (by decide +kernel) (by decide +kernel)) (nomark _)) (jw_and1 (jt_cmp (oj_eq hr.units) (je_ix ij_ix (je_var 1 rfl (Or.inr (Or.inl rfl)) (by decide) (by decide)) (je_var 11 rfl (Or.inl rfl) (by decide) (by decide)) (fun _ _ => rfl)) (je_var 7 rfl (Or.inr (Or.inl rfl)) (by decide) (by decide)) (nomark _))))))) (fun _ _ _ _ _ => (je_var 11 rfl (Or.inl rfl) (by decide) (by decide))) (fun _ => rfl)) ja_nil (by rfl)) (by decide) (by decide) (by rfl) (by rfl)) ja_nil (by rfl)) (by rfl)) (jg_name 10 sc_ways.nd rfl (Or.inl rfl) (Or.inl rfl)) (js_one (js_aug 5 sc_ways.nd rfl (Or.inl rfl) (je_bin oj_add (je_var 9 rfl (Or.inl rfl) (by decide) (by decide)) (je_var 10 rfl (Or.inl rfl) (by decide) (by decide))) oj_imul (Or.inl rfl))) (fun _ => rfl)))))) (fun _ => rfl)) (js_one (js_ret (je_var 5 rfl (Or.inl rfl) (by decide) (by decide))))))))

abbrev s_moved : Stmt := topS 35
theorem sc_moved : FnScope ["row", "order", "place"] ["row", "order"] (defScope s_moved) := ⟨rfl, rfl, rfl, by decide +kernel, rfl, by decide +kernel, by decide +kernel⟩
def G_moved : SDen := (sRet (eMethR "str" dJoin (eC (.str [])) (aCons (eComp (eIter (eVar 1)) [2] (gN 2) ttYes (eBin dIx (eVar 0) (eVar 2))) aNil)))
def F_moved : FDen := runF 2 3 G_moved
theorem w_moved {a0 a1 : D} {ce : Cells} {Q : D → Cells → Prop} {E : Str → Cells → Prop} (h : WS ((sRet (eMethR "str" dJoin (eC (.str [])) (aCons (eComp (eIter (eVar 1)) [2] (gN 2) ttYes (eBin dIx (eVar 0) (eVar 2))) aNil))) [some a0, some a1, none] ce) (fun _ ce1 => WFin ce.length .non ce1 Q) (fun d ce1 => WFin ce.length d ce1 Q) (fun _ _ => False) (fun _ _ => False) fun x _ ce1 => E x (ce1.take ce.length)) : WE (F_moved [a0, a1] ce) Q E := run_ws rfl h
theorem cal_moved {P : Program} {w : World} {K : PySem.W.Frag} {mg : Str → Option Value} {base : Heap} {f : Addr} {fd : FuncData} (F : Fun K "moved" "moved" s_moved f fd) (hm : mg "moved" = some (.ref f)) : Cal P w K mg base 1 "moved" 2 F_moved := by
  refine cal_mk (g := G_moved) (ps := ["row", "order"]) (N := ["row", "order", "place"]) F hm sc_moved (fun _ _ _ _ _ _ us hl => match us, hl with | [_, _], _ => rfl) fun cdv A outer s H E hr => ?_
  exact (js_one (js_ret (je_methR PySem.F.plainAttrs_str PySem.F.slot_str_join PySem.F.type_str_join mj_join (je_str [] (by decide +kernel) (by decide +kernel)) (ja_cons (je_comp rfl sc_moved.nd (ji_val (je_var 1 rfl (Or.inl rfl) (by decide) (by decide))) (blkOk_by (own := [("place", 2)]) (N := ["row", "order", "place"]) (sc := defScope s_moved) (by decide +kernel)) rfl (fun _ _ _ _ _ => (jg_name 2 sc_moved.nd rfl (Or.inl rfl) (Or.inr rfl))) (fun _ _ _ _ _ => jts_nil) (fun _ _ _ _ _ => (je_ix ij_ix (je_var 0 rfl (Or.inr (Or.inl rfl)) (by decide) (by decide)) (je_var 2 rfl (Or.inl rfl) (by decide) (by decide)) (fun _ _ => rfl))) (fun _ => rfl)) ja_nil (by rfl)) (by rfl) (by rfl) (by rfl) (by rfl) (by rfl))))

abbrev s_good_order : Stmt := topS 36
theorem sc_good_order : FnScope ["row", "value", "place"] ["row", "value"] (defScope s_good_order) := ⟨rfl, rfl, rfl, by decide +kernel, rfl, by decide +kernel, by decide +kernel⟩
def G_good_order : SDen := (sSeq (sIf (tOrD (tNotD (tOf (eCall dIsi (aCons (eVar 1) (aCons (eC (.ty "tuple")) aNil))))) (tNotD (tOf (eCall dAll (aCons (eComp (eIter (eVar 1)) [2] (gN 2) ttYes (eFn F_is_from (aCons (eVar 2) (aCons (eC (.int 0)) (aCons (eBin dSub (eCall dLen (aCons (eVar 0) aNil)) (eC (.int 1))) aNil))))) aNil))))) (sRet (eC (.bl false))) sNil) (sRet (eBin dEq (eCall dSort2 (aCons (eVar 1) aNil)) (eLR lrTree (rg1 (eCall dLen (aCons (eVar 0) aNil)))))))
def F_good_order : FDen := runF 2 3 G_good_order
theorem w_good_order {a0 a1 : D} {ce : Cells} {Q : D → Cells → Prop} {E : Str → Cells → Prop} (h : WS ((sSeq (sIf (tOrD (tNotD (tOf (eCall dIsi (aCons (eVar 1) (aCons (eC (.ty "tuple")) aNil))))) (tNotD (tOf (eCall dAll (aCons (eComp (eIter (eVar 1)) [2] (gN 2) ttYes (eFn F_is_from (aCons (eVar 2) (aCons (eC (.int 0)) (aCons (eBin dSub (eCall dLen (aCons (eVar 0) aNil)) (eC (.int 1))) aNil))))) aNil))))) (sRet (eC (.bl false))) sNil) (sRet (eBin dEq (eCall dSort2 (aCons (eVar 1) aNil)) (eLR lrTree (rg1 (eCall dLen (aCons (eVar 0) aNil))))))) [some a0, some a1, none] ce) (fun _ ce1 => WFin ce.length .non ce1 Q) (fun d ce1 => WFin ce.length d ce1 Q) (fun _ _ => False) (fun _ _ => False) fun x _ ce1 => E x (ce1.take ce.length)) : WE (F_good_order [a0, a1] ce) Q E := run_ws rfl h
theorem cal_good_order {P : Program} {w : World} {K : PySem.W.Frag} {mg : Str → Option Value} {base : Heap} {f : Addr} {fd : FuncData} (F : Fun K "good_order" "good_order" s_good_order f fd) (hm : mg "good_order" = some (.ref f)) (z_all : mg "all" = none) (z_isinstance : mg "isinstance" = none) (z_len : mg "len" = none) (z_list : mg "list" = none) (z_range : mg "range" = none) (z_sorted : mg "sorted" = none) (z_tuple : mg "tuple" = none) (c_is_from : Cal P w K mg base 1 "is_from" 3 F_is_from) : Cal P w K mg base 2 "good_order" 2 F_good_order := by
  refine cal_mk (g := G_good_order) (ps := ["row", "value"]) (N := ["row", "value", "place"]) F hm sc_good_order (fun _ _ _ _ _ _ us hl => match us, hl with | [_, _], _ => rfl) fun cdv A outer s H E hr => ?_
  exact (js_cons (js_if (jw_pt (jw_or (jt_not (jt_val (je_callB cj_isi (by rfl) z_isinstance (by decide +kernel) (ja_cons (je_var 1 rfl (Or.inl rfl) (by decide) (by decide)) (ja_cons (je_ty "tuple" (by rfl) z_tuple (by decide +kernel) (by decide) (by decide)) ja_nil (by rfl)) (by rfl)) (by decide) (by decide) (by rfl) (by rfl)) (fun _ => rfl))) (jw_or1 (jt_not (jt_val (je_callB (cj_all rfl) (by rfl) z_all (by decide +kernel) (ja_cons (je_comp rfl sc_good_order.nd (ji_val (je_var 1 rfl (Or.inl rfl) (by decide) (by decide))) (blkOk_by (own := [("place", 2)]) (N := ["row", "value", "place"]) (sc := defScope s_good_order) (by decide +kernel)) rfl (fun _ _ _ _ _ => (jg_name 2 sc_good_order.nd rfl (Or.inl rfl) (Or.inr rfl))) (fun _ _ _ _ _ => jts_nil) (fun _ _ _ _ _ => (je_cal takes0N c_is_from rfl (hr.mono (by omega)) (by rfl) (ja_cons (je_var 2 rfl (Or.inl rfl) (by decide) (by decide)) (ja_cons je_int (ja_cons (je_bin oj_sub (je_callB cj_len (by rfl) z_len (by decide +kernel) (ja_cons (je_var 0 rfl (Or.inr (Or.inl rfl)) (by decide) (by decide)) ja_nil (by rfl)) (by decide) (by decide) (by rfl) (by rfl)) je_int) ja_nil (by rfl)) (by rfl)) (by rfl)) (ga_cons (ga_cons (ga_cons ga_nil))) (by decide) (by rfl) (by rfl))) (fun _ => rfl)) ja_nil (by rfl)) (by decide) (by decide) (by rfl) (by rfl)) (fun _ => rfl)))))) (js_one (js_ret je_bl)) js_nil) (js_one (js_ret (je_cmp (oj_eq hr.units) (je_callB cj_sort2 (by rfl) z_sorted (by decide +kernel) (ja_cons (je_var 1 rfl (Or.inl rfl) (by decide) (by decide)) ja_nil (by rfl)) (by decide) (by decide) (by rfl) (by rfl)) (je_lr rfl (by rfl) z_list (jrg_1 (by rfl) z_range (je_callB cj_len (by rfl) z_len (by decide +kernel) (ja_cons (je_var 0 rfl (Or.inr (Or.inl rfl)) (by decide) (by decide)) ja_nil (by rfl)) (by decide) (by decide) (by rfl) (by rfl)) (by rfl)) (by rfl)) (nomark _)))))

abbrev s_same_meaning : Stmt := topS 37
theorem sc_same_meaning : FnScope ["row", "order", "works", "other", "place"] ["row", "order"] (defScope s_same_meaning) := ⟨rfl, rfl, rfl, by decide +kernel, rfl, by decide +kernel, by decide +kernel⟩
def G_same_meaning : SDen := (sSeq (sMulti [2, 3] (aCons (eFn F_works_of (aCons (eVar 0) aNil)) (aCons (eFn F_moved (aCons (eVar 0) (aCons (eVar 1) aNil))) aNil))) (sRet (eAnd (eBin dEq (eFn F_faults (aCons (eVar 3) aNil)) (eLst aNil)) (eBin dEq (eFn F_works_of (aCons (eVar 3) aNil)) (eMethR "str" dJoin (eC (.str [])) (aCons (eComp (eIter (eVar 1)) [4] (gN 4) ttYes (eBin dIx (eVar 2) (eVar 4))) aNil))))))
def F_same_meaning : FDen := runF 2 5 G_same_meaning
theorem w_same_meaning {a0 a1 : D} {ce : Cells} {Q : D → Cells → Prop} {E : Str → Cells → Prop} (h : WS ((sSeq (sMulti [2, 3] (aCons (eFn F_works_of (aCons (eVar 0) aNil)) (aCons (eFn F_moved (aCons (eVar 0) (aCons (eVar 1) aNil))) aNil))) (sRet (eAnd (eBin dEq (eFn F_faults (aCons (eVar 3) aNil)) (eLst aNil)) (eBin dEq (eFn F_works_of (aCons (eVar 3) aNil)) (eMethR "str" dJoin (eC (.str [])) (aCons (eComp (eIter (eVar 1)) [4] (gN 4) ttYes (eBin dIx (eVar 2) (eVar 4))) aNil)))))) [some a0, some a1, none, none, none] ce) (fun _ ce1 => WFin ce.length .non ce1 Q) (fun d ce1 => WFin ce.length d ce1 Q) (fun _ _ => False) (fun _ _ => False) fun x _ ce1 => E x (ce1.take ce.length)) : WE (F_same_meaning [a0, a1] ce) Q E := run_ws rfl h
theorem cal_same_meaning {P : Program} {w : World} {K : PySem.W.Frag} {mg : Str → Option Value} {base : Heap} {f : Addr} {fd : FuncData} (F : Fun K "same_meaning" "same_meaning" s_same_meaning f fd) (hm : mg "same_meaning" = some (.ref f)) (c_moved : Cal P w K mg base 1 "moved" 2 F_moved) (c_works_of : Cal P w K mg base 1 "works_of" 1 F_works_of) (c_faults : Cal P w K mg base 2 "faults" 1 F_faults) : Cal P w K mg base 3 "same_meaning" 2 F_same_meaning := by
  refine cal_mk (g := G_same_meaning) (ps := ["row", "order"]) (N := ["row", "order", "works", "other", "place"]) F hm sc_same_meaning (fun _ _ _ _ _ _ us hl => match us, hl with | [_, _], _ => rfl) fun cdv A outer s H E hr => ?_
  exact (js_cons (js_multi rfl (ja_cons (je_cal (L2N.takes_of rfl rfl rfl rfl) c_works_of rfl (hr.mono (by omega)) (by rfl) (ja_cons (je_var 0 rfl (Or.inl rfl) (by decide) (by decide)) ja_nil (by rfl)) (ga_cons ga_nil) (by decide) (by rfl) (by rfl)) (ja_cons (je_cal (L2N.takes_of rfl rfl rfl rfl) c_moved rfl (hr.mono (by omega)) (by rfl) (ja_cons (je_var 0 rfl (Or.inl rfl) (by decide) (by decide)) (ja_cons (je_var 1 rfl (Or.inl rfl) (by decide) (by decide)) ja_nil (by rfl)) (by rfl)) (ga_cons (ga_cons ga_nil)) (by decide) (by rfl) (by rfl)) ja_nil (by rfl)) (by rfl)) (jgs_cons 2 sc_same_meaning.nd rfl (Or.inr rfl) (Or.inl rfl) (jgs_cons 3 sc_same_meaning.nd rfl (Or.inl rfl) (Or.inl rfl) jgs_nil rfl) rfl) rfl (by decide) rfl (by rfl) (by rfl) (by rfl)) (js_one (js_ret (je_and (je_cmp (oj_eq hr.units) (je_cal (L2N.takes_of rfl rfl rfl rfl) c_faults rfl (hr.mono (by omega)) (by rfl) (ja_cons (je_var 3 rfl (Or.inl rfl) (by decide) (by decide)) ja_nil (by rfl)) (ga_cons ga_nil) (by decide) (by rfl) (by rfl)) (je_lst ja_nil) (nomark _)) (je_one (je_cmp (oj_eq hr.units) (je_cal (L2N.takes_of rfl rfl rfl rfl) c_works_of rfl (hr.mono (by omega)) (by rfl) (ja_cons (je_var 3 rfl (Or.inl rfl) (by decide) (by decide)) ja_nil (by rfl)) (ga_cons ga_nil) (by decide) (by rfl) (by rfl)) (je_methR PySem.F.plainAttrs_str PySem.F.slot_str_join PySem.F.type_str_join mj_join (je_str [] (by decide +kernel) (by decide +kernel)) (ja_cons (je_comp rfl sc_same_meaning.nd (ji_val (je_var 1 rfl (Or.inl rfl) (by decide) (by decide))) (blkOk_by (own := [("place", 4)]) (N := ["row", "order", "works", "other", "place"]) (sc := defScope s_same_meaning) (by decide +kernel)) rfl (fun _ _ _ _ _ => (jg_name 4 sc_same_meaning.nd rfl (Or.inl rfl) (Or.inr rfl))) (fun _ _ _ _ _ => jts_nil) (fun _ _ _ _ _ => (je_ix ij_ix (je_var 2 rfl (Or.inr (Or.inl rfl)) (by decide) (by decide)) (je_var 4 rfl (Or.inl rfl) (by decide) (by decide)) (fun _ _ => rfl))) (fun _ => rfl)) ja_nil (by rfl)) (by rfl) (by rfl) (by rfl) (by rfl) (by rfl)) (nomark _)))))))

abbrev s_keeps : Stmt := topS 38
theorem sc_keeps : FnScope ["row", "order"] ["row", "order"] (defScope s_keeps) := ⟨rfl, rfl, rfl, by decide +kernel, rfl, by decide +kernel, by decide +kernel⟩
def G_keeps : SDen := (sSeq (sExpr (eFn F_need_right (aCons (eVar 0) aNil))) (sSeq (sIf (tNotD (tOf (eFn F_good_order (aCons (eVar 0) (aCons (eVar 1) aNil))))) sNever sNil) (sRet (eFn F_same_meaning (aCons (eVar 0) (aCons (eVar 1) aNil))))))
def F_keeps : FDen := runF 2 2 G_keeps
theorem w_keeps {a0 a1 : D} {ce : Cells} {Q : D → Cells → Prop} {E : Str → Cells → Prop} (h : WS ((sSeq (sExpr (eFn F_need_right (aCons (eVar 0) aNil))) (sSeq (sIf (tNotD (tOf (eFn F_good_order (aCons (eVar 0) (aCons (eVar 1) aNil))))) sNever sNil) (sRet (eFn F_same_meaning (aCons (eVar 0) (aCons (eVar 1) aNil)))))) [some a0, some a1] ce) (fun _ ce1 => WFin ce.length .non ce1 Q) (fun d ce1 => WFin ce.length d ce1 Q) (fun _ _ => False) (fun _ _ => False) fun x _ ce1 => E x (ce1.take ce.length)) : WE (F_keeps [a0, a1] ce) Q E := run_ws rfl h
theorem cal_keeps {P : Program} {w : World} {K : PySem.W.Frag} {mg : Str → Option Value} {base : Heap} {f : Addr} {fd : FuncData} (F : Fun K "keeps" "keeps" s_keeps f fd) (hm : mg "keeps" = some (.ref f)) (c_need_right : Cal P w K mg base 3 "need_right" 1 F_need_right) (c_good_order : Cal P w K mg base 2 "good_order" 2 F_good_order) (c_same_meaning : Cal P w K mg base 3 "same_meaning" 2 F_same_meaning) : Cal P w K mg base 4 "keeps" 2 F_keeps := by
  refine cal_mk (g := G_keeps) (ps := ["row", "order"]) (N := ["row", "order"]) F hm sc_keeps (fun _ _ _ _ _ _ us hl => match us, hl with | [_, _], _ => rfl) fun cdv A outer s H E hr => ?_
  exact (js_cons (js_expr (je_cal (L2N.takes_of rfl rfl rfl rfl) c_need_right rfl (hr.mono (by omega)) (by rfl) (ja_cons (je_var 0 rfl (Or.inl rfl) (by decide) (by decide)) ja_nil (by rfl)) (ga_cons ga_nil) (by decide) (by rfl) (by rfl)) (by rfl)) (js_cons (js_if (jt_not (jt_val (je_cal (L2N.takes_of rfl rfl rfl rfl) c_good_order rfl (hr.mono (by omega)) (by rfl) (ja_cons (je_var 0 rfl (Or.inl rfl) (by decide) (by decide)) (ja_cons (je_var 1 rfl (Or.inl rfl) (by decide) (by decide)) ja_nil (by rfl)) (by rfl)) (ga_cons (ga_cons ga_nil)) (by decide) (by rfl) (by rfl)) (fun _ => rfl))) (js_one js_never) js_nil) (js_one (js_ret (je_cal (L2N.takes_of rfl rfl rfl rfl) c_same_meaning rfl (hr.mono (by omega)) (by rfl) (ja_cons (je_var 0 rfl (Or.inl rfl) (by decide) (by decide)) (ja_cons (je_var 1 rfl (Or.inl rfl) (by decide) (by decide)) ja_nil (by rfl)) (by rfl)) (ga_cons (ga_cons ga_nil)) (by decide) (by rfl) (by rfl))))))

abbrev s_count_orders : Stmt := topS 39
theorem sc_count_orders : FnScope ["row"] ["row"] (defScope s_count_orders) := ⟨rfl, rfl, rfl, by decide +kernel, rfl, by decide +kernel, by decide +kernel⟩
def G_count_orders : SDen := (sSeq (sExpr (eFn F_need_right (aCons (eVar 0) aNil))) (sRet (eFn F_ways (aCons (eVar 0) (aCons (eFn F_works_of (aCons (eVar 0) aNil)) (aCons (eLR lrTree (rg1 (eCall dLen (aCons (eVar 0) aNil)))) (aCons (eC .non) aNil)))))))
def F_count_orders : FDen := runF 1 1 G_count_orders
theorem w_count_orders {a0 : D} {ce : Cells} {Q : D → Cells → Prop} {E : Str → Cells → Prop} (h : WS ((sSeq (sExpr (eFn F_need_right (aCons (eVar 0) aNil))) (sRet (eFn F_ways (aCons (eVar 0) (aCons (eFn F_works_of (aCons (eVar 0) aNil)) (aCons (eLR lrTree (rg1 (eCall dLen (aCons (eVar 0) aNil)))) (aCons (eC .non) aNil))))))) [some a0] ce) (fun _ ce1 => WFin ce.length .non ce1 Q) (fun d ce1 => WFin ce.length d ce1 Q) (fun _ _ => False) (fun _ _ => False) fun x _ ce1 => E x (ce1.take ce.length)) : WE (F_count_orders [a0] ce) Q E := run_ws rfl h
theorem cal_count_orders {P : Program} {w : World} {K : PySem.W.Frag} {mg : Str → Option Value} {base : Heap} {f : Addr} {fd : FuncData} (F : Fun K "count_orders" "count_orders" s_count_orders f fd) (hm : mg "count_orders" = some (.ref f)) (z_len : mg "len" = none) (z_list : mg "list" = none) (z_range : mg "range" = none) (c_need_right : Cal P w K mg base 3 "need_right" 1 F_need_right) (c_ways : Cal P w K mg base 2 "ways" 4 F_ways) (c_works_of : Cal P w K mg base 1 "works_of" 1 F_works_of) : Cal P w K mg base 4 "count_orders" 1 F_count_orders := by
  refine cal_mk (g := G_count_orders) (ps := ["row"]) (N := ["row"]) F hm sc_count_orders (fun _ _ _ _ _ _ us hl => match us, hl with | [_], _ => rfl) fun cdv A outer s H E hr => ?_
  exact (js_cons (js_expr (je_cal (L2N.takes_of rfl rfl rfl rfl) c_need_right rfl (hr.mono (by omega)) (by rfl) (ja_cons (je_var 0 rfl (Or.inl rfl) (by decide) (by decide)) ja_nil (by rfl)) (ga_cons ga_nil) (by decide) (by rfl) (by rfl)) (by rfl)) (js_one (js_ret (je_cal (L2N.takes_of rfl rfl rfl rfl) c_ways rfl (hr.mono (by omega)) (by rfl) (ja_cons (je_var 0 rfl (Or.inl rfl) (by decide) (by decide)) (ja_cons (je_cal (L2N.takes_of rfl rfl rfl rfl) c_works_of rfl (hr.mono (by omega)) (by rfl) (ja_cons (je_var 0 rfl (Or.inl rfl) (by decide) (by decide)) ja_nil (by rfl)) (ga_cons ga_nil) (by decide) (by rfl) (by rfl)) (ja_cons (je_lr rfl (by rfl) z_list (jrg_1 (by rfl) z_range (je_callB cj_len (by rfl) z_len (by decide +kernel) (ja_cons (je_var 0 rfl (Or.inl rfl) (by decide) (by decide)) ja_nil (by rfl)) (by decide) (by decide) (by rfl) (by rfl)) (by rfl)) (by rfl)) (ja_cons je_non ja_nil (by rfl)) (by rfl)) (by rfl)) (by rfl)) (ga_cons (ga_cons (ga_cons (ga_cons ga_nil)))) (by decide) (by rfl) (by rfl)))))

abbrev s_can_come : Stmt := topS 40
theorem sc_can_come : FnScope ["row", "works", "left", "last", "place", "other"] ["row", "works", "left", "last", "place"] (defScope s_can_come) := ⟨rfl, rfl, rfl, by decide +kernel, rfl, by decide +kernel, by decide +kernel⟩
def G_can_come : SDen := (sSeq (sIf (tOf (eBin dEq (eBin dIx (eVar 0) (eVar 4)) (eC (.str [45])))) (sRet (eAnd (eBin dIsNot (eVar 3) (eC .non)) (eBin dEq (eBin dIx (eVar 1) (eVar 3)) (eBin dIx (eVar 1) (eVar 4))))) sNil) (sSeq (sIf (tOf (eMeth0 "str" dIsUpper (eBin dIx (eVar 0) (eVar 4)))) (sRet (eC (.bl true))) sNil) (sRet (eBin dIn (eMeth0 "str" dUpper (eBin dIx (eVar 0) (eVar 4))) (eComp (eSrc srcRange1 (aCons (eCall dLen (aCons (eVar 0) aNil)) aNil)) [5] (gN 5) (tOf (eBin dNotIn (eVar 5) (eVar 2))) (eBin dIx (eVar 0) (eVar 5)))))))
def F_can_come : FDen := runF 5 6 G_can_come
theorem w_can_come {a0 a1 a2 a3 a4 : D} {ce : Cells} {Q : D → Cells → Prop} {E : Str → Cells → Prop} (h : WS ((sSeq (sIf (tOf (eBin dEq (eBin dIx (eVar 0) (eVar 4)) (eC (.str [45])))) (sRet (eAnd (eBin dIsNot (eVar 3) (eC .non)) (eBin dEq (eBin dIx (eVar 1) (eVar 3)) (eBin dIx (eVar 1) (eVar 4))))) sNil) (sSeq (sIf (tOf (eMeth0 "str" dIsUpper (eBin dIx (eVar 0) (eVar 4)))) (sRet (eC (.bl true))) sNil) (sRet (eBin dIn (eMeth0 "str" dUpper (eBin dIx (eVar 0) (eVar 4))) (eComp (eSrc srcRange1 (aCons (eCall dLen (aCons (eVar 0) aNil)) aNil)) [5] (gN 5) (tOf (eBin dNotIn (eVar 5) (eVar 2))) (eBin dIx (eVar 0) (eVar 5))))))) [some a0, some a1, some a2, some a3, some a4, none] ce) (fun _ ce1 => WFin ce.length .non ce1 Q) (fun d ce1 => WFin ce.length d ce1 Q) (fun _ _ => False) (fun _ _ => False) fun x _ ce1 => E x (ce1.take ce.length)) : WE (F_can_come [a0, a1, a2, a3, a4] ce) Q E := run_ws rfl h
theorem cal_can_come {P : Program} {w : World} {K : PySem.W.Frag} {mg : Str → Option Value} {base : Heap} {f : Addr} {fd : FuncData} (F : Fun K "can_come" "can_come" s_can_come f fd) (hm : mg "can_come" = some (.ref f)) (z_len : mg "len" = none) (z_range : mg "range" = none) : Cal P w K mg base 1 "can_come" 5 F_can_come := by
  refine cal_mk (g := G_can_come) (ps := ["row", "works", "left", "last", "place"]) (N := ["row", "works", "left", "last", "place", "other"]) F hm sc_can_come (fun _ _ _ _ _ _ us hl => match us, hl with | [_, _, _, _, _], _ => rfl) fun cdv A outer s H E hr => ?_
  exact (js_cons (js_if (jt_cmp (oj_eq hr.units) (je_ix ij_ix (je_var 0 rfl (Or.inr (Or.inl rfl)) (by decide) (by decide)) (je_var 4 rfl (Or.inl rfl) (by decide) (by decide)) (fun _ _ => rfl)) (je_str [45] (by decide +kernel) (by decide +kernel)) (nomark _)) (js_one (js_ret (je_and (je_cmp oj_isnot (je_var 3 rfl (Or.inl rfl) (by decide) (by decide)) je_non (nomark _)) (je_one (je_cmp (oj_eq hr.units) (je_ix ij_ix (je_var 1 rfl (Or.inl rfl) (by decide) (by decide)) (je_var 3 rfl (Or.inl rfl) (by decide) (by decide)) (fun _ _ => rfl)) (je_ix ij_ix (je_var 1 rfl (Or.inl rfl) (by decide) (by decide)) (je_var 4 rfl (Or.inl rfl) (by decide) (by decide)) (fun _ _ => rfl)) (nomark _)))))) js_nil) (js_cons (js_if (jt_val (je_meth0 PySem.F.plainAttrs_str PySem.F.slot_str_isupper PySem.F.type_str_isupper mj_isupper (je_ix ij_ix (je_var 0 rfl (Or.inr (Or.inl rfl)) (by decide) (by decide)) (je_var 4 rfl (Or.inl rfl) (by decide) (by decide)) (fun _ _ => rfl)) (by rfl) (by rfl)) (fun _ => rfl)) (js_one (js_ret je_bl)) js_nil) (js_one (js_ret (je_cmp oj_in (je_meth0 PySem.F.plainAttrs_str PySem.F.slot_str_upper PySem.F.type_str_upper mj_upper (je_ix ij_ix (je_var 0 rfl (Or.inr (Or.inl rfl)) (by decide) (by decide)) (je_var 4 rfl (Or.inl rfl) (by decide) (by decide)) (fun _ _ => rfl)) (by rfl) (by rfl)) (je_comp rfl sc_can_come.nd (ji_range1 (by rfl) z_range (ja_cons (je_callB cj_len (by rfl) z_len (by decide +kernel) (ja_cons (je_var 0 rfl (Or.inr (Or.inl rfl)) (by decide) (by decide)) ja_nil (by rfl)) (by decide) (by decide) (by rfl) (by rfl)) ja_nil (by rfl)) (by rfl)) (blkOk_by (own := [("other", 5)]) (N := ["row", "works", "left", "last", "place", "other"]) (sc := defScope s_can_come) (by decide +kernel)) rfl (fun _ _ _ _ _ => (jg_name 5 sc_can_come.nd rfl (Or.inl rfl) (Or.inr rfl))) (fun _ _ _ _ _ => (jts_one (jt_cmp oj_notin (je_var 5 rfl (Or.inl rfl) (by decide) (by decide)) (je_var 2 rfl (Or.inr (Or.inl rfl)) (by decide) (by decide)) (by rfl)))) (fun _ _ _ _ _ => (je_ix ij_ix (je_var 0 rfl (Or.inr (Or.inl rfl)) (by decide) (by decide)) (je_var 5 rfl (Or.inl rfl) (by decide) (by decide)) (fun _ _ => rfl))) (fun _ => rfl)) (by rfl))))))

abbrev s_order_at : Stmt := topS 41
theorem sc_order_at : FnScope ["row", "number", "works", "left", "found", "last", "place", "rest", "many", "other"] ["row", "number"] (defScope s_order_at) := ⟨rfl, rfl, rfl, by decide +kernel, rfl, by decide +kernel, by decide +kernel⟩
def G_order_at : SDen := (sSeq (sExpr (eFn F_need_right (aCons (eVar 0) aNil))) (sSeq (sMulti [2, 3, 4, 5] (aCons (eFn F_works_of (aCons (eVar 0) aNil)) (aCons (eLR lrTree (rg1 (eCall dLen (aCons (eVar 0) aNil)))) (aCons (eLstC aNil) (aCons (eC .non) aNil))))) (sSeq (sIf (tNotD (tOf (eFn F_is_from (aCons (eVar 1) (aCons (eC (.int 0)) (aCons (eBin dSub (eFn F_ways (aCons (eVar 0) (aCons (eVar 2) (aCons (eVar 3) (aCons (eC .non) aNil))))) (eC (.int 1))) aNil)))))) sNever sNil) (sSeq (sWhile 200 (tOf (eBin dNe (eVar 3) (eLst aNil))) (sFor (eIter (eVar 3)) (gN 6) (sSeq (sSet 7 (eComp (eIter (eVar 3)) [9] (gN 9) (tOf (eBin dNe (eVar 9) (eVar 6))) (eVar 9))) (sSeq (sSet 8 (eIf (tOf (eFn F_can_come (aCons (eVar 0) (aCons (eVar 2) (aCons (eVar 3) (aCons (eVar 5) (aCons (eVar 6) aNil))))))) (eFn F_ways (aCons (eVar 0) (aCons (eVar 2) (aCons (eVar 7) (aCons (eVar 6) aNil))))) (eC (.int 0)))) (sSeq (sIf (tOf (eBin dLt (eVar 1) (eVar 8))) (sSeq (sExpr (eAppend (eVar 4) (aCons (eVar 6) aNil))) (sSeq (sMulti [3, 5] (aCons (eVar 7) (aCons (eVar 6) aNil))) sBreak)) sNil) (sAug 1 dSub (eVar 8))))))) (sRet (eCall dTuple (aCons (eVar 4) aNil)))))))
def F_order_at : FDen := runF 2 10 G_order_at
theorem w_order_at {a0 a1 : D} {ce : Cells} {Q : D → Cells → Prop} {E : Str → Cells → Prop} (h : WS ((sSeq (sExpr (eFn F_need_right (aCons (eVar 0) aNil))) (sSeq (sMulti [2, 3, 4, 5] (aCons (eFn F_works_of (aCons (eVar 0) aNil)) (aCons (eLR lrTree (rg1 (eCall dLen (aCons (eVar 0) aNil)))) (aCons (eLstC aNil) (aCons (eC .non) aNil))))) (sSeq (sIf (tNotD (tOf (eFn F_is_from (aCons (eVar 1) (aCons (eC (.int 0)) (aCons (eBin dSub (eFn F_ways (aCons (eVar 0) (aCons (eVar 2) (aCons (eVar 3) (aCons (eC .non) aNil))))) (eC (.int 1))) aNil)))))) sNever sNil) (sSeq (sWhile 200 (tOf (eBin dNe (eVar 3) (eLst aNil))) (sFor (eIter (eVar 3)) (gN 6) (sSeq (sSet 7 (eComp (eIter (eVar 3)) [9] (gN 9) (tOf (eBin dNe (eVar 9) (eVar 6))) (eVar 9))) (sSeq (sSet 8 (eIf (tOf (eFn F_can_come (aCons (eVar 0) (aCons (eVar 2) (aCons (eVar 3) (aCons (eVar 5) (aCons (eVar 6) aNil))))))) (eFn F_ways (aCons (eVar 0) (aCons (eVar 2) (aCons (eVar 7) (aCons (eVar 6) aNil))))) (eC (.int 0)))) (sSeq (sIf (tOf (eBin dLt (eVar 1) (eVar 8))) (sSeq (sExpr (eAppend (eVar 4) (aCons (eVar 6) aNil))) (sSeq (sMulti [3, 5] (aCons (eVar 7) (aCons (eVar 6) aNil))) sBreak)) sNil) (sAug 1 dSub (eVar 8))))))) (sRet (eCall dTuple (aCons (eVar 4) aNil))))))) [some a0, some a1, none, none, none, none, none, none, none, none] ce) (fun _ ce1 => WFin ce.length .non ce1 Q) (fun d ce1 => WFin ce.length d ce1 Q) (fun _ _ => False) (fun _ _ => False) fun x _ ce1 => E x (ce1.take ce.length)) : WE (F_order_at [a0, a1] ce) Q E := run_ws rfl h
theorem cal_order_at {P : Program} {w : World} {K : PySem.W.Frag} {mg : Str → Option Value} {base : Heap} {f : Addr} {fd : FuncData} (F : Fun K "order_at" "order_at" s_order_at f fd) (hm : mg "order_at" = some (.ref f)) (z_len : mg "len" = none) (z_list : mg "list" = none) (z_range : mg "range" = none) (z_tuple : mg "tuple" = none) (c_need_right : Cal P w K mg base 3 "need_right" 1 F_need_right) (c_works_of : Cal P w K mg base 1 "works_of" 1 F_works_of) (c_is_from : Cal P w K mg base 1 "is_from" 3 F_is_from) (c_ways : Cal P w K mg base 2 "ways" 4 F_ways) (c_can_come : Cal P w K mg base 1 "can_come" 5 F_can_come) : Cal P w K mg base 4 "order_at" 2 F_order_at := by
  refine cal_mk (g := G_order_at) (ps := ["row", "number"]) (N := ["row", "number", "works", "left", "found", "last", "place", "rest", "many", "other"]) F hm sc_order_at (fun _ _ _ _ _ _ us hl => match us, hl with | [_, _], _ => rfl) fun cdv A outer s H E hr => ?_
  exact (js_cons (js_expr (je_cal (L2N.takes_of rfl rfl rfl rfl) c_need_right rfl (hr.mono (by omega)) (by rfl) (ja_cons (je_var 0 rfl (Or.inl rfl) (by decide) (by decide)) ja_nil (by rfl)) (ga_cons ga_nil) (by decide) (by rfl) (by rfl)) (by rfl)) (js_cons (js_multi rfl (ja_cons (je_cal (L2N.takes_of rfl rfl rfl rfl) c_works_of rfl (hr.mono (by omega)) (by rfl) (ja_cons (je_var 0 rfl (Or.inl rfl) (by decide) (by decide)) ja_nil (by rfl)) (ga_cons ga_nil) (by decide) (by rfl) (by rfl)) (ja_cons (je_lr rfl (by rfl) z_list (jrg_1 (by rfl) z_range (je_callB cj_len (by rfl) z_len (by decide +kernel) (ja_cons (je_var 0 rfl (Or.inl rfl) (by decide) (by decide)) ja_nil (by rfl)) (by decide) (by decide) (by rfl) (by rfl)) (by rfl)) (by rfl)) (ja_cons (je_lstC ja_nil) (ja_cons je_non ja_nil (by rfl)) (by rfl)) (by rfl)) (by rfl)) (jgs_cons 2 sc_order_at.nd rfl (Or.inl rfl) (Or.inl rfl) (jgs_cons 3 sc_order_at.nd rfl (Or.inl rfl) (Or.inl rfl) (jgs_cons 4 sc_order_at.nd rfl (Or.inl rfl) (Or.inl rfl) (jgs_cons 5 sc_order_at.nd rfl (Or.inl rfl) (Or.inl rfl) jgs_nil rfl) rfl) rfl) rfl) rfl (by decide) rfl (by rfl) (by rfl) (by rfl)) (js_cons (js_if (jt_not (jt_val (je_cal (L2N.takes_of rfl rfl rfl rfl) c_is_from rfl (hr.mono (by omega)) (by rfl) (ja_cons (je_var 1 rfl (Or.inl rfl) (by decide) (by decide)) (ja_cons je_int (ja_cons (je_bin oj_sub (je_cal (L2N.takes_of rfl rfl rfl rfl) c_ways rfl (hr.mono (by omega)) (by rfl) (ja_cons (je_var 0 rfl (Or.inl rfl) (by decide) (by decide)) (ja_cons (je_var 2 rfl (Or.inl rfl) (by decide) (by decide)) (ja_cons (je_var 3 rfl (Or.inl rfl) (by decide) (by decide)) (ja_cons je_non ja_nil (by rfl)) (by rfl)) (by rfl)) (by rfl)) (ga_cons (ga_cons (ga_cons (ga_cons ga_nil)))) (by decide) (by rfl) (by rfl)) je_int) ja_nil (by rfl)) (by rfl)) (by rfl)) (ga_cons (ga_cons (ga_cons ga_nil))) (by decide) (by rfl) (by rfl)) (fun _ => rfl))) (js_one js_never) js_nil) (js_cons (js_while 200 (passes_of rfl) (jt_cmp (oj_ne hr.units) (je_var 3 rfl (Or.inl rfl) (by decide) (by decide)) (je_lst ja_nil) (nomark _)) (js_one (js_for (passes_of rfl) rfl (ji_val (je_var 3 rfl (Or.inl rfl) (by decide) (by decide))) (jg_name 6 sc_order_at.nd rfl (Or.inr rfl) (Or.inl rfl)) (js_cons (js_setComp 7 rfl sc_order_at.nd rfl rfl (sw_true rfl rfl rfl (by decide +kernel)) (ji_val (je_var 3 rfl (Or.inl rfl) (by decide) (by decide))) (blkOk_by (own := [("other", 9)]) (N := ["row", "number", "works", "left", "found", "last", "place", "rest", "many", "other"]) (sc := defScope s_order_at) (by decide +kernel)) rfl (fun _ _ _ _ _ => (jg_name 9 sc_order_at.nd rfl (Or.inl rfl) (Or.inr rfl))) (fun _ _ _ _ _ => (jts_one (jt_cmp (oj_ne hr.units) (je_var 9 rfl (Or.inl rfl) (by decide) (by decide)) (je_var 6 rfl (Or.inr (Or.inl rfl)) (by decide) (by decide)) (nomark _)))) (fun _ _ _ _ _ => (je_var 9 rfl (Or.inl rfl) (by decide) (by decide))) (fun _ => rfl)) (js_cons (js_set 8 sc_order_at.nd rfl (Or.inl rfl) (je_if (jt_val (je_cal (L2N.takes_of rfl rfl rfl rfl) c_can_come rfl (hr.mono (by omega)) (by rfl) (ja_cons (je_var 0 rfl (Or.inl rfl) (by decide) (by decide)) (ja_cons (je_var 2 rfl (Or.inl rfl) (by decide) (by decide)) (ja_cons (je_var 3 rfl (Or.inl rfl) (by decide) (by decide)) (ja_cons (je_var 5 rfl (Or.inl rfl) (by decide) (by decide)) (ja_cons (je_var 6 rfl (Or.inr (Or.inl rfl)) (by decide) (by decide)) ja_nil (by rfl)) (by rfl)) (by rfl)) (by rfl)) (by rfl)) (ga_cons (ga_cons (ga_cons (ga_cons (ga_cons ga_nil))))) (by decide) (by rfl) (by rfl)) (fun _ => rfl)) (je_cal (L2N.takes_of rfl rfl rfl rfl) c_ways rfl (hr.mono (by omega)) (by rfl) (ja_cons (je_var 0 rfl (Or.inl rfl) (by decide) (by decide)) (ja_cons (je_var 2 rfl (Or.inl rfl) (by decide) (by decide)) (ja_cons (je_var 7 rfl (Or.inl rfl) (by decide) (by decide)) (ja_cons (je_var 6 rfl (Or.inr (Or.inl rfl)) (by decide) (by decide)) ja_nil (by rfl)) (by rfl)) (by rfl)) (by rfl)) (ga_cons (ga_cons (ga_cons (ga_cons ga_nil)))) (by decide) (by rfl) (by rfl)) je_int) (by rfl) (Or.inl rfl)) (js_cons (js_if (jt_cmp oj_lt (je_var 1 rfl (Or.inl rfl) (by decide) (by decide)) (je_var 8 rfl (Or.inl rfl) (by decide) (by decide)) (nomark _)) (js_cons (js_expr (je_append (je_var 4 rfl (Or.inl rfl) (by decide) (by decide)) (ja_cons (je_var 6 rfl (Or.inr (Or.inl rfl)) (by decide) (by decide)) ja_nil (by rfl)) (by rfl) (by rfl) (by rfl) (by rfl) (by rfl)) (by rfl)) (js_cons (js_par2 (i := 3) (j := 5) rfl sc_order_at.nd rfl rfl (by decide) rfl rfl (ja_cons (je_var 7 rfl (Or.inl rfl) (by decide) (by decide)) (ja_cons (je_var 6 rfl (Or.inr (Or.inl rfl)) (by decide) (by decide)) ja_nil (by rfl)) (by rfl)) (by rfl) (by rfl)) (js_one js_break))) js_nil) (js_one (js_aug 1 sc_order_at.nd rfl (Or.inl rfl) (je_var 8 rfl (Or.inl rfl) (by decide) (by decide)) oj_isub (Or.inl rfl)))))) (fun _ => rfl)))) (js_one (js_ret (je_callTy cj_tuple (by rfl) z_tuple (by decide +kernel) (ja_cons (je_var 4 rfl (Or.inl rfl) (by decide) (by decide)) ja_nil (by rfl)) (by decide) (by decide) (by rfl) (by rfl))))))))

abbrev s_number_of : Stmt := topS 42
theorem sc_number_of : FnScope ["row", "order", "own", "works", "left", "found", "last", "place", "other"] ["row", "order"] (defScope s_number_of) := ⟨rfl, rfl, rfl, by decide +kernel, rfl, by decide +kernel, by decide +kernel⟩
def G_number_of : SDen := (sSeq (sExpr (eFn F_need_right (aCons (eVar 0) aNil))) (sSeq (sIf (tOrD (tNotD (tOf (eFn F_good_order (aCons (eVar 0) (aCons (eVar 1) aNil))))) (tNotD (tOf (eFn F_same_meaning (aCons (eVar 0) (aCons (eVar 1) aNil)))))) sNever sNil) (sSeq (sMulti [3, 4, 5, 6] (aCons (eFn F_works_of (aCons (eVar 0) aNil)) (aCons (eLR lrTree (rg1 (eCall dLen (aCons (eVar 0) aNil)))) (aCons (eC (.int 0)) (aCons (eC .non) aNil))))) (sSeq (sFor (eIter (eVar 1)) (gN 2) (sSeq (sFor (eIter (eVar 4)) (gN 7) (sIf (tAndD (tOf (eBin dLt (eVar 7) (eVar 2))) (tOf (eFn F_can_come (aCons (eVar 0) (aCons (eVar 3) (aCons (eVar 4) (aCons (eVar 6) (aCons (eVar 7) aNil)))))))) (sAug 5 dIadd (eFn F_ways (aCons (eVar 0) (aCons (eVar 3) (aCons (eComp (eIter (eVar 4)) [8] (gN 8) (tOf (eBin dNe (eVar 8) (eVar 7))) (eVar 8)) (aCons (eVar 7) aNil)))))) sNil)) (sMulti [4, 6] (aCons (eComp (eIter (eVar 4)) [8] (gN 8) (tOf (eBin dNe (eVar 8) (eVar 2))) (eVar 8)) (aCons (eVar 2) aNil))))) (sRet (eVar 5))))))
def F_number_of : FDen := runF 2 9 G_number_of
theorem w_number_of {a0 a1 : D} {ce : Cells} {Q : D → Cells → Prop} {E : Str → Cells → Prop} (h : WS ((sSeq (sExpr (eFn F_need_right (aCons (eVar 0) aNil))) (sSeq (sIf (tOrD (tNotD (tOf (eFn F_good_order (aCons (eVar 0) (aCons (eVar 1) aNil))))) (tNotD (tOf (eFn F_same_meaning (aCons (eVar 0) (aCons (eVar 1) aNil)))))) sNever sNil) (sSeq (sMulti [3, 4, 5, 6] (aCons (eFn F_works_of (aCons (eVar 0) aNil)) (aCons (eLR lrTree (rg1 (eCall dLen (aCons (eVar 0) aNil)))) (aCons (eC (.int 0)) (aCons (eC .non) aNil))))) (sSeq (sFor (eIter (eVar 1)) (gN 2) (sSeq (sFor (eIter (eVar 4)) (gN 7) (sIf (tAndD (tOf (eBin dLt (eVar 7) (eVar 2))) (tOf (eFn F_can_come (aCons (eVar 0) (aCons (eVar 3) (aCons (eVar 4) (aCons (eVar 6) (aCons (eVar 7) aNil)))))))) (sAug 5 dIadd (eFn F_ways (aCons (eVar 0) (aCons (eVar 3) (aCons (eComp (eIter (eVar 4)) [8] (gN 8) (tOf (eBin dNe (eVar 8) (eVar 7))) (eVar 8)) (aCons (eVar 7) aNil)))))) sNil)) (sMulti [4, 6] (aCons (eComp (eIter (eVar 4)) [8] (gN 8) (tOf (eBin dNe (eVar 8) (eVar 2))) (eVar 8)) (aCons (eVar 2) aNil))))) (sRet (eVar 5)))))) [some a0, some a1, none, none, none, none, none, none, none] ce) (fun _ ce1 => WFin ce.length .non ce1 Q) (fun d ce1 => WFin ce.length d ce1 Q) (fun _ _ => False) (fun _ _ => False) fun x _ ce1 => E x (ce1.take ce.length)) : WE (F_number_of [a0, a1] ce) Q E := run_ws rfl h
theorem cal_number_of {P : Program} {w : World} {K : PySem.W.Frag} {mg : Str → Option Value} {base : Heap} {f : Addr} {fd : FuncData} (F : Fun K "number_of" "number_of" s_number_of f fd) (hm : mg "number_of" = some (.ref f)) (z_len : mg "len" = none) (z_list : mg "list" = none) (z_range : mg "range" = none) (c_need_right : Cal P w K mg base 3 "need_right" 1 F_need_right) (c_good_order : Cal P w K mg base 2 "good_order" 2 F_good_order) (c_same_meaning : Cal P w K mg base 3 "same_meaning" 2 F_same_meaning) (c_works_of : Cal P w K mg base 1 "works_of" 1 F_works_of) (c_can_come : Cal P w K mg base 1 "can_come" 5 F_can_come) (c_ways : Cal P w K mg base 2 "ways" 4 F_ways) : Cal P w K mg base 4 "number_of" 2 F_number_of := by
  refine cal_mk (g := G_number_of) (ps := ["row", "order"]) (N := ["row", "order", "own", "works", "left", "found", "last", "place", "other"]) F hm sc_number_of (fun _ _ _ _ _ _ us hl => match us, hl with | [_, _], _ => rfl) fun cdv A outer s H E hr => ?_
  exact (js_cons (js_expr (je_cal (L2N.takes_of rfl rfl rfl rfl) c_need_right rfl (hr.mono (by omega)) (by rfl) (ja_cons (je_var 0 rfl (Or.inl rfl) (by decide) (by decide)) ja_nil (by rfl)) (ga_cons ga_nil) (by decide) (by rfl) (by rfl)) (by rfl)) (js_cons (js_if (jw_pt (jw_or (jt_not (jt_val (je_cal (L2N.takes_of rfl rfl rfl rfl) c_good_order rfl (hr.mono (by omega)) (by rfl) (ja_cons (je_var 0 rfl (Or.inl rfl) (by decide) (by decide)) (ja_cons (je_var 1 rfl (Or.inl rfl) (by decide) (by decide)) ja_nil (by rfl)) (by rfl)) (ga_cons (ga_cons ga_nil)) (by decide) (by rfl) (by rfl)) (fun _ => rfl))) (jw_or1 (jt_not (jt_val (je_cal (L2N.takes_of rfl rfl rfl rfl) c_same_meaning rfl (hr.mono (by omega)) (by rfl) (ja_cons (je_var 0 rfl (Or.inl rfl) (by decide) (by decide)) (ja_cons (je_var 1 rfl (Or.inl rfl) (by decide) (by decide)) ja_nil (by rfl)) (by rfl)) (ga_cons (ga_cons ga_nil)) (by decide) (by rfl) (by rfl)) (fun _ => rfl)))))) (js_one js_never) js_nil) (js_cons (js_multi rfl (ja_cons (je_cal (L2N.takes_of rfl rfl rfl rfl) c_works_of rfl (hr.mono (by omega)) (by rfl) (ja_cons (je_var 0 rfl (Or.inl rfl) (by decide) (by decide)) ja_nil (by rfl)) (ga_cons ga_nil) (by decide) (by rfl) (by rfl)) (ja_cons (je_lr rfl (by rfl) z_list (jrg_1 (by rfl) z_range (je_callB cj_len (by rfl) z_len (by decide +kernel) (ja_cons (je_var 0 rfl (Or.inl rfl) (by decide) (by decide)) ja_nil (by rfl)) (by decide) (by decide) (by rfl) (by rfl)) (by rfl)) (by rfl)) (ja_cons je_int (ja_cons je_non ja_nil (by rfl)) (by rfl)) (by rfl)) (by rfl)) (jgs_cons 3 sc_number_of.nd rfl (Or.inl rfl) (Or.inl rfl) (jgs_cons 4 sc_number_of.nd rfl (Or.inl rfl) (Or.inl rfl) (jgs_cons 5 sc_number_of.nd rfl (Or.inl rfl) (Or.inl rfl) (jgs_cons 6 sc_number_of.nd rfl (Or.inl rfl) (Or.inl rfl) jgs_nil rfl) rfl) rfl) rfl) rfl (by decide) rfl (by rfl) (by rfl) (by rfl)) (js_cons (js_for (passes_of rfl) rfl (ji_val (je_var 1 rfl (Or.inl rfl) (by decide) (by decide))) (jg_name 2 sc_number_of.nd rfl (Or.inr rfl) (Or.inl rfl)) (js_cons (js_for (passes_of rfl) rfl (ji_val (je_var 4 rfl (Or.inl rfl) (by decide) (by decide))) (jg_name 7 sc_number_of.nd rfl (Or.inr rfl) (Or.inl rfl)) (js_one (js_if (jw_pt (jw_and (jt_cmp oj_lt (je_var 7 rfl (Or.inr (Or.inl rfl)) (by decide) (by decide)) (je_var 2 rfl (Or.inr (Or.inl rfl)) (by decide) (by decide)) (nomark _)) (jw_and1 (jt_val (je_cal (L2N.takes_of rfl rfl rfl rfl) c_can_come rfl (hr.mono (by omega)) (by rfl) (ja_cons (je_var 0 rfl (Or.inl rfl) (by decide) (by decide)) (ja_cons (je_var 3 rfl (Or.inl rfl) (by decide) (by decide)) (ja_cons (je_var 4 rfl (Or.inl rfl) (by decide) (by decide)) (ja_cons (je_var 6 rfl (Or.inl rfl) (by decide) (by decide)) (ja_cons (je_var 7 rfl (Or.inr (Or.inl rfl)) (by decide) (by decide)) ja_nil (by rfl)) (by rfl)) (by rfl)) (by rfl)) (by rfl)) (ga_cons (ga_cons (ga_cons (ga_cons (ga_cons ga_nil))))) (by decide) (by rfl) (by rfl)) (fun _ => rfl))))) (js_one (js_aug 5 sc_number_of.nd rfl (Or.inl rfl) (je_cal (L2N.takes_of rfl rfl rfl rfl) c_ways rfl (hr.mono (by omega)) (by rfl) (ja_cons (je_var 0 rfl (Or.inl rfl) (by decide) (by decide)) (ja_cons (je_var 3 rfl (Or.inl rfl) (by decide) (by decide)) (ja_cons (je_comp rfl sc_number_of.nd (ji_val (je_var 4 rfl (Or.inl rfl) (by decide) (by decide))) (blkOk_by (own := [("other", 8)]) (N := ["row", "order", "own", "works", "left", "found", "last", "place", "other"]) (sc := defScope s_number_of) (by decide +kernel)) rfl (fun _ _ _ _ _ => (jg_name 8 sc_number_of.nd rfl (Or.inl rfl) (Or.inr rfl))) (fun _ _ _ _ _ => (jts_one (jt_cmp (oj_ne hr.units) (je_var 8 rfl (Or.inl rfl) (by decide) (by decide)) (je_var 7 rfl (Or.inr (Or.inl rfl)) (by decide) (by decide)) (nomark _)))) (fun _ _ _ _ _ => (je_var 8 rfl (Or.inl rfl) (by decide) (by decide))) (fun _ => rfl)) (ja_cons (je_var 7 rfl (Or.inr (Or.inl rfl)) (by decide) (by decide)) ja_nil (by rfl)) (by rfl)) (by rfl)) (by rfl)) (ga_cons (ga_cons (ga_cons (ga_cons ga_nil)))) (by decide) (by rfl) (by rfl)) oj_iadd (Or.inl rfl))) js_nil)) (fun _ => rfl)) (js_one (js_par2 (i := 4) (j := 6) rfl sc_number_of.nd rfl rfl (by decide) rfl rfl (ja_cons (je_comp rfl sc_number_of.nd (ji_val (je_var 4 rfl (Or.inl rfl) (by decide) (by decide))) (blkOk_by (own := [("other", 8)]) (N := ["row", "order", "own", "works", "left", "found", "last", "place", "other"]) (sc := defScope s_number_of) (by decide +kernel)) rfl (fun _ _ _ _ _ => (jg_name 8 sc_number_of.nd rfl (Or.inl rfl) (Or.inr rfl))) (fun _ _ _ _ _ => (jts_one (jt_cmp (oj_ne hr.units) (je_var 8 rfl (Or.inl rfl) (by decide) (by decide)) (je_var 2 rfl (Or.inr (Or.inl rfl)) (by decide) (by decide)) (nomark _)))) (fun _ _ _ _ _ => (je_var 8 rfl (Or.inl rfl) (by decide) (by decide))) (fun _ => rfl)) (ja_cons (je_var 2 rfl (Or.inr (Or.inl rfl)) (by decide) (by decide)) ja_nil (by rfl)) (by rfl)) (by rfl) (by rfl)))) (fun _ => rfl)) (js_one (js_ret (je_var 5 rfl (Or.inl rfl) (by decide) (by decide))))))))

abbrev s_need_index : Stmt := topS 44
theorem sc_need_index : FnScope ["row", "index"] ["row", "index"] (defScope s_need_index) := ⟨rfl, rfl, rfl, by decide +kernel, rfl, by decide +kernel, by decide +kernel⟩
def G_need_index : SDen := (sIf (tNotD (tOf (eFn F_is_from (aCons (eVar 1) (aCons (eC (.int 0)) (aCons (eBin dSub (eCall dLen (aCons (eVar 0) aNil)) (eC (.int 1))) aNil)))))) sNever sNil)
def F_need_index : FDen := runF 2 2 G_need_index
theorem w_need_index {a0 a1 : D} {ce : Cells} {Q : D → Cells → Prop} {E : Str → Cells → Prop} (h : WS ((sIf (tNotD (tOf (eFn F_is_from (aCons (eVar 1) (aCons (eC (.int 0)) (aCons (eBin dSub (eCall dLen (aCons (eVar 0) aNil)) (eC (.int 1))) aNil)))))) sNever sNil) [some a0, some a1] ce) (fun _ ce1 => WFin ce.length .non ce1 Q) (fun d ce1 => WFin ce.length d ce1 Q) (fun _ _ => False) (fun _ _ => False) fun x _ ce1 => E x (ce1.take ce.length)) : WE (F_need_index [a0, a1] ce) Q E := run_ws rfl h
theorem cal_need_index {P : Program} {w : World} {K : PySem.W.Frag} {mg : Str → Option Value} {base : Heap} {f : Addr} {fd : FuncData} (F : Fun K "need_index" "need_index" s_need_index f fd) (hm : mg "need_index" = some (.ref f)) (z_len : mg "len" = none) (c_is_from : Cal P w K mg base 1 "is_from" 3 F_is_from) : Cal P w K mg base 2 "need_index" 2 F_need_index := by
  refine cal_mk (g := G_need_index) (ps := ["row", "index"]) (N := ["row", "index"]) F hm sc_need_index (fun _ _ _ _ _ _ us hl => match us, hl with | [_, _], _ => rfl) fun cdv A outer s H E hr => ?_
  exact (js_one (js_if (jt_not (jt_val (je_cal (L2N.takes_of rfl rfl rfl rfl) c_is_from rfl (hr.mono (by omega)) (by rfl) (ja_cons (je_var 1 rfl (Or.inl rfl) (by decide) (by decide)) (ja_cons je_int (ja_cons (je_bin oj_sub (je_callB cj_len (by rfl) z_len (by decide +kernel) (ja_cons (je_var 0 rfl (Or.inl rfl) (by decide) (by decide)) ja_nil (by rfl)) (by decide) (by decide) (by rfl) (by rfl)) je_int) ja_nil (by rfl)) (by rfl)) (by rfl)) (ga_cons (ga_cons (ga_cons ga_nil))) (by decide) (by rfl) (by rfl)) (fun _ => rfl))) (js_one js_never) js_nil))

abbrev s_harmed_by : Stmt := topS 45
theorem sc_harmed_by : FnScope ["row", "index", "rest", "other", "works", "wrong", "later", "place", "old"] ["row", "index"] (defScope s_harmed_by) := ⟨rfl, rfl, rfl, by decide +kernel, rfl, by decide +kernel, by decide +kernel⟩
def G_harmed_by : SDen := (sSeq (sMulti [3, 4] (aCons (eBin dAdd (eSl (eVar 0) oNone (oSome (eVar 1))) (eSl (eVar 0) (oSome (eBin dAdd (eVar 1) (eC (.int 1)))) oNone)) (aCons (eFn F_works_of (aCons (eVar 0) aNil)) aNil))) (sSeq (sMulti [5, 6] (aCons (eFn F_faults (aCons (eVar 3) aNil)) (aCons (eFn F_works_of (aCons (eVar 3) aNil)) aNil))) (sSeq (sSet 2 (eComp (eSrc srcRange1 (aCons (eCall dLen (aCons (eVar 0) aNil)) aNil)) [7] (gN 7) (tOf (eBin dNe (eVar 7) (eVar 1))) (eVar 7))) (sRet (eComp (eSrcC srcEnum (aCons (eVar 2) aNil)) [7, 8] (gT (gsN [7, 8]) 2) (tOrD (tOf (eBin dIn (eVar 7) (eVar 5))) (tOf (eBin dNe (eBin dIx (eVar 6) (eVar 7)) (eBin dIx (eVar 4) (eVar 8))))) (eVar 8))))))
def F_harmed_by : FDen := runF 2 9 G_harmed_by
theorem w_harmed_by {a0 a1 : D} {ce : Cells} {Q : D → Cells → Prop} {E : Str → Cells → Prop} (h : WS ((sSeq (sMulti [3, 4] (aCons (eBin dAdd (eSl (eVar 0) oNone (oSome (eVar 1))) (eSl (eVar 0) (oSome (eBin dAdd (eVar 1) (eC (.int 1)))) oNone)) (aCons (eFn F_works_of (aCons (eVar 0) aNil)) aNil))) (sSeq (sMulti [5, 6] (aCons (eFn F_faults (aCons (eVar 3) aNil)) (aCons (eFn F_works_of (aCons (eVar 3) aNil)) aNil))) (sSeq (sSet 2 (eComp (eSrc srcRange1 (aCons (eCall dLen (aCons (eVar 0) aNil)) aNil)) [7] (gN 7) (tOf (eBin dNe (eVar 7) (eVar 1))) (eVar 7))) (sRet (eComp (eSrcC srcEnum (aCons (eVar 2) aNil)) [7, 8] (gT (gsN [7, 8]) 2) (tOrD (tOf (eBin dIn (eVar 7) (eVar 5))) (tOf (eBin dNe (eBin dIx (eVar 6) (eVar 7)) (eBin dIx (eVar 4) (eVar 8))))) (eVar 8)))))) [some a0, some a1, none, none, none, none, none, none, none] ce) (fun _ ce1 => WFin ce.length .non ce1 Q) (fun d ce1 => WFin ce.length d ce1 Q) (fun _ _ => False) (fun _ _ => False) fun x _ ce1 => E x (ce1.take ce.length)) : WE (F_harmed_by [a0, a1] ce) Q E := run_ws rfl h
theorem cal_harmed_by {P : Program} {w : World} {K : PySem.W.Frag} {mg : Str → Option Value} {base : Heap} {f : Addr} {fd : FuncData} (F : Fun K "harmed_by" "harmed_by" s_harmed_by f fd) (hm : mg "harmed_by" = some (.ref f)) (z_enumerate : mg "enumerate" = none) (z_len : mg "len" = none) (z_range : mg "range" = none) (c_works_of : Cal P w K mg base 1 "works_of" 1 F_works_of) (c_faults : Cal P w K mg base 2 "faults" 1 F_faults) : Cal P w K mg base 3 "harmed_by" 2 F_harmed_by := by
  refine cal_mk (g := G_harmed_by) (ps := ["row", "index"]) (N := ["row", "index", "rest", "other", "works", "wrong", "later", "place", "old"]) F hm sc_harmed_by (fun _ _ _ _ _ _ us hl => match us, hl with | [_, _], _ => rfl) fun cdv A outer s H E hr => ?_
  exact (js_cons (js_multi rfl (ja_cons (je_bin oj_add (je_sl (je_var 0 rfl (Or.inl rfl) (by decide) (by decide)) jo_none (jo_some (je_var 1 rfl (Or.inr (Or.inl rfl)) (by decide) (by decide)))) (je_sl (je_var 0 rfl (Or.inl rfl) (by decide) (by decide)) (jo_some (je_bin oj_add (je_var 1 rfl (Or.inr (Or.inl rfl)) (by decide) (by decide)) je_int)) jo_none)) (ja_cons (je_cal (L2N.takes_of rfl rfl rfl rfl) c_works_of rfl (hr.mono (by omega)) (by rfl) (ja_cons (je_var 0 rfl (Or.inl rfl) (by decide) (by decide)) ja_nil (by rfl)) (ga_cons ga_nil) (by decide) (by rfl) (by rfl)) ja_nil (by rfl)) (by rfl)) (jgs_cons 3 sc_harmed_by.nd rfl (Or.inl rfl) (Or.inl rfl) (jgs_cons 4 sc_harmed_by.nd rfl (Or.inr rfl) (Or.inl rfl) jgs_nil rfl) rfl) rfl (by decide) rfl (by rfl) (by rfl) (by rfl)) (js_cons (js_multi rfl (ja_cons (je_cal (L2N.takes_of rfl rfl rfl rfl) c_faults rfl (hr.mono (by omega)) (by rfl) (ja_cons (je_var 3 rfl (Or.inl rfl) (by decide) (by decide)) ja_nil (by rfl)) (ga_cons ga_nil) (by decide) (by rfl) (by rfl)) (ja_cons (je_cal (L2N.takes_of rfl rfl rfl rfl) c_works_of rfl (hr.mono (by omega)) (by rfl) (ja_cons (je_var 3 rfl (Or.inl rfl) (by decide) (by decide)) ja_nil (by rfl)) (ga_cons ga_nil) (by decide) (by rfl) (by rfl)) ja_nil (by rfl)) (by rfl)) (jgs_cons 5 sc_harmed_by.nd rfl (Or.inr rfl) (Or.inl rfl) (jgs_cons 6 sc_harmed_by.nd rfl (Or.inr rfl) (Or.inl rfl) jgs_nil rfl) rfl) rfl (by decide) rfl (by rfl) (by rfl) (by rfl)) (js_cons (js_setComp 2 rfl sc_harmed_by.nd rfl rfl (sw_true rfl rfl rfl (by decide +kernel)) (ji_range1 (by rfl) z_range (ja_cons (je_callB cj_len (by rfl) z_len (by decide +kernel) (ja_cons (je_var 0 rfl (Or.inl rfl) (by decide) (by decide)) ja_nil (by rfl)) (by decide) (by decide) (by rfl) (by rfl)) ja_nil (by rfl)) (by rfl)) (blkOk_by (own := [("place", 7)]) (N := ["row", "index", "rest", "other", "works", "wrong", "later", "place", "old"]) (sc := defScope s_harmed_by) (by decide +kernel)) rfl (fun _ _ _ _ _ => (jg_name 7 sc_harmed_by.nd rfl (Or.inl rfl) (Or.inr rfl))) (fun _ _ _ _ _ => (jts_one (jt_cmp (oj_ne hr.units) (je_var 7 rfl (Or.inl rfl) (by decide) (by decide)) (je_var 1 rfl (Or.inr (Or.inl rfl)) (by decide) (by decide)) (nomark _)))) (fun _ _ _ _ _ => (je_var 7 rfl (Or.inl rfl) (by decide) (by decide))) (fun _ => rfl)) (js_one (js_ret (je_comp rfl sc_harmed_by.nd (ji_enum (by rfl) z_enumerate (ja_cons (je_var 2 rfl (Or.inl rfl) (by decide) (by decide)) ja_nil (by rfl)) (by rfl)) (blkOk_by (own := [("place", 7), ("old", 8)]) (N := ["row", "index", "rest", "other", "works", "wrong", "later", "place", "old"]) (sc := defScope s_harmed_by) (by decide +kernel)) rfl (fun _ _ _ _ _ => (jg_tup rfl (jgs_cons 7 sc_harmed_by.nd rfl (Or.inl rfl) (Or.inr rfl) (jgs_cons 8 sc_harmed_by.nd rfl (Or.inl rfl) (Or.inr rfl) jgs_nil rfl) rfl) rfl rfl)) (fun _ _ _ _ _ => (jts_one (jw_pt (jw_or (jt_cmp oj_in (je_var 7 rfl (Or.inl rfl) (by decide) (by decide)) (je_var 5 rfl (Or.inr (Or.inl rfl)) (by decide) (by decide)) (by rfl)) (jw_or1 (jt_cmp (oj_ne hr.units) (je_ix ij_ix (je_var 6 rfl (Or.inr (Or.inl rfl)) (by decide) (by decide)) (je_var 7 rfl (Or.inl rfl) (by decide) (by decide)) (fun _ _ => rfl)) (je_ix ij_ix (je_var 4 rfl (Or.inr (Or.inl rfl)) (by decide) (by decide)) (je_var 8 rfl (Or.inl rfl) (by decide) (by decide)) (fun _ _ => rfl)) (nomark _))))))) (fun _ _ _ _ _ => (je_var 8 rfl (Or.inl rfl) (by decide) (by decide))) (fun _ => rfl)))))))

abbrev s_harmed : Stmt := topS 46
theorem sc_harmed : FnScope ["row", "index"] ["row", "index"] (defScope s_harmed) := ⟨rfl, rfl, rfl, by decide +kernel, rfl, by decide +kernel, by decide +kernel⟩
def G_harmed : SDen := (sSeq (sExpr (eFn F_need_right (aCons (eVar 0) aNil))) (sSeq (sExpr (eFn F_need_index (aCons (eVar 0) (aCons (eVar 1) aNil)))) (sRet (eFn F_harmed_by (aCons (eVar 0) (aCons (eVar 1) aNil))))))
def F_harmed : FDen := runF 2 2 G_harmed
theorem w_harmed {a0 a1 : D} {ce : Cells} {Q : D → Cells → Prop} {E : Str → Cells → Prop} (h : WS ((sSeq (sExpr (eFn F_need_right (aCons (eVar 0) aNil))) (sSeq (sExpr (eFn F_need_index (aCons (eVar 0) (aCons (eVar 1) aNil)))) (sRet (eFn F_harmed_by (aCons (eVar 0) (aCons (eVar 1) aNil)))))) [some a0, some a1] ce) (fun _ ce1 => WFin ce.length .non ce1 Q) (fun d ce1 => WFin ce.length d ce1 Q) (fun _ _ => False) (fun _ _ => False) fun x _ ce1 => E x (ce1.take ce.length)) : WE (F_harmed [a0, a1] ce) Q E := run_ws rfl h
theorem cal_harmed {P : Program} {w : World} {K : PySem.W.Frag} {mg : Str → Option Value} {base : Heap} {f : Addr} {fd : FuncData} (F : Fun K "harmed" "harmed" s_harmed f fd) (hm : mg "harmed" = some (.ref f)) (c_need_right : Cal P w K mg base 3 "need_right" 1 F_need_right) (c_need_index : Cal P w K mg base 2 "need_index" 2 F_need_index) (c_harmed_by : Cal P w K mg base 3 "harmed_by" 2 F_harmed_by) : Cal P w K mg base 4 "harmed" 2 F_harmed := by
  refine cal_mk (g := G_harmed) (ps := ["row", "index"]) (N := ["row", "index"]) F hm sc_harmed (fun _ _ _ _ _ _ us hl => match us, hl with | [_, _], _ => rfl) fun cdv A outer s H E hr => ?_
  exact (js_cons (js_expr (je_cal (L2N.takes_of rfl rfl rfl rfl) c_need_right rfl (hr.mono (by omega)) (by rfl) (ja_cons (je_var 0 rfl (Or.inl rfl) (by decide) (by decide)) ja_nil (by rfl)) (ga_cons ga_nil) (by decide) (by rfl) (by rfl)) (by rfl)) (js_cons (js_expr (je_cal (L2N.takes_of rfl rfl rfl rfl) c_need_index rfl (hr.mono (by omega)) (by rfl) (ja_cons (je_var 0 rfl (Or.inl rfl) (by decide) (by decide)) (ja_cons (je_var 1 rfl (Or.inl rfl) (by decide) (by decide)) ja_nil (by rfl)) (by rfl)) (ga_cons (ga_cons ga_nil)) (by decide) (by rfl) (by rfl)) (by rfl)) (js_one (js_ret (je_cal (L2N.takes_of rfl rfl rfl rfl) c_harmed_by rfl (hr.mono (by omega)) (by rfl) (ja_cons (je_var 0 rfl (Or.inl rfl) (by decide) (by decide)) (ja_cons (je_var 1 rfl (Or.inl rfl) (by decide) (by decide)) ja_nil (by rfl)) (by rfl)) (ga_cons (ga_cons ga_nil)) (by decide) (by rfl) (by rfl))))))

abbrev s_needless : Stmt := topS 47
theorem sc_needless : FnScope ["row", "index"] ["row"] (defScope s_needless) := ⟨rfl, rfl, rfl, by decide +kernel, rfl, by decide +kernel, by decide +kernel⟩
def G_needless : SDen := (sSeq (sExpr (eFn F_need_right (aCons (eVar 0) aNil))) (sRet (eComp (eSrc srcRange1 (aCons (eCall dLen (aCons (eVar 0) aNil)) aNil)) [1] (gN 1) (tOf (eBin dEq (eFn F_harmed_by (aCons (eVar 0) (aCons (eVar 1) aNil))) (eLst aNil))) (eVar 1))))
def F_needless : FDen := runF 1 2 G_needless
theorem w_needless {a0 : D} {ce : Cells} {Q : D → Cells → Prop} {E : Str → Cells → Prop} (h : WS ((sSeq (sExpr (eFn F_need_right (aCons (eVar 0) aNil))) (sRet (eComp (eSrc srcRange1 (aCons (eCall dLen (aCons (eVar 0) aNil)) aNil)) [1] (gN 1) (tOf (eBin dEq (eFn F_harmed_by (aCons (eVar 0) (aCons (eVar 1) aNil))) (eLst aNil))) (eVar 1)))) [some a0, none] ce) (fun _ ce1 => WFin ce.length .non ce1 Q) (fun d ce1 => WFin ce.length d ce1 Q) (fun _ _ => False) (fun _ _ => False) fun x _ ce1 => E x (ce1.take ce.length)) : WE (F_needless [a0] ce) Q E := run_ws rfl h
theorem cal_needless {P : Program} {w : World} {K : PySem.W.Frag} {mg : Str → Option Value} {base : Heap} {f : Addr} {fd : FuncData} (F : Fun K "needless" "needless" s_needless f fd) (hm : mg "needless" = some (.ref f)) (z_len : mg "len" = none) (z_range : mg "range" = none) (c_need_right : Cal P w K mg base 3 "need_right" 1 F_need_right) (c_harmed_by : Cal P w K mg base 3 "harmed_by" 2 F_harmed_by) : Cal P w K mg base 4 "needless" 1 F_needless := by
  refine cal_mk (g := G_needless) (ps := ["row"]) (N := ["row", "index"]) F hm sc_needless (fun _ _ _ _ _ _ us hl => match us, hl with | [_], _ => rfl) fun cdv A outer s H E hr => ?_
  exact (js_cons (js_expr (je_cal (L2N.takes_of rfl rfl rfl rfl) c_need_right rfl (hr.mono (by omega)) (by rfl) (ja_cons (je_var 0 rfl (Or.inr (Or.inl rfl)) (by decide) (by decide)) ja_nil (by rfl)) (ga_cons ga_nil) (by decide) (by rfl) (by rfl)) (by rfl)) (js_one (js_ret (je_comp rfl sc_needless.nd (ji_range1 (by rfl) z_range (ja_cons (je_callB cj_len (by rfl) z_len (by decide +kernel) (ja_cons (je_var 0 rfl (Or.inr (Or.inl rfl)) (by decide) (by decide)) ja_nil (by rfl)) (by decide) (by decide) (by rfl) (by rfl)) ja_nil (by rfl)) (by rfl)) (blkOk_by (own := [("index", 1)]) (N := ["row", "index"]) (sc := defScope s_needless) (by decide +kernel)) rfl (fun _ _ _ _ _ => (jg_name 1 sc_needless.nd rfl (Or.inl rfl) (Or.inr rfl))) (fun _ _ _ _ _ => (jts_one (jt_cmp (oj_eq hr.units) (je_cal takes0N c_harmed_by rfl (hr.mono (by omega)) (by rfl) (ja_cons (je_var 0 rfl (Or.inr (Or.inl rfl)) (by decide) (by decide)) (ja_cons (je_var 1 rfl (Or.inl rfl) (by decide) (by decide)) ja_nil (by rfl)) (by rfl)) (ga_cons (ga_cons ga_nil)) (by decide) (by rfl) (by rfl)) (je_lst ja_nil) (nomark _)))) (fun _ _ _ _ _ => (je_var 1 rfl (Or.inl rfl) (by decide) (by decide))) (fun _ => rfl)))))

abbrev s_need_stretch : Stmt := topS 48
theorem sc_need_stretch : FnScope ["row", "start", "stop"] ["row", "start", "stop"] (defScope s_need_stretch) := ⟨rfl, rfl, rfl, by decide +kernel, rfl, by decide +kernel, by decide +kernel⟩
def G_need_stretch : SDen := (sIf (tOrD (tNotD (tOf (eFn F_is_from (aCons (eVar 1) (aCons (eC (.int 0)) (aCons (eBin dSub (eCall dLen (aCons (eVar 0) aNil)) (eC (.int 1))) aNil)))))) (tNotD (tOf (eFn F_is_from (aCons (eVar 2) (aCons (eBin dAdd (eVar 1) (eC (.int 1))) (aCons (eCall dLen (aCons (eVar 0) aNil)) aNil))))))) sNever sNil)
def F_need_stretch : FDen := runF 3 3 G_need_stretch
theorem w_need_stretch {a0 a1 a2 : D} {ce : Cells} {Q : D → Cells → Prop} {E : Str → Cells → Prop} (h : WS ((sIf (tOrD (tNotD (tOf (eFn F_is_from (aCons (eVar 1) (aCons (eC (.int 0)) (aCons (eBin dSub (eCall dLen (aCons (eVar 0) aNil)) (eC (.int 1))) aNil)))))) (tNotD (tOf (eFn F_is_from (aCons (eVar 2) (aCons (eBin dAdd (eVar 1) (eC (.int 1))) (aCons (eCall dLen (aCons (eVar 0) aNil)) aNil))))))) sNever sNil) [some a0, some a1, some a2] ce) (fun _ ce1 => WFin ce.length .non ce1 Q) (fun d ce1 => WFin ce.length d ce1 Q) (fun _ _ => False) (fun _ _ => False) fun x _ ce1 => E x (ce1.take ce.length)) : WE (F_need_stretch [a0, a1, a2] ce) Q E := run_ws rfl h
theorem cal_need_stretch {P : Program} {w : World} {K : PySem.W.Frag} {mg : Str → Option Value} {base : Heap} {f : Addr} {fd : FuncData} (F : Fun K "need_stretch" "need_stretch" s_need_stretch f fd) (hm : mg "need_stretch" = some (.ref f)) (z_len : mg "len" = none) (c_is_from : Cal P w K mg base 1 "is_from" 3 F_is_from) : Cal P w K mg base 2 "need_stretch" 3 F_need_stretch := by
  refine cal_mk (g := G_need_stretch) (ps := ["row", "start", "stop"]) (N := ["row", "start", "stop"]) F hm sc_need_stretch (fun _ _ _ _ _ _ us hl => match us, hl with | [_, _, _], _ => rfl) fun cdv A outer s H E hr => ?_
  exact (js_one (js_if (jw_pt (jw_or (jt_not (jt_val (je_cal (L2N.takes_of rfl rfl rfl rfl) c_is_from rfl (hr.mono (by omega)) (by rfl) (ja_cons (je_var 1 rfl (Or.inl rfl) (by decide) (by decide)) (ja_cons je_int (ja_cons (je_bin oj_sub (je_callB cj_len (by rfl) z_len (by decide +kernel) (ja_cons (je_var 0 rfl (Or.inl rfl) (by decide) (by decide)) ja_nil (by rfl)) (by decide) (by decide) (by rfl) (by rfl)) je_int) ja_nil (by rfl)) (by rfl)) (by rfl)) (ga_cons (ga_cons (ga_cons ga_nil))) (by decide) (by rfl) (by rfl)) (fun _ => rfl))) (jw_or1 (jt_not (jt_val (je_cal (L2N.takes_of rfl rfl rfl rfl) c_is_from rfl (hr.mono (by omega)) (by rfl) (ja_cons (je_var 2 rfl (Or.inl rfl) (by decide) (by decide)) (ja_cons (je_bin oj_add (je_var 1 rfl (Or.inl rfl) (by decide) (by decide)) je_int) (ja_cons (je_callB cj_len (by rfl) z_len (by decide +kernel) (ja_cons (je_var 0 rfl (Or.inl rfl) (by decide) (by decide)) ja_nil (by rfl)) (by decide) (by decide) (by rfl) (by rfl)) ja_nil (by rfl)) (by rfl)) (by rfl)) (ga_cons (ga_cons (ga_cons ga_nil))) (by decide) (by rfl) (by rfl)) (fun _ => rfl)))))) (js_one js_never) js_nil))

abbrev s_order_of : Stmt := topS 49
theorem sc_order_of : FnScope ["row", "start", "stop", "goal", "rest", "place"] ["row", "start", "stop", "goal"] (defScope s_order_of) := ⟨rfl, rfl, rfl, by decide +kernel, rfl, by decide +kernel, by decide +kernel⟩
def G_order_of : SDen := (sSeq (sSet 4 (eComp (eSrc srcRange1 (aCons (eCall dLen (aCons (eVar 0) aNil)) aNil)) [5] (gN 5) (tNotD (tOf (eChain dLe dLt (eVar 1) (eVar 5) (eVar 2)))) (eVar 5))) (sRet (eCall dTuple (aCons (eBin dAdd (eBin dAdd (eSl (eVar 4) oNone (oSome (eVar 3))) (eLR lrTree (rg2 (eVar 1) (eVar 2)))) (eSl (eVar 4) (oSome (eVar 3)) oNone)) aNil))))
def F_order_of : FDen := runF 4 6 G_order_of
theorem w_order_of {a0 a1 a2 a3 : D} {ce : Cells} {Q : D → Cells → Prop} {E : Str → Cells → Prop} (h : WS ((sSeq (sSet 4 (eComp (eSrc srcRange1 (aCons (eCall dLen (aCons (eVar 0) aNil)) aNil)) [5] (gN 5) (tNotD (tOf (eChain dLe dLt (eVar 1) (eVar 5) (eVar 2)))) (eVar 5))) (sRet (eCall dTuple (aCons (eBin dAdd (eBin dAdd (eSl (eVar 4) oNone (oSome (eVar 3))) (eLR lrTree (rg2 (eVar 1) (eVar 2)))) (eSl (eVar 4) (oSome (eVar 3)) oNone)) aNil)))) [some a0, some a1, some a2, some a3, none, none] ce) (fun _ ce1 => WFin ce.length .non ce1 Q) (fun d ce1 => WFin ce.length d ce1 Q) (fun _ _ => False) (fun _ _ => False) fun x _ ce1 => E x (ce1.take ce.length)) : WE (F_order_of [a0, a1, a2, a3] ce) Q E := run_ws rfl h
theorem cal_order_of {P : Program} {w : World} {K : PySem.W.Frag} {mg : Str → Option Value} {base : Heap} {f : Addr} {fd : FuncData} (F : Fun K "order_of" "order_of" s_order_of f fd) (hm : mg "order_of" = some (.ref f)) (z_len : mg "len" = none) (z_list : mg "list" = none) (z_range : mg "range" = none) (z_tuple : mg "tuple" = none) : Cal P w K mg base 1 "order_of" 4 F_order_of := by
  refine cal_mk (g := G_order_of) (ps := ["row", "start", "stop", "goal"]) (N := ["row", "start", "stop", "goal", "rest", "place"]) F hm sc_order_of (fun _ _ _ _ _ _ us hl => match us, hl with | [_, _, _, _], _ => rfl) fun cdv A outer s H E hr => ?_
  exact (js_cons (js_setComp 4 rfl sc_order_of.nd rfl rfl (sw_true rfl rfl rfl (by decide +kernel)) (ji_range1 (by rfl) z_range (ja_cons (je_callB cj_len (by rfl) z_len (by decide +kernel) (ja_cons (je_var 0 rfl (Or.inl rfl) (by decide) (by decide)) ja_nil (by rfl)) (by decide) (by decide) (by rfl) (by rfl)) ja_nil (by rfl)) (by rfl)) (blkOk_by (own := [("place", 5)]) (N := ["row", "start", "stop", "goal", "rest", "place"]) (sc := defScope s_order_of) (by decide +kernel)) rfl (fun _ _ _ _ _ => (jg_name 5 sc_order_of.nd rfl (Or.inl rfl) (Or.inr rfl))) (fun _ _ _ _ _ => (jts_one (jt_not (jt_chain oj_le oj_lt (je_var 1 rfl (Or.inr (Or.inl rfl)) (by decide) (by decide)) (je_var 5 rfl (Or.inl rfl) (by decide) (by decide)) (je_var 2 rfl (Or.inr (Or.inl rfl)) (by decide) (by decide)) (by with_unfolding_all rfl))))) (fun _ _ _ _ _ => (je_var 5 rfl (Or.inl rfl) (by decide) (by decide))) (fun _ => rfl)) (js_one (js_ret (je_callTy cj_tuple (by rfl) z_tuple (by decide +kernel) (ja_cons (je_bin oj_add (je_bin oj_add (je_sl (je_var 4 rfl (Or.inl rfl) (by decide) (by decide)) jo_none (jo_some (je_var 3 rfl (Or.inl rfl) (by decide) (by decide)))) (je_lr rfl (by rfl) z_list (jrg_2 (by rfl) z_range (je_var 1 rfl (Or.inr (Or.inl rfl)) (by decide) (by decide)) (je_var 2 rfl (Or.inr (Or.inl rfl)) (by decide) (by decide)) (by rfl) (by rfl) (by rfl)) (by rfl))) (je_sl (je_var 4 rfl (Or.inl rfl) (by decide) (by decide)) (jo_some (je_var 3 rfl (Or.inl rfl) (by decide) (by decide))) jo_none)) ja_nil (by rfl)) (by decide) (by decide) (by rfl) (by rfl)))))

abbrev s_goals : Stmt := topS 50
theorem sc_goals : FnScope ["row", "start", "stop", "some", "goal"] ["row", "start", "stop"] (defScope s_goals) := ⟨rfl, rfl, rfl, by decide +kernel, rfl, by decide +kernel, by decide +kernel⟩
def G_goals : SDen := (sSeq (sExpr (eFn F_need_right (aCons (eVar 0) aNil))) (sSeq (sExpr (eFn F_need_stretch (aCons (eVar 0) (aCons (eVar 1) (aCons (eVar 2) aNil))))) (sSeq (sSet 3 (eLR lrTree (rg1 (eBin dAdd (eBin dAdd (eBin dSub (eCall dLen (aCons (eVar 0) aNil)) (eVar 2)) (eVar 1)) (eC (.int 1)))))) (sRet (eComp (eIter (eVar 3)) [4] (gN 4) (tOf (eFn F_same_meaning (aCons (eVar 0) (aCons (eFn F_order_of (aCons (eVar 0) (aCons (eVar 1) (aCons (eVar 2) (aCons (eVar 4) aNil))))) aNil)))) (eVar 4))))))
def F_goals : FDen := runF 3 5 G_goals
theorem w_goals {a0 a1 a2 : D} {ce : Cells} {Q : D → Cells → Prop} {E : Str → Cells → Prop} (h : WS ((sSeq (sExpr (eFn F_need_right (aCons (eVar 0) aNil))) (sSeq (sExpr (eFn F_need_stretch (aCons (eVar 0) (aCons (eVar 1) (aCons (eVar 2) aNil))))) (sSeq (sSet 3 (eLR lrTree (rg1 (eBin dAdd (eBin dAdd (eBin dSub (eCall dLen (aCons (eVar 0) aNil)) (eVar 2)) (eVar 1)) (eC (.int 1)))))) (sRet (eComp (eIter (eVar 3)) [4] (gN 4) (tOf (eFn F_same_meaning (aCons (eVar 0) (aCons (eFn F_order_of (aCons (eVar 0) (aCons (eVar 1) (aCons (eVar 2) (aCons (eVar 4) aNil))))) aNil)))) (eVar 4)))))) [some a0, some a1, some a2, none, none] ce) (fun _ ce1 => WFin ce.length .non ce1 Q) (fun d ce1 => WFin ce.length d ce1 Q) (fun _ _ => False) (fun _ _ => False) fun x _ ce1 => E x (ce1.take ce.length)) : WE (F_goals [a0, a1, a2] ce) Q E := run_ws rfl h
theorem cal_goals {P : Program} {w : World} {K : PySem.W.Frag} {mg : Str → Option Value} {base : Heap} {f : Addr} {fd : FuncData} (F : Fun K "goals" "goals" s_goals f fd) (hm : mg "goals" = some (.ref f)) (z_len : mg "len" = none) (z_list : mg "list" = none) (z_range : mg "range" = none) (c_need_right : Cal P w K mg base 3 "need_right" 1 F_need_right) (c_need_stretch : Cal P w K mg base 2 "need_stretch" 3 F_need_stretch) (c_same_meaning : Cal P w K mg base 3 "same_meaning" 2 F_same_meaning) (c_order_of : Cal P w K mg base 1 "order_of" 4 F_order_of) : Cal P w K mg base 4 "goals" 3 F_goals := by
  refine cal_mk (g := G_goals) (ps := ["row", "start", "stop"]) (N := ["row", "start", "stop", "some", "goal"]) F hm sc_goals (fun _ _ _ _ _ _ us hl => match us, hl with | [_, _, _], _ => rfl) fun cdv A outer s H E hr => ?_
  exact (js_cons (js_expr (je_cal (L2N.takes_of rfl rfl rfl rfl) c_need_right rfl (hr.mono (by omega)) (by rfl) (ja_cons (je_var 0 rfl (Or.inr (Or.inl rfl)) (by decide) (by decide)) ja_nil (by rfl)) (ga_cons ga_nil) (by decide) (by rfl) (by rfl)) (by rfl)) (js_cons (js_expr (je_cal (L2N.takes_of rfl rfl rfl rfl) c_need_stretch rfl (hr.mono (by omega)) (by rfl) (ja_cons (je_var 0 rfl (Or.inr (Or.inl rfl)) (by decide) (by decide)) (ja_cons (je_var 1 rfl (Or.inr (Or.inl rfl)) (by decide) (by decide)) (ja_cons (je_var 2 rfl (Or.inr (Or.inl rfl)) (by decide) (by decide)) ja_nil (by rfl)) (by rfl)) (by rfl)) (ga_cons (ga_cons (ga_cons ga_nil))) (by decide) (by rfl) (by rfl)) (by rfl)) (js_cons (js_set 3 sc_goals.nd rfl (Or.inl rfl) (je_lr rfl (by rfl) z_list (jrg_1 (by rfl) z_range (je_bin oj_add (je_bin oj_add (je_bin oj_sub (je_callB cj_len (by rfl) z_len (by decide +kernel) (ja_cons (je_var 0 rfl (Or.inr (Or.inl rfl)) (by decide) (by decide)) ja_nil (by rfl)) (by decide) (by decide) (by rfl) (by rfl)) (je_var 2 rfl (Or.inr (Or.inl rfl)) (by decide) (by decide))) (je_var 1 rfl (Or.inr (Or.inl rfl)) (by decide) (by decide))) je_int) (by rfl)) (by rfl)) (by rfl) (Or.inl rfl)) (js_one (js_ret (je_comp rfl sc_goals.nd (ji_val (je_var 3 rfl (Or.inl rfl) (by decide) (by decide))) (blkOk_by (own := [("goal", 4)]) (N := ["row", "start", "stop", "some", "goal"]) (sc := defScope s_goals) (by decide +kernel)) rfl (fun _ _ _ _ _ => (jg_name 4 sc_goals.nd rfl (Or.inl rfl) (Or.inr rfl))) (fun _ _ _ _ _ => (jts_one (jt_val (je_cal takes0N c_same_meaning rfl (hr.mono (by omega)) (by rfl) (ja_cons (je_var 0 rfl (Or.inr (Or.inl rfl)) (by decide) (by decide)) (ja_cons (je_cal takes0N c_order_of rfl (hr.mono (by omega)) (by rfl) (ja_cons (je_var 0 rfl (Or.inr (Or.inl rfl)) (by decide) (by decide)) (ja_cons (je_var 1 rfl (Or.inr (Or.inl rfl)) (by decide) (by decide)) (ja_cons (je_var 2 rfl (Or.inr (Or.inl rfl)) (by decide) (by decide)) (ja_cons (je_var 4 rfl (Or.inl rfl) (by decide) (by decide)) ja_nil (by rfl)) (by rfl)) (by rfl)) (by rfl)) (ga_cons (ga_cons (ga_cons (ga_cons ga_nil)))) (by decide) (by rfl) (by rfl)) ja_nil (by rfl)) (by rfl)) (ga_cons (ga_cons ga_nil)) (by decide) (by rfl) (by rfl)) (fun _ => rfl)))) (fun _ _ _ _ _ => (je_var 4 rfl (Or.inl rfl) (by decide) (by decide))) (fun _ => rfl)))))))

abbrev s_mended : Stmt := topS 51
theorem sc_mended : FnScope ["row", "works", "found", "changes", "place", "sign", "work", "new"] ["row", "works"] (defScope s_mended) := ⟨rfl, rfl, rfl, by decide +kernel, rfl, by decide +kernel, by decide +kernel⟩
def G_mended : SDen := (sSeq (sMulti [2, 3] (aCons (eC (.str [])) (aCons (eC (.int 0)) aNil))) (sSeq (sFor (eSrcC srcEnum (aCons (eVar 0) aNil)) (gT (gsN [4, 5]) 2) (sSeq (sSet 6 (eBin dIx (eVar 1) (eVar 4))) (sSeq (sIf (tOf (eBin dNotIn (eVar 6) (eSl (eVar 1) oNone (oSome (eVar 4))))) (sSet 7 (eVar 6)) (sIf (tAndD (tOf (eBin dEq (eVar 5) (eC (.str [45])))) (tOf (eBin dNe (eBin dIx (eVar 1) (eBin dSub (eVar 4) (eC (.int 1)))) (eVar 6)))) (sSet 7 (eMeth0 "str" dLower (eVar 6))) (sSet 7 (eVar 5)))) (sSeq (sAug 3 dIadd (eCall dInt (aCons (eBin dNe (eVar 7) (eVar 5)) aNil))) (sSet 2 (eBin dAdd (eVar 2) (eVar 7))))))) (sRet (eTup (aCons (eVar 2) (aCons (eVar 3) aNil))))))
def F_mended : FDen := runF 2 8 G_mended
theorem w_mended {a0 a1 : D} {ce : Cells} {Q : D → Cells → Prop} {E : Str → Cells → Prop} (h : WS ((sSeq (sMulti [2, 3] (aCons (eC (.str [])) (aCons (eC (.int 0)) aNil))) (sSeq (sFor (eSrcC srcEnum (aCons (eVar 0) aNil)) (gT (gsN [4, 5]) 2) (sSeq (sSet 6 (eBin dIx (eVar 1) (eVar 4))) (sSeq (sIf (tOf (eBin dNotIn (eVar 6) (eSl (eVar 1) oNone (oSome (eVar 4))))) (sSet 7 (eVar 6)) (sIf (tAndD (tOf (eBin dEq (eVar 5) (eC (.str [45])))) (tOf (eBin dNe (eBin dIx (eVar 1) (eBin dSub (eVar 4) (eC (.int 1)))) (eVar 6)))) (sSet 7 (eMeth0 "str" dLower (eVar 6))) (sSet 7 (eVar 5)))) (sSeq (sAug 3 dIadd (eCall dInt (aCons (eBin dNe (eVar 7) (eVar 5)) aNil))) (sSet 2 (eBin dAdd (eVar 2) (eVar 7))))))) (sRet (eTup (aCons (eVar 2) (aCons (eVar 3) aNil)))))) [some a0, some a1, none, none, none, none, none, none] ce) (fun _ ce1 => WFin ce.length .non ce1 Q) (fun d ce1 => WFin ce.length d ce1 Q) (fun _ _ => False) (fun _ _ => False) fun x _ ce1 => E x (ce1.take ce.length)) : WE (F_mended [a0, a1] ce) Q E := run_ws rfl h
theorem cal_mended {P : Program} {w : World} {K : PySem.W.Frag} {mg : Str → Option Value} {base : Heap} {f : Addr} {fd : FuncData} (F : Fun K "mended" "mended" s_mended f fd) (hm : mg "mended" = some (.ref f)) (z_enumerate : mg "enumerate" = none) (z_int : mg "int" = none) : Cal P w K mg base 1 "mended" 2 F_mended := by
  refine cal_mk (g := G_mended) (ps := ["row", "works"]) (N := ["row", "works", "found", "changes", "place", "sign", "work", "new"]) F hm sc_mended (fun _ _ _ _ _ _ us hl => match us, hl with | [_, _], _ => rfl) fun cdv A outer s H E hr => ?_
  exact (js_cons (js_multi rfl (ja_cons (je_str [] (by decide +kernel) (by decide +kernel)) (ja_cons je_int ja_nil (by rfl)) (by rfl)) (jgs_cons 2 sc_mended.nd rfl (Or.inl rfl) (Or.inl rfl) (jgs_cons 3 sc_mended.nd rfl (Or.inl rfl) (Or.inl rfl) jgs_nil rfl) rfl) rfl (by decide) rfl (by rfl) (by rfl) (by rfl)) (js_cons (js_for (passes_of rfl) rfl (ji_enum (by rfl) z_enumerate (ja_cons (je_var 0 rfl (Or.inl rfl) (by decide) (by decide)) ja_nil (by rfl)) (by rfl)) (jg_tup rfl (jgs_cons 4 sc_mended.nd rfl (Or.inl rfl) (Or.inl rfl) (jgs_cons 5 sc_mended.nd rfl (Or.inl rfl) (Or.inl rfl) jgs_nil rfl) rfl) rfl rfl) (js_cons (js_set 6 sc_mended.nd rfl (Or.inl rfl) (je_ix ij_ix (je_var 1 rfl (Or.inl rfl) (by decide) (by decide)) (je_var 4 rfl (Or.inl rfl) (by decide) (by decide)) (fun _ _ => rfl)) (by rfl) (Or.inl rfl)) (js_cons (js_if (jt_cmp oj_notin (je_var 6 rfl (Or.inl rfl) (by decide) (by decide)) (je_sl (je_var 1 rfl (Or.inl rfl) (by decide) (by decide)) jo_none (jo_some (je_var 4 rfl (Or.inl rfl) (by decide) (by decide)))) (by rfl)) (js_one (js_set 7 sc_mended.nd rfl (Or.inl rfl) (je_var 6 rfl (Or.inl rfl) (by decide) (by decide)) (by rfl) (Or.inl rfl))) (js_one (js_if (jw_pt (jw_and (jt_cmp (oj_eq hr.units) (je_var 5 rfl (Or.inl rfl) (by decide) (by decide)) (je_str [45] (by decide +kernel) (by decide +kernel)) (nomark _)) (jw_and1 (jt_cmp (oj_ne hr.units) (je_ix ij_ix (je_var 1 rfl (Or.inl rfl) (by decide) (by decide)) (je_bin oj_sub (je_var 4 rfl (Or.inl rfl) (by decide) (by decide)) je_int) (fun _ _ => rfl)) (je_var 6 rfl (Or.inl rfl) (by decide) (by decide)) (nomark _))))) (js_one (js_set 7 sc_mended.nd rfl (Or.inl rfl) (je_meth0 PySem.F.plainAttrs_str PySem.F.slot_str_lower PySem.F.type_str_lower mj_lower (je_var 6 rfl (Or.inl rfl) (by decide) (by decide)) (by rfl) (by rfl)) (by rfl) (Or.inl rfl))) (js_one (js_set 7 sc_mended.nd rfl (Or.inl rfl) (je_var 5 rfl (Or.inl rfl) (by decide) (by decide)) (by rfl) (Or.inl rfl)))))) (js_cons (js_aug 3 sc_mended.nd rfl (Or.inl rfl) (je_callTy cj_int (by rfl) z_int (by decide +kernel) (ja_cons (je_cmp (oj_ne hr.units) (je_var 7 rfl (Or.inl rfl) (by decide) (by decide)) (je_var 5 rfl (Or.inl rfl) (by decide) (by decide)) (nomark _)) ja_nil (by rfl)) (by decide) (by decide) (by rfl) (by rfl)) oj_iadd (Or.inl rfl)) (js_one (js_set 2 sc_mended.nd rfl (Or.inl rfl) (je_bin oj_add (je_var 2 rfl (Or.inl rfl) (by decide) (by decide)) (je_var 7 rfl (Or.inl rfl) (by decide) (by decide))) (by rfl) (Or.inl rfl)))))) (fun _ => rfl)) (js_one (js_ret (je_tup (ja_cons (je_var 2 rfl (Or.inl rfl) (by decide) (by decide)) (ja_cons (je_var 3 rfl (Or.inl rfl) (by decide) (by decide)) ja_nil (by rfl)) (by rfl)))))))

abbrev s_in_order : Stmt := topS 52
theorem sc_in_order : FnScope ["row", "order", "works", "place"] ["row", "order"] (defScope s_in_order) := ⟨rfl, rfl, rfl, by decide +kernel, rfl, by decide +kernel, by decide +kernel⟩
def G_in_order : SDen := (sSeq (sSet 2 (eFn F_works_of (aCons (eVar 0) aNil))) (sRet (eTup (aCons (eFn F_moved (aCons (eVar 0) (aCons (eVar 1) aNil))) (aCons (eMethR "str" dJoin (eC (.str [])) (aCons (eComp (eIter (eVar 1)) [3] (gN 3) ttYes (eBin dIx (eVar 2) (eVar 3))) aNil)) aNil)))))
def F_in_order : FDen := runF 2 4 G_in_order
theorem w_in_order {a0 a1 : D} {ce : Cells} {Q : D → Cells → Prop} {E : Str → Cells → Prop} (h : WS ((sSeq (sSet 2 (eFn F_works_of (aCons (eVar 0) aNil))) (sRet (eTup (aCons (eFn F_moved (aCons (eVar 0) (aCons (eVar 1) aNil))) (aCons (eMethR "str" dJoin (eC (.str [])) (aCons (eComp (eIter (eVar 1)) [3] (gN 3) ttYes (eBin dIx (eVar 2) (eVar 3))) aNil)) aNil))))) [some a0, some a1, none, none] ce) (fun _ ce1 => WFin ce.length .non ce1 Q) (fun d ce1 => WFin ce.length d ce1 Q) (fun _ _ => False) (fun _ _ => False) fun x _ ce1 => E x (ce1.take ce.length)) : WE (F_in_order [a0, a1] ce) Q E := run_ws rfl h
theorem cal_in_order {P : Program} {w : World} {K : PySem.W.Frag} {mg : Str → Option Value} {base : Heap} {f : Addr} {fd : FuncData} (F : Fun K "in_order" "in_order" s_in_order f fd) (hm : mg "in_order" = some (.ref f)) (c_works_of : Cal P w K mg base 1 "works_of" 1 F_works_of) (c_moved : Cal P w K mg base 1 "moved" 2 F_moved) : Cal P w K mg base 2 "in_order" 2 F_in_order := by
  refine cal_mk (g := G_in_order) (ps := ["row", "order"]) (N := ["row", "order", "works", "place"]) F hm sc_in_order (fun _ _ _ _ _ _ us hl => match us, hl with | [_, _], _ => rfl) fun cdv A outer s H E hr => ?_
  exact (js_cons (js_set 2 sc_in_order.nd rfl (Or.inr rfl) (je_cal (L2N.takes_of rfl rfl rfl rfl) c_works_of rfl (hr.mono (by omega)) (by rfl) (ja_cons (je_var 0 rfl (Or.inl rfl) (by decide) (by decide)) ja_nil (by rfl)) (ga_cons ga_nil) (by decide) (by rfl) (by rfl)) (by rfl) (Or.inl rfl)) (js_one (js_ret (je_tup (ja_cons (je_cal (L2N.takes_of rfl rfl rfl rfl) c_moved rfl (hr.mono (by omega)) (by rfl) (ja_cons (je_var 0 rfl (Or.inl rfl) (by decide) (by decide)) (ja_cons (je_var 1 rfl (Or.inl rfl) (by decide) (by decide)) ja_nil (by rfl)) (by rfl)) (ga_cons (ga_cons ga_nil)) (by decide) (by rfl) (by rfl)) (ja_cons (je_methR PySem.F.plainAttrs_str PySem.F.slot_str_join PySem.F.type_str_join mj_join (je_str [] (by decide +kernel) (by decide +kernel)) (ja_cons (je_comp rfl sc_in_order.nd (ji_val (je_var 1 rfl (Or.inl rfl) (by decide) (by decide))) (blkOk_by (own := [("place", 3)]) (N := ["row", "order", "works", "place"]) (sc := defScope s_in_order) (by decide +kernel)) rfl (fun _ _ _ _ _ => (jg_name 3 sc_in_order.nd rfl (Or.inl rfl) (Or.inr rfl))) (fun _ _ _ _ _ => jts_nil) (fun _ _ _ _ _ => (je_ix ij_ix (je_var 2 rfl (Or.inr (Or.inl rfl)) (by decide) (by decide)) (je_var 3 rfl (Or.inl rfl) (by decide) (by decide)) (fun _ _ => rfl))) (fun _ => rfl)) ja_nil (by rfl)) (by rfl) (by rfl) (by rfl) (by rfl) (by rfl)) ja_nil (by rfl)) (by rfl))))))

abbrev s_need_order : Stmt := topS 53
theorem sc_need_order : FnScope ["row", "order"] ["row", "order"] (defScope s_need_order) := ⟨rfl, rfl, rfl, by decide +kernel, rfl, by decide +kernel, by decide +kernel⟩
def G_need_order : SDen := (sSeq (sExpr (eFn F_need_right (aCons (eVar 0) aNil))) (sIf (tNotD (tOf (eFn F_good_order (aCons (eVar 0) (aCons (eVar 1) aNil))))) sNever sNil))
def F_need_order : FDen := runF 2 2 G_need_order
theorem w_need_order {a0 a1 : D} {ce : Cells} {Q : D → Cells → Prop} {E : Str → Cells → Prop} (h : WS ((sSeq (sExpr (eFn F_need_right (aCons (eVar 0) aNil))) (sIf (tNotD (tOf (eFn F_good_order (aCons (eVar 0) (aCons (eVar 1) aNil))))) sNever sNil)) [some a0, some a1] ce) (fun _ ce1 => WFin ce.length .non ce1 Q) (fun d ce1 => WFin ce.length d ce1 Q) (fun _ _ => False) (fun _ _ => False) fun x _ ce1 => E x (ce1.take ce.length)) : WE (F_need_order [a0, a1] ce) Q E := run_ws rfl h
theorem cal_need_order {P : Program} {w : World} {K : PySem.W.Frag} {mg : Str → Option Value} {base : Heap} {f : Addr} {fd : FuncData} (F : Fun K "need_order" "need_order" s_need_order f fd) (hm : mg "need_order" = some (.ref f)) (c_need_right : Cal P w K mg base 3 "need_right" 1 F_need_right) (c_good_order : Cal P w K mg base 2 "good_order" 2 F_good_order) : Cal P w K mg base 4 "need_order" 2 F_need_order := by
  refine cal_mk (g := G_need_order) (ps := ["row", "order"]) (N := ["row", "order"]) F hm sc_need_order (fun _ _ _ _ _ _ us hl => match us, hl with | [_, _], _ => rfl) fun cdv A outer s H E hr => ?_
  exact (js_cons (js_expr (je_cal (L2N.takes_of rfl rfl rfl rfl) c_need_right rfl (hr.mono (by omega)) (by rfl) (ja_cons (je_var 0 rfl (Or.inl rfl) (by decide) (by decide)) ja_nil (by rfl)) (ga_cons ga_nil) (by decide) (by rfl) (by rfl)) (by rfl)) (js_one (js_if (jt_not (jt_val (je_cal (L2N.takes_of rfl rfl rfl rfl) c_good_order rfl (hr.mono (by omega)) (by rfl) (ja_cons (je_var 0 rfl (Or.inl rfl) (by decide) (by decide)) (ja_cons (je_var 1 rfl (Or.inl rfl) (by decide) (by decide)) ja_nil (by rfl)) (by rfl)) (ga_cons (ga_cons ga_nil)) (by decide) (by rfl) (by rfl)) (fun _ => rfl))) (js_one js_never) js_nil)))

abbrev s_fewest_rewritten : Stmt := topS 54
theorem sc_fewest_rewritten : FnScope ["row", "order", "other", "works"] ["row", "order"] (defScope s_fewest_rewritten) := ⟨rfl, rfl, rfl, by decide +kernel, rfl, by decide +kernel, by decide +kernel⟩
def G_fewest_rewritten : SDen := (sSeq (sExpr (eFn F_need_order (aCons (eVar 0) (aCons (eVar 1) aNil)))) (sSeq (sAsg (gT (gsN [2, 3]) 2) (eFn F_in_order (aCons (eVar 0) (aCons (eVar 1) aNil)))) (sRet (eBin dIx (eFn F_mended (aCons (eVar 2) (aCons (eVar 3) aNil))) (eC (.int 1))))))
def F_fewest_rewritten : FDen := runF 2 4 G_fewest_rewritten
theorem w_fewest_rewritten {a0 a1 : D} {ce : Cells} {Q : D → Cells → Prop} {E : Str → Cells → Prop} (h : WS ((sSeq (sExpr (eFn F_need_order (aCons (eVar 0) (aCons (eVar 1) aNil)))) (sSeq (sAsg (gT (gsN [2, 3]) 2) (eFn F_in_order (aCons (eVar 0) (aCons (eVar 1) aNil)))) (sRet (eBin dIx (eFn F_mended (aCons (eVar 2) (aCons (eVar 3) aNil))) (eC (.int 1)))))) [some a0, some a1, none, none] ce) (fun _ ce1 => WFin ce.length .non ce1 Q) (fun d ce1 => WFin ce.length d ce1 Q) (fun _ _ => False) (fun _ _ => False) fun x _ ce1 => E x (ce1.take ce.length)) : WE (F_fewest_rewritten [a0, a1] ce) Q E := run_ws rfl h
theorem cal_fewest_rewritten {P : Program} {w : World} {K : PySem.W.Frag} {mg : Str → Option Value} {base : Heap} {f : Addr} {fd : FuncData} (F : Fun K "fewest_rewritten" "fewest_rewritten" s_fewest_rewritten f fd) (hm : mg "fewest_rewritten" = some (.ref f)) (c_need_order : Cal P w K mg base 4 "need_order" 2 F_need_order) (c_in_order : Cal P w K mg base 2 "in_order" 2 F_in_order) (c_mended : Cal P w K mg base 1 "mended" 2 F_mended) : Cal P w K mg base 5 "fewest_rewritten" 2 F_fewest_rewritten := by
  refine cal_mk (g := G_fewest_rewritten) (ps := ["row", "order"]) (N := ["row", "order", "other", "works"]) F hm sc_fewest_rewritten (fun _ _ _ _ _ _ us hl => match us, hl with | [_, _], _ => rfl) fun cdv A outer s H E hr => ?_
  exact (js_cons (js_expr (je_cal (L2N.takes_of rfl rfl rfl rfl) c_need_order rfl (hr.mono (by omega)) (by rfl) (ja_cons (je_var 0 rfl (Or.inl rfl) (by decide) (by decide)) (ja_cons (je_var 1 rfl (Or.inl rfl) (by decide) (by decide)) ja_nil (by rfl)) (by rfl)) (ga_cons (ga_cons ga_nil)) (by decide) (by rfl) (by rfl)) (by rfl)) (js_cons (js_asg (je_cal (L2N.takes_of rfl rfl rfl rfl) c_in_order rfl (hr.mono (by omega)) (by rfl) (ja_cons (je_var 0 rfl (Or.inl rfl) (by decide) (by decide)) (ja_cons (je_var 1 rfl (Or.inl rfl) (by decide) (by decide)) ja_nil (by rfl)) (by rfl)) (ga_cons (ga_cons ga_nil)) (by decide) (by rfl) (by rfl)) (jg_tup rfl (jgs_cons 2 sc_fewest_rewritten.nd rfl (Or.inl rfl) (Or.inl rfl) (jgs_cons 3 sc_fewest_rewritten.nd rfl (Or.inl rfl) (Or.inl rfl) jgs_nil rfl) rfl) rfl rfl) (by rfl) (by rfl) (by rfl)) (js_one (js_ret (je_ix ij_ix (je_cal (L2N.takes_of rfl rfl rfl rfl) c_mended rfl (hr.mono (by omega)) (by rfl) (ja_cons (je_var 2 rfl (Or.inl rfl) (by decide) (by decide)) (ja_cons (je_var 3 rfl (Or.inl rfl) (by decide) (by decide)) ja_nil (by rfl)) (by rfl)) (ga_cons (ga_cons ga_nil)) (by decide) (by rfl) (by rfl)) je_int (fun _ _ => rfl))))))

abbrev s_rewritten : Stmt := topS 55
theorem sc_rewritten : FnScope ["row", "order", "other", "works"] ["row", "order"] (defScope s_rewritten) := ⟨rfl, rfl, rfl, by decide +kernel, rfl, by decide +kernel, by decide +kernel⟩
def G_rewritten : SDen := (sSeq (sExpr (eFn F_need_order (aCons (eVar 0) (aCons (eVar 1) aNil)))) (sSeq (sAsg (gT (gsN [2, 3]) 2) (eFn F_in_order (aCons (eVar 0) (aCons (eVar 1) aNil)))) (sRet (eBin dIx (eFn F_mended (aCons (eVar 2) (aCons (eVar 3) aNil))) (eC (.int 0))))))
def F_rewritten : FDen := runF 2 4 G_rewritten
theorem w_rewritten {a0 a1 : D} {ce : Cells} {Q : D → Cells → Prop} {E : Str → Cells → Prop} (h : WS ((sSeq (sExpr (eFn F_need_order (aCons (eVar 0) (aCons (eVar 1) aNil)))) (sSeq (sAsg (gT (gsN [2, 3]) 2) (eFn F_in_order (aCons (eVar 0) (aCons (eVar 1) aNil)))) (sRet (eBin dIx (eFn F_mended (aCons (eVar 2) (aCons (eVar 3) aNil))) (eC (.int 0)))))) [some a0, some a1, none, none] ce) (fun _ ce1 => WFin ce.length .non ce1 Q) (fun d ce1 => WFin ce.length d ce1 Q) (fun _ _ => False) (fun _ _ => False) fun x _ ce1 => E x (ce1.take ce.length)) : WE (F_rewritten [a0, a1] ce) Q E := run_ws rfl h
theorem cal_rewritten {P : Program} {w : World} {K : PySem.W.Frag} {mg : Str → Option Value} {base : Heap} {f : Addr} {fd : FuncData} (F : Fun K "rewritten" "rewritten" s_rewritten f fd) (hm : mg "rewritten" = some (.ref f)) (c_need_order : Cal P w K mg base 4 "need_order" 2 F_need_order) (c_in_order : Cal P w K mg base 2 "in_order" 2 F_in_order) (c_mended : Cal P w K mg base 1 "mended" 2 F_mended) : Cal P w K mg base 5 "rewritten" 2 F_rewritten := by
  refine cal_mk (g := G_rewritten) (ps := ["row", "order"]) (N := ["row", "order", "other", "works"]) F hm sc_rewritten (fun _ _ _ _ _ _ us hl => match us, hl with | [_, _], _ => rfl) fun cdv A outer s H E hr => ?_
  exact (js_cons (js_expr (je_cal (L2N.takes_of rfl rfl rfl rfl) c_need_order rfl (hr.mono (by omega)) (by rfl) (ja_cons (je_var 0 rfl (Or.inl rfl) (by decide) (by decide)) (ja_cons (je_var 1 rfl (Or.inl rfl) (by decide) (by decide)) ja_nil (by rfl)) (by rfl)) (ga_cons (ga_cons ga_nil)) (by decide) (by rfl) (by rfl)) (by rfl)) (js_cons (js_asg (je_cal (L2N.takes_of rfl rfl rfl rfl) c_in_order rfl (hr.mono (by omega)) (by rfl) (ja_cons (je_var 0 rfl (Or.inl rfl) (by decide) (by decide)) (ja_cons (je_var 1 rfl (Or.inl rfl) (by decide) (by decide)) ja_nil (by rfl)) (by rfl)) (ga_cons (ga_cons ga_nil)) (by decide) (by rfl) (by rfl)) (jg_tup rfl (jgs_cons 2 sc_rewritten.nd rfl (Or.inl rfl) (Or.inl rfl) (jgs_cons 3 sc_rewritten.nd rfl (Or.inl rfl) (Or.inl rfl) jgs_nil rfl) rfl) rfl rfl) (by rfl) (by rfl) (by rfl)) (js_one (js_ret (je_ix ij_ix (je_cal (L2N.takes_of rfl rfl rfl rfl) c_mended rfl (hr.mono (by omega)) (by rfl) (ja_cons (je_var 2 rfl (Or.inl rfl) (by decide) (by decide)) (ja_cons (je_var 3 rfl (Or.inl rfl) (by decide) (by decide)) ja_nil (by rfl)) (by rfl)) (ga_cons (ga_cons ga_nil)) (by decide) (by rfl) (by rfl)) je_int (fun _ _ => rfl))))))

abbrev s_need_size : Stmt := topS 66
theorem sc_need_size : FnScope ["row", "size"] ["row", "size"] (defScope s_need_size) := ⟨rfl, rfl, rfl, by decide +kernel, rfl, by decide +kernel, by decide +kernel⟩
def G_need_size : SDen := (sSeq (sExpr (eFn F_need_right (aCons (eVar 0) aNil))) (sIf (tNotD (tOf (eFn F_is_from (aCons (eVar 1) (aCons (eC (.int 1)) (aCons (eC (.int 30)) aNil)))))) sNever sNil))
def F_need_size : FDen := runF 2 2 G_need_size
theorem w_need_size {a0 a1 : D} {ce : Cells} {Q : D → Cells → Prop} {E : Str → Cells → Prop} (h : WS ((sSeq (sExpr (eFn F_need_right (aCons (eVar 0) aNil))) (sIf (tNotD (tOf (eFn F_is_from (aCons (eVar 1) (aCons (eC (.int 1)) (aCons (eC (.int 30)) aNil)))))) sNever sNil)) [some a0, some a1] ce) (fun _ ce1 => WFin ce.length .non ce1 Q) (fun d ce1 => WFin ce.length d ce1 Q) (fun _ _ => False) (fun _ _ => False) fun x _ ce1 => E x (ce1.take ce.length)) : WE (F_need_size [a0, a1] ce) Q E := run_ws rfl h
theorem cal_need_size {P : Program} {w : World} {K : PySem.W.Frag} {mg : Str → Option Value} {base : Heap} {f : Addr} {fd : FuncData} (F : Fun K "need_size" "need_size" s_need_size f fd) (hm : mg "need_size" = some (.ref f)) {u_MOST_NOTES : Value} (m_MOST_NOTES : mg "MOST_NOTES" = some u_MOST_NOTES) (r_MOST_NOTES : RelV (.int 30) u_MOST_NOTES) (c_need_right : Cal P w K mg base 3 "need_right" 1 F_need_right) (c_is_from : Cal P w K mg base 1 "is_from" 3 F_is_from) : Cal P w K mg base 4 "need_size" 2 F_need_size := by
  refine cal_mk (g := G_need_size) (ps := ["row", "size"]) (N := ["row", "size"]) F hm sc_need_size (fun _ _ _ _ _ _ us hl => match us, hl with | [_, _], _ => rfl) fun cdv A outer s H E hr => ?_
  exact (js_cons (js_expr (je_cal (L2N.takes_of rfl rfl rfl rfl) c_need_right rfl (hr.mono (by omega)) (by rfl) (ja_cons (je_var 0 rfl (Or.inl rfl) (by decide) (by decide)) ja_nil (by rfl)) (ga_cons ga_nil) (by decide) (by rfl) (by rfl)) (by rfl)) (js_one (js_if (jt_not (jt_val (je_cal (L2N.takes_of rfl rfl rfl rfl) c_is_from rfl (hr.mono (by omega)) (by rfl) (ja_cons (je_var 1 rfl (Or.inl rfl) (by decide) (by decide)) (ja_cons je_int (ja_cons (je_glC (d := .int 30) (by rfl) m_MOST_NOTES r_MOST_NOTES (by decide) (fun _ _ => repT_int.mpr rfl)) ja_nil (by rfl)) (by rfl)) (by rfl)) (ga_cons (ga_cons (ga_cons ga_nil))) (by decide) (by rfl) (by rfl)) (fun _ => rfl))) (js_one js_never) js_nil)))

abbrev s_page_counts : Stmt := topS 67
theorem sc_page_counts : FnScope ["row", "size", "found", "start", "stop"] ["row", "size"] (defScope s_page_counts) := ⟨rfl, rfl, rfl, by decide +kernel, rfl, by decide +kernel, by decide +kernel⟩
def G_page_counts : SDen := (sSeq (sSet 2 (eDisp1 (eCall dLen (aCons (eVar 0) aNil)) (eC (.int 1)))) (sSeq (sFor (eSrc srcRange3 (aCons (eBin dSub (eCall dLen (aCons (eVar 0) aNil)) (eC (.int 1))) (aCons (eUn dNeg (eC (.int 1))) (aCons (eUn dNeg (eC (.int 1))) aNil)))) (gN 3) (sSeq (sDPut (eVar 2) (eVar 3) (eC (.int 0))) (sFor (eSrc srcRange2 (aCons (eBin dAdd (eVar 3) (eC (.int 1))) (aCons (eBin dAdd (eCall dMin2 (aCons (eCall dLen (aCons (eVar 0) aNil)) (aCons (eBin dAdd (eVar 3) (eVar 1)) aNil))) (eC (.int 1))) aNil))) (gN 4) (sIf (tOrD (tOf (eBin dEq (eVar 4) (eCall dLen (aCons (eVar 0) aNil)))) (tOf (eBin dNe (eBin dIx (eVar 0) (eVar 4)) (eC (.str [45]))))) (sDInc (eVar 2) (eVar 3) (eBin dDGet (eVar 2) (eVar 4))) sNil)))) (sRetF (eVar 2))))
def F_page_counts : FDen := runF 2 5 G_page_counts
theorem w_page_counts {a0 a1 : D} {ce : Cells} {Q : D → Cells → Prop} {E : Str → Cells → Prop} (h : WS ((sSeq (sSet 2 (eDisp1 (eCall dLen (aCons (eVar 0) aNil)) (eC (.int 1)))) (sSeq (sFor (eSrc srcRange3 (aCons (eBin dSub (eCall dLen (aCons (eVar 0) aNil)) (eC (.int 1))) (aCons (eUn dNeg (eC (.int 1))) (aCons (eUn dNeg (eC (.int 1))) aNil)))) (gN 3) (sSeq (sDPut (eVar 2) (eVar 3) (eC (.int 0))) (sFor (eSrc srcRange2 (aCons (eBin dAdd (eVar 3) (eC (.int 1))) (aCons (eBin dAdd (eCall dMin2 (aCons (eCall dLen (aCons (eVar 0) aNil)) (aCons (eBin dAdd (eVar 3) (eVar 1)) aNil))) (eC (.int 1))) aNil))) (gN 4) (sIf (tOrD (tOf (eBin dEq (eVar 4) (eCall dLen (aCons (eVar 0) aNil)))) (tOf (eBin dNe (eBin dIx (eVar 0) (eVar 4)) (eC (.str [45]))))) (sDInc (eVar 2) (eVar 3) (eBin dDGet (eVar 2) (eVar 4))) sNil)))) (sRetF (eVar 2)))) [some a0, some a1, none, none, none] ce) (fun _ ce1 => WFin ce.length .non ce1 Q) (fun d ce1 => WFin ce.length d ce1 Q) (fun _ _ => False) (fun _ _ => False) fun x _ ce1 => E x (ce1.take ce.length)) : WE (F_page_counts [a0, a1] ce) Q E := run_ws rfl h
theorem cal_page_counts {P : Program} {w : World} {K : PySem.W.Frag} {mg : Str → Option Value} {base : Heap} {f : Addr} {fd : FuncData} (F : Fun K "page_counts" "page_counts" s_page_counts f fd) (hm : mg "page_counts" = some (.ref f)) (z_len : mg "len" = none) (z_min : mg "min" = none) (z_range : mg "range" = none) : Cal P w K mg base 1 "page_counts" 2 F_page_counts := by
  refine cal_mk (g := G_page_counts) (ps := ["row", "size"]) (N := ["row", "size", "found", "start", "stop"]) F hm sc_page_counts (fun _ _ _ _ _ _ us hl => match us, hl with | [_, _], _ => rfl) fun cdv A outer s H E hr => ?_
  exact (js_cons (js_set 2 sc_page_counts.nd rfl (Or.inl rfl) (je_disp1 (je_callB cj_len (by rfl) z_len (by decide +kernel) (ja_cons (je_var 0 rfl (Or.inl rfl) (by decide) (by decide)) ja_nil (by rfl)) (by decide) (by decide) (by rfl) (by rfl)) je_int) (by rfl) (Or.inl rfl)) (js_cons (js_for (passes_of rfl) rfl (ji_range3 (by rfl) z_range (ja_cons (je_bin oj_sub (je_callB cj_len (by rfl) z_len (by decide +kernel) (ja_cons (je_var 0 rfl (Or.inl rfl) (by decide) (by decide)) ja_nil (by rfl)) (by decide) (by decide) (by rfl) (by rfl)) je_int) (ja_cons (je_un uj_neg je_int) (ja_cons (je_un uj_neg je_int) ja_nil (by rfl)) (by rfl)) (by rfl)) (by rfl) (by rfl)) (jg_name 3 sc_page_counts.nd rfl (Or.inl rfl) (Or.inl rfl)) (js_cons (js_dput (hu1 hr.units) (je_var 2 rfl (Or.inl rfl) (by decide) (by decide)) (je_var 3 rfl (Or.inl rfl) (by decide) (by decide)) je_int (by rfl)) (js_one (js_for (passes_of rfl) rfl (ji_range2 (by rfl) z_range (ja_cons (je_bin oj_add (je_var 3 rfl (Or.inl rfl) (by decide) (by decide)) je_int) (ja_cons (je_bin oj_add (je_callB (cj_min2 rfl) (by rfl) z_min (by decide +kernel) (ja_cons (je_callB cj_len (by rfl) z_len (by decide +kernel) (ja_cons (je_var 0 rfl (Or.inl rfl) (by decide) (by decide)) ja_nil (by rfl)) (by decide) (by decide) (by rfl) (by rfl)) (ja_cons (je_bin oj_add (je_var 3 rfl (Or.inl rfl) (by decide) (by decide)) (je_var 1 rfl (Or.inl rfl) (by decide) (by decide))) ja_nil (by rfl)) (by rfl)) (by decide) (by decide) (by rfl) (by rfl)) je_int) ja_nil (by rfl)) (by rfl)) (by rfl) (by rfl)) (jg_name 4 sc_page_counts.nd rfl (Or.inl rfl) (Or.inl rfl)) (js_one (js_if (jw_pt (jw_or (jt_cmp (oj_eq hr.units) (je_var 4 rfl (Or.inl rfl) (by decide) (by decide)) (je_callB cj_len (by rfl) z_len (by decide +kernel) (ja_cons (je_var 0 rfl (Or.inl rfl) (by decide) (by decide)) ja_nil (by rfl)) (by decide) (by decide) (by rfl) (by rfl)) (nomark _)) (jw_or1 (jt_cmp (oj_ne hr.units) (je_ix ij_ix (je_var 0 rfl (Or.inl rfl) (by decide) (by decide)) (je_var 4 rfl (Or.inl rfl) (by decide) (by decide)) (fun _ _ => rfl)) (je_str [45] (by decide +kernel) (by decide +kernel)) (nomark _))))) (js_one (js_dinc (hu1 hr.units) (je_var 2 rfl (Or.inl rfl) (by decide) (by decide)) (je_var 3 rfl (Or.inl rfl) (by decide) (by decide)) (je_dget (hu1 hr.units) (je_var 2 rfl (Or.inl rfl) (by decide) (by decide)) (je_var 4 rfl (Or.inl rfl) (by decide) (by decide)) (fun _ _ => rfl)) (fun _ _ _ => rfl))) js_nil)) (fun _ => rfl)))) (fun _ => rfl)) (js_one (js_retF (je_var 2 rfl (Or.inl rfl) (by decide) (by decide))))))

abbrev s_count_pages : Stmt := topS 68
theorem sc_count_pages : FnScope ["row", "size"] ["row", "size"] (defScope s_count_pages) := ⟨rfl, rfl, rfl, by decide +kernel, rfl, by decide +kernel, by decide +kernel⟩
def G_count_pages : SDen := (sSeq (sExpr (eFn F_need_size (aCons (eVar 0) (aCons (eVar 1) aNil)))) (sRet (eBin dDGet (eFn F_page_counts (aCons (eVar 0) (aCons (eVar 1) aNil))) (eC (.int 0)))))
def F_count_pages : FDen := runF 2 2 G_count_pages
theorem w_count_pages {a0 a1 : D} {ce : Cells} {Q : D → Cells → Prop} {E : Str → Cells → Prop} (h : WS ((sSeq (sExpr (eFn F_need_size (aCons (eVar 0) (aCons (eVar 1) aNil)))) (sRet (eBin dDGet (eFn F_page_counts (aCons (eVar 0) (aCons (eVar 1) aNil))) (eC (.int 0))))) [some a0, some a1] ce) (fun _ ce1 => WFin ce.length .non ce1 Q) (fun d ce1 => WFin ce.length d ce1 Q) (fun _ _ => False) (fun _ _ => False) fun x _ ce1 => E x (ce1.take ce.length)) : WE (F_count_pages [a0, a1] ce) Q E := run_ws rfl h
theorem cal_count_pages {P : Program} {w : World} {K : PySem.W.Frag} {mg : Str → Option Value} {base : Heap} {f : Addr} {fd : FuncData} (F : Fun K "count_pages" "count_pages" s_count_pages f fd) (hm : mg "count_pages" = some (.ref f)) (c_need_size : Cal P w K mg base 4 "need_size" 2 F_need_size) (c_page_counts : Cal P w K mg base 1 "page_counts" 2 F_page_counts) : Cal P w K mg base 5 "count_pages" 2 F_count_pages := by
  refine cal_mk (g := G_count_pages) (ps := ["row", "size"]) (N := ["row", "size"]) F hm sc_count_pages (fun _ _ _ _ _ _ us hl => match us, hl with | [_, _], _ => rfl) fun cdv A outer s H E hr => ?_
  exact (js_cons (js_expr (je_cal (L2N.takes_of rfl rfl rfl rfl) c_need_size rfl (hr.mono (by omega)) (by rfl) (ja_cons (je_var 0 rfl (Or.inl rfl) (by decide) (by decide)) (ja_cons (je_var 1 rfl (Or.inl rfl) (by decide) (by decide)) ja_nil (by rfl)) (by rfl)) (ga_cons (ga_cons ga_nil)) (by decide) (by rfl) (by rfl)) (by rfl)) (js_one (js_ret (je_dget (hu1 hr.units) (je_cal (L2N.takes_of rfl rfl rfl rfl) c_page_counts rfl (hr.mono (by omega)) (by rfl) (ja_cons (je_var 0 rfl (Or.inl rfl) (by decide) (by decide)) (ja_cons (je_var 1 rfl (Or.inl rfl) (by decide) (by decide)) ja_nil (by rfl)) (by rfl)) (ga_cons (ga_cons ga_nil)) (by decide) (by rfl) (by rfl)) je_int (fun _ _ => rfl)))))

abbrev s_page_starts : Stmt := topS 69
theorem sc_page_starts : FnScope ["row", "size", "found", "start", "stops", "stop"] ["row", "size"] (defScope s_page_starts) := ⟨rfl, rfl, rfl, by decide +kernel, rfl, by decide +kernel, by decide +kernel⟩
def G_page_starts : SDen := (sSeq (sExpr (eFn F_need_size (aCons (eVar 0) (aCons (eVar 1) aNil)))) (sSeq (sIf (tOf (eBin dEq (eBin dDGet (eFn F_page_counts (aCons (eVar 0) (aCons (eVar 1) aNil))) (eC (.int 0))) (eC (.int 0)))) (sRaise "NotPossible") sNil) (sSeq (sMulti [2, 3] (aCons (eLstC aNil) (aCons (eC (.int 0)) aNil))) (sSeq (sWhile 200 (tOf (eBin dLt (eVar 3) (eCall dLen (aCons (eVar 0) aNil)))) (sSeq (sExpr (eAppend (eVar 2) (aCons (eVar 3) aNil))) (sSeq (sSet 4 (eLR lrTree (rg2 (eBin dAdd (eVar 3) (eC (.int 1))) (eBin dAdd (eCall dMin2 (aCons (eCall dLen (aCons (eVar 0) aNil)) (aCons (eBin dAdd (eVar 3) (eVar 1)) aNil))) (eC (.int 1)))))) (sSet 3 (eCall dMax1 (aCons (eComp (eIter (eVar 4)) [5] (gN 5) (tOrD (tOf (eBin dEq (eVar 5) (eCall dLen (aCons (eVar 0) aNil)))) (tOf (eBin dNe (eBin dIx (eVar 0) (eVar 5)) (eC (.str [45]))))) (eVar 5)) aNil)))))) (sRetF (eVar 2))))))
def F_page_starts : FDen := runF 2 6 G_page_starts
theorem w_page_starts {a0 a1 : D} {ce : Cells} {Q : D → Cells → Prop} {E : Str → Cells → Prop} (h : WS ((sSeq (sExpr (eFn F_need_size (aCons (eVar 0) (aCons (eVar 1) aNil)))) (sSeq (sIf (tOf (eBin dEq (eBin dDGet (eFn F_page_counts (aCons (eVar 0) (aCons (eVar 1) aNil))) (eC (.int 0))) (eC (.int 0)))) (sRaise "NotPossible") sNil) (sSeq (sMulti [2, 3] (aCons (eLstC aNil) (aCons (eC (.int 0)) aNil))) (sSeq (sWhile 200 (tOf (eBin dLt (eVar 3) (eCall dLen (aCons (eVar 0) aNil)))) (sSeq (sExpr (eAppend (eVar 2) (aCons (eVar 3) aNil))) (sSeq (sSet 4 (eLR lrTree (rg2 (eBin dAdd (eVar 3) (eC (.int 1))) (eBin dAdd (eCall dMin2 (aCons (eCall dLen (aCons (eVar 0) aNil)) (aCons (eBin dAdd (eVar 3) (eVar 1)) aNil))) (eC (.int 1)))))) (sSet 3 (eCall dMax1 (aCons (eComp (eIter (eVar 4)) [5] (gN 5) (tOrD (tOf (eBin dEq (eVar 5) (eCall dLen (aCons (eVar 0) aNil)))) (tOf (eBin dNe (eBin dIx (eVar 0) (eVar 5)) (eC (.str [45]))))) (eVar 5)) aNil)))))) (sRetF (eVar 2)))))) [some a0, some a1, none, none, none, none] ce) (fun _ ce1 => WFin ce.length .non ce1 Q) (fun d ce1 => WFin ce.length d ce1 Q) (fun _ _ => False) (fun _ _ => False) fun x _ ce1 => E x (ce1.take ce.length)) : WE (F_page_starts [a0, a1] ce) Q E := run_ws rfl h
theorem cal_page_starts {P : Program} {w : World} {K : PySem.W.Frag} {mg : Str → Option Value} {base : Heap} {f : Addr} {fd : FuncData} (F : Fun K "page_starts" "page_starts" s_page_starts f fd) (hm : mg "page_starts" = some (.ref f)) (z_len : mg "len" = none) (z_list : mg "list" = none) (z_max : mg "max" = none) (z_min : mg "min" = none) (z_range : mg "range" = none) {C_NotPossible : Addr} (r_NotPossible : ClsR K mg "NotPossible" C_NotPossible) (c_need_size : Cal P w K mg base 4 "need_size" 2 F_need_size) (c_page_counts : Cal P w K mg base 1 "page_counts" 2 F_page_counts) : Cal P w K mg base 5 "page_starts" 2 F_page_starts := by
  refine cal_mk (g := G_page_starts) (ps := ["row", "size"]) (N := ["row", "size", "found", "start", "stops", "stop"]) F hm sc_page_starts (fun _ _ _ _ _ _ us hl => match us, hl with | [_, _], _ => rfl) fun cdv A outer s H E hr => ?_
  exact (js_cons (js_expr (je_cal (L2N.takes_of rfl rfl rfl rfl) c_need_size rfl (hr.mono (by omega)) (by rfl) (ja_cons (je_var 0 rfl (Or.inr (Or.inl rfl)) (by decide) (by decide)) (ja_cons (je_var 1 rfl (Or.inl rfl) (by decide) (by decide)) ja_nil (by rfl)) (by rfl)) (ga_cons (ga_cons ga_nil)) (by decide) (by rfl) (by rfl)) (by rfl)) (js_cons (js_if (jt_cmp (oj_eq hr.units) (je_dget (hu1 hr.units) (je_cal (L2N.takes_of rfl rfl rfl rfl) c_page_counts rfl (hr.mono (by omega)) (by rfl) (ja_cons (je_var 0 rfl (Or.inr (Or.inl rfl)) (by decide) (by decide)) (ja_cons (je_var 1 rfl (Or.inl rfl) (by decide) (by decide)) ja_nil (by rfl)) (by rfl)) (ga_cons (ga_cons ga_nil)) (by decide) (by rfl) (by rfl)) je_int (fun _ _ => rfl)) je_int (nomark _)) (js_one (js_raiseC r_NotPossible (by rfl) (L2N.takes_of rfl rfl rfl rfl) (by rfl) (by decide))) js_nil) (js_cons (js_par2 (i := 2) (j := 3) rfl sc_page_starts.nd rfl rfl (by decide) rfl rfl (ja_cons (je_lstC ja_nil) (ja_cons je_int ja_nil (by rfl)) (by rfl)) (by rfl) (by rfl)) (js_cons (js_while 200 (passes_of rfl) (jt_cmp oj_lt (je_var 3 rfl (Or.inl rfl) (by decide) (by decide)) (je_callB cj_len (by rfl) z_len (by decide +kernel) (ja_cons (je_var 0 rfl (Or.inr (Or.inl rfl)) (by decide) (by decide)) ja_nil (by rfl)) (by decide) (by decide) (by rfl) (by rfl)) (nomark _)) (js_cons (js_expr (je_append (je_var 2 rfl (Or.inl rfl) (by decide) (by decide)) (ja_cons (je_var 3 rfl (Or.inl rfl) (by decide) (by decide)) ja_nil (by rfl)) (by rfl) (by rfl) (by rfl) (by rfl) (by rfl)) (by rfl)) (js_cons (js_set 4 sc_page_starts.nd rfl (Or.inl rfl) (je_lr rfl (by rfl) z_list (jrg_2 (by rfl) z_range (je_bin oj_add (je_var 3 rfl (Or.inl rfl) (by decide) (by decide)) je_int) (je_bin oj_add (je_callB (cj_min2 rfl) (by rfl) z_min (by decide +kernel) (ja_cons (je_callB cj_len (by rfl) z_len (by decide +kernel) (ja_cons (je_var 0 rfl (Or.inr (Or.inl rfl)) (by decide) (by decide)) ja_nil (by rfl)) (by decide) (by decide) (by rfl) (by rfl)) (ja_cons (je_bin oj_add (je_var 3 rfl (Or.inl rfl) (by decide) (by decide)) (je_var 1 rfl (Or.inl rfl) (by decide) (by decide))) ja_nil (by rfl)) (by rfl)) (by decide) (by decide) (by rfl) (by rfl)) je_int) (by rfl) (by rfl) (by rfl)) (by rfl)) (by rfl) (Or.inl rfl)) (js_one (js_set 3 sc_page_starts.nd rfl (Or.inl rfl) (je_callB (cj_max1 rfl) (by rfl) z_max (by decide +kernel) (ja_cons (je_comp rfl sc_page_starts.nd (ji_val (je_var 4 rfl (Or.inl rfl) (by decide) (by decide))) (blkOk_by (own := [("stop", 5)]) (N := ["row", "size", "found", "start", "stops", "stop"]) (sc := defScope s_page_starts) (by decide +kernel)) rfl (fun _ _ _ _ _ => (jg_name 5 sc_page_starts.nd rfl (Or.inl rfl) (Or.inr rfl))) (fun _ _ _ _ _ => (jts_one (jw_pt (jw_or (jt_cmp (oj_eq hr.units) (je_var 5 rfl (Or.inl rfl) (by decide) (by decide)) (je_callB cj_len (by rfl) z_len (by decide +kernel) (ja_cons (je_var 0 rfl (Or.inr (Or.inl rfl)) (by decide) (by decide)) ja_nil (by rfl)) (by decide) (by decide) (by rfl) (by rfl)) (nomark _)) (jw_or1 (jt_cmp (oj_ne hr.units) (je_ix ij_ix (je_var 0 rfl (Or.inr (Or.inl rfl)) (by decide) (by decide)) (je_var 5 rfl (Or.inl rfl) (by decide) (by decide)) (fun _ _ => rfl)) (je_str [45] (by decide +kernel) (by decide +kernel)) (nomark _))))))) (fun _ _ _ _ _ => (je_var 5 rfl (Or.inl rfl) (by decide) (by decide))) (fun _ => rfl)) ja_nil (by rfl)) (by decide) (by decide) (by rfl) (by rfl)) (by rfl) (Or.inl rfl)))))) (js_one (js_retF (je_var 2 rfl (Or.inl rfl) (by decide) (by decide))))))))

abbrev s_is_pattern : Stmt := topS 57
theorem sc_is_pattern : FnScope ["value", "sign"] ["value"] (defScope s_is_pattern) := ⟨rfl, rfl, rfl, by decide +kernel, rfl, by decide +kernel, by decide +kernel⟩
def G_is_pattern : SDen := (sRet (eAnd (eCall dIsi (aCons (eVar 0) (aCons (eC (.ty "str")) aNil))) (eAnd (eBin dLe (eCall dLen (aCons (eVar 0) aNil)) (eC (.int 20))) (eCall dAll (aCons (eComp (eIter (eVar 0)) [1] (gN 1) ttYes (eOr (eBin dEq (eVar 1) (eC (.str [63]))) (eFn F_is_sign (aCons (eVar 1) aNil)))) aNil)))))
def F_is_pattern : FDen := runF 1 2 G_is_pattern
theorem w_is_pattern {a0 : D} {ce : Cells} {Q : D → Cells → Prop} {E : Str → Cells → Prop} (h : WS ((sRet (eAnd (eCall dIsi (aCons (eVar 0) (aCons (eC (.ty "str")) aNil))) (eAnd (eBin dLe (eCall dLen (aCons (eVar 0) aNil)) (eC (.int 20))) (eCall dAll (aCons (eComp (eIter (eVar 0)) [1] (gN 1) ttYes (eOr (eBin dEq (eVar 1) (eC (.str [63]))) (eFn F_is_sign (aCons (eVar 1) aNil)))) aNil))))) [some a0, none] ce) (fun _ ce1 => WFin ce.length .non ce1 Q) (fun d ce1 => WFin ce.length d ce1 Q) (fun _ _ => False) (fun _ _ => False) fun x _ ce1 => E x (ce1.take ce.length)) : WE (F_is_pattern [a0] ce) Q E := run_ws rfl h
theorem cal_is_pattern {P : Program} {w : World} {K : PySem.W.Frag} {mg : Str → Option Value} {base : Heap} {f : Addr} {fd : FuncData} (F : Fun K "is_pattern" "is_pattern" s_is_pattern f fd) (hm : mg "is_pattern" = some (.ref f)) (z_all : mg "all" = none) (z_isinstance : mg "isinstance" = none) (z_len : mg "len" = none) (z_str : mg "str" = none) (c_is_sign : Cal P w K mg base 1 "is_sign" 1 F_is_sign) : Cal P w K mg base 2 "is_pattern" 1 F_is_pattern := by
  refine cal_mk (g := G_is_pattern) (ps := ["value"]) (N := ["value", "sign"]) F hm sc_is_pattern (fun _ _ _ _ _ _ us hl => match us, hl with | [_], _ => rfl) fun cdv A outer s H E hr => ?_
  exact (js_one (js_ret (je_and (je_callB cj_isi (by rfl) z_isinstance (by decide +kernel) (ja_cons (je_var 0 rfl (Or.inl rfl) (by decide) (by decide)) (ja_cons (je_ty "str" (by rfl) z_str (by decide +kernel) (by decide) (by decide)) ja_nil (by rfl)) (by rfl)) (by decide) (by decide) (by rfl) (by rfl)) (je_and (je_cmp oj_le (je_callB cj_len (by rfl) z_len (by decide +kernel) (ja_cons (je_var 0 rfl (Or.inl rfl) (by decide) (by decide)) ja_nil (by rfl)) (by decide) (by decide) (by rfl) (by rfl)) je_int (nomark _)) (je_one (je_callB (cj_all rfl) (by rfl) z_all (by decide +kernel) (ja_cons (je_comp rfl sc_is_pattern.nd (ji_val (je_var 0 rfl (Or.inl rfl) (by decide) (by decide))) (blkOk_by (own := [("sign", 1)]) (N := ["value", "sign"]) (sc := defScope s_is_pattern) (by decide +kernel)) rfl (fun _ _ _ _ _ => (jg_name 1 sc_is_pattern.nd rfl (Or.inl rfl) (Or.inr rfl))) (fun _ _ _ _ _ => jts_nil) (fun _ _ _ _ _ => (je_or (je_cmp (oj_eq hr.units) (je_var 1 rfl (Or.inl rfl) (by decide) (by decide)) (je_str [63] (by decide +kernel) (by decide +kernel)) (nomark _)) (je_one (je_cal takes0N c_is_sign rfl (hr.mono (by omega)) (by rfl) (ja_cons (je_var 1 rfl (Or.inl rfl) (by decide) (by decide)) ja_nil (by rfl)) (ga_cons ga_nil) (by decide) (by rfl) (by rfl))))) (fun _ => rfl)) ja_nil (by rfl)) (by decide) (by decide) (by rfl) (by rfl)))))))

abbrev s_need_pattern : Stmt := topS 58
theorem sc_need_pattern : FnScope ["pattern", "works", "one", "other", "work"] ["pattern", "works"] (defScope s_need_pattern) := ⟨rfl, rfl, rfl, by decide +kernel, rfl, by decide +kernel, by decide +kernel⟩
def G_need_pattern : SDen := (sSeq (sIf (tNotD (tOf (eFn F_is_pattern (aCons (eVar 0) aNil)))) sNever sNil) (sSeq (sIf (tOrD (tNotD (tOf (eCall dIsi (aCons (eVar 1) (aCons (eC (.ty "str")) aNil))))) (tOrD (tNotD (tOf (eChain dLe dLe (eC (.int 1)) (eCall dLen (aCons (eVar 1) aNil)) (eC (.int 4))))) (tNotD (tOf (eCall dAll (aCons (eComp (eIter (eVar 1)) [4] (gN 4) ttYes (eBin dIn (eVar 4) (eC (.str [65, 66, 67, 68, 69, 70, 71, 72, 73, 74, 75, 76, 77, 78, 79, 80, 81, 82, 83, 84, 85, 86, 87, 88, 89, 90])))) aNil)))))) sNever sNil) (sIf (tNotD (tOf (eCall dAll (aCons (eComp (eSrcC srcZip (aCons (eVar 1) (aCons (eSl (eVar 1) (oSome (eC (.int 1))) oNone) aNil))) [2, 3] (gT (gsN [2, 3]) 2) ttYes (eBin dLtS (eVar 2) (eVar 3))) aNil)))) sNever sNil)))
def F_need_pattern : FDen := runF 2 5 G_need_pattern
theorem w_need_pattern {a0 a1 : D} {ce : Cells} {Q : D → Cells → Prop} {E : Str → Cells → Prop} (h : WS ((sSeq (sIf (tNotD (tOf (eFn F_is_pattern (aCons (eVar 0) aNil)))) sNever sNil) (sSeq (sIf (tOrD (tNotD (tOf (eCall dIsi (aCons (eVar 1) (aCons (eC (.ty "str")) aNil))))) (tOrD (tNotD (tOf (eChain dLe dLe (eC (.int 1)) (eCall dLen (aCons (eVar 1) aNil)) (eC (.int 4))))) (tNotD (tOf (eCall dAll (aCons (eComp (eIter (eVar 1)) [4] (gN 4) ttYes (eBin dIn (eVar 4) (eC (.str [65, 66, 67, 68, 69, 70, 71, 72, 73, 74, 75, 76, 77, 78, 79, 80, 81, 82, 83, 84, 85, 86, 87, 88, 89, 90])))) aNil)))))) sNever sNil) (sIf (tNotD (tOf (eCall dAll (aCons (eComp (eSrcC srcZip (aCons (eVar 1) (aCons (eSl (eVar 1) (oSome (eC (.int 1))) oNone) aNil))) [2, 3] (gT (gsN [2, 3]) 2) ttYes (eBin dLtS (eVar 2) (eVar 3))) aNil)))) sNever sNil))) [some a0, some a1, none, none, none] ce) (fun _ ce1 => WFin ce.length .non ce1 Q) (fun d ce1 => WFin ce.length d ce1 Q) (fun _ _ => False) (fun _ _ => False) fun x _ ce1 => E x (ce1.take ce.length)) : WE (F_need_pattern [a0, a1] ce) Q E := run_ws rfl h
theorem cal_need_pattern {P : Program} {w : World} {K : PySem.W.Frag} {mg : Str → Option Value} {base : Heap} {f : Addr} {fd : FuncData} (F : Fun K "need_pattern" "need_pattern" s_need_pattern f fd) (hm : mg "need_pattern" = some (.ref f)) (z_all : mg "all" = none) (z_isinstance : mg "isinstance" = none) (z_len : mg "len" = none) (z_str : mg "str" = none) (z_zip : mg "zip" = none) {u_LETTERS : Value} (m_LETTERS : mg "LETTERS" = some u_LETTERS) (r_LETTERS : RelV (.str "ABCDEFGHIJKLMNOPQRSTUVWXYZ") u_LETTERS) (c_is_pattern : Cal P w K mg base 2 "is_pattern" 1 F_is_pattern) : Cal P w K mg base 3 "need_pattern" 2 F_need_pattern := by
  refine cal_mk (g := G_need_pattern) (ps := ["pattern", "works"]) (N := ["pattern", "works", "one", "other", "work"]) F hm sc_need_pattern (fun _ _ _ _ _ _ us hl => match us, hl with | [_, _], _ => rfl) fun cdv A outer s H E hr => ?_
  exact (js_cons (js_if (jt_not (jt_val (je_cal (L2N.takes_of rfl rfl rfl rfl) c_is_pattern rfl (hr.mono (by omega)) (by rfl) (ja_cons (je_var 0 rfl (Or.inl rfl) (by decide) (by decide)) ja_nil (by rfl)) (ga_cons ga_nil) (by decide) (by rfl) (by rfl)) (fun _ => rfl))) (js_one js_never) js_nil) (js_cons (js_if (jw_pt (jw_or (jt_not (jt_val (je_callB cj_isi (by rfl) z_isinstance (by decide +kernel) (ja_cons (je_var 1 rfl (Or.inl rfl) (by decide) (by decide)) (ja_cons (je_ty "str" (by rfl) z_str (by decide +kernel) (by decide) (by decide)) ja_nil (by rfl)) (by rfl)) (by decide) (by decide) (by rfl) (by rfl)) (fun _ => rfl))) (jw_or (jt_not (jt_chain oj_le oj_le je_int (je_callB cj_len (by rfl) z_len (by decide +kernel) (ja_cons (je_var 1 rfl (Or.inl rfl) (by decide) (by decide)) ja_nil (by rfl)) (by decide) (by decide) (by rfl) (by rfl)) je_int (by with_unfolding_all rfl))) (jw_or1 (jt_not (jt_val (je_callB (cj_all rfl) (by rfl) z_all (by decide +kernel) (ja_cons (je_comp rfl sc_need_pattern.nd (ji_val (je_var 1 rfl (Or.inl rfl) (by decide) (by decide))) (blkOk_by (own := [("work", 4)]) (N := ["pattern", "works", "one", "other", "work"]) (sc := defScope s_need_pattern) (by decide +kernel)) rfl (fun _ _ _ _ _ => (jg_name 4 sc_need_pattern.nd rfl (Or.inl rfl) (Or.inr rfl))) (fun _ _ _ _ _ => jts_nil) (fun _ _ _ _ _ => (je_cmp oj_in (je_var 4 rfl (Or.inl rfl) (by decide) (by decide)) (je_glC (d := .str [65, 66, 67, 68, 69, 70, 71, 72, 73, 74, 75, 76, 77, 78, 79, 80, 81, 82, 83, 84, 85, 86, 87, 88, 89, 90]) (by rfl) m_LETTERS r_LETTERS (by decide) (fun _ _ => repT_str.mpr ⟨congrArg V.str (show _ = toStr [65, 66, 67, 68, 69, 70, 71, 72, 73, 74, 75, 76, 77, 78, 79, 80, 81, 82, 83, 84, 85, 86, 87, 88, 89, 90] by decide +kernel), okS_by (by decide +kernel)⟩)) (by rfl))) (fun _ => rfl)) ja_nil (by rfl)) (by decide) (by decide) (by rfl) (by rfl)) (fun _ => rfl))))))) (js_one js_never) js_nil) (js_one (js_if (jt_not (jt_val (je_callB (cj_all rfl) (by rfl) z_all (by decide +kernel) (ja_cons (je_comp rfl sc_need_pattern.nd (ji_zip (by rfl) z_zip (ja_cons (je_var 1 rfl (Or.inl rfl) (by decide) (by decide)) (ja_cons (je_sl (je_var 1 rfl (Or.inl rfl) (by decide) (by decide)) (jo_some je_int) jo_none) ja_nil (by rfl)) (by rfl)) (by rfl) (by rfl)) (blkOk_by (own := [("one", 2), ("other", 3)]) (N := ["pattern", "works", "one", "other", "work"]) (sc := defScope s_need_pattern) (by decide +kernel)) rfl (fun _ _ _ _ _ => (jg_tup rfl (jgs_cons 2 sc_need_pattern.nd rfl (Or.inl rfl) (Or.inr rfl) (jgs_cons 3 sc_need_pattern.nd rfl (Or.inl rfl) (Or.inr rfl) jgs_nil rfl) rfl) rfl rfl)) (fun _ _ _ _ _ => jts_nil) (fun _ _ _ _ _ => (je_cmp oj_ltS (je_var 2 rfl (Or.inl rfl) (by decide) (by decide)) (je_var 3 rfl (Or.inl rfl) (by decide) (by decide)) (nomark _))) (fun _ => rfl)) ja_nil (by rfl)) (by decide) (by decide) (by rfl) (by rfl)) (fun _ => rfl))) (js_one js_never) js_nil))))

abbrev s_signs_for : Stmt := topS 59
theorem sc_signs_for : FnScope ["sign", "works", "work"] ["sign", "works"] (defScope s_signs_for) := ⟨rfl, rfl, rfl, by decide +kernel, rfl, by decide +kernel, by decide +kernel⟩
def G_signs_for : SDen := (sRet (eIf (tOf (eBin dEq (eVar 0) (eC (.str [63])))) (eBin dAdd (eBin dAdd (eCall dList2 (aCons (eVar 1) aNil)) (eComp (eIter (eVar 1)) [2] (gN 2) ttYes (eMeth0 "str" dLower (eVar 2)))) (eLst (aCons (eC (.str [45])) aNil))) (eLst (aCons (eVar 0) aNil))))
def F_signs_for : FDen := runF 2 3 G_signs_for
theorem w_signs_for {a0 a1 : D} {ce : Cells} {Q : D → Cells → Prop} {E : Str → Cells → Prop} (h : WS ((sRet (eIf (tOf (eBin dEq (eVar 0) (eC (.str [63])))) (eBin dAdd (eBin dAdd (eCall dList2 (aCons (eVar 1) aNil)) (eComp (eIter (eVar 1)) [2] (gN 2) ttYes (eMeth0 "str" dLower (eVar 2)))) (eLst (aCons (eC (.str [45])) aNil))) (eLst (aCons (eVar 0) aNil)))) [some a0, some a1, none] ce) (fun _ ce1 => WFin ce.length .non ce1 Q) (fun d ce1 => WFin ce.length d ce1 Q) (fun _ _ => False) (fun _ _ => False) fun x _ ce1 => E x (ce1.take ce.length)) : WE (F_signs_for [a0, a1] ce) Q E := run_ws rfl h
theorem cal_signs_for {P : Program} {w : World} {K : PySem.W.Frag} {mg : Str → Option Value} {base : Heap} {f : Addr} {fd : FuncData} (F : Fun K "signs_for" "signs_for" s_signs_for f fd) (hm : mg "signs_for" = some (.ref f)) (z_list : mg "list" = none) : Cal P w K mg base 1 "signs_for" 2 F_signs_for := by
  refine cal_mk (g := G_signs_for) (ps := ["sign", "works"]) (N := ["sign", "works", "work"]) F hm sc_signs_for (fun _ _ _ _ _ _ us hl => match us, hl with | [_, _], _ => rfl) fun cdv A outer s H E hr => ?_
  exact (js_one (js_ret (je_if (jt_cmp (oj_eq hr.units) (je_var 0 rfl (Or.inl rfl) (by decide) (by decide)) (je_str [63] (by decide +kernel) (by decide +kernel)) (nomark _)) (je_bin oj_add (je_bin oj_add (je_callTy (cj_list2 rfl) (by rfl) z_list (by decide +kernel) (ja_cons (je_var 1 rfl (Or.inl rfl) (by decide) (by decide)) ja_nil (by rfl)) (by decide) (by decide) (by rfl) (by rfl)) (je_comp rfl sc_signs_for.nd (ji_val (je_var 1 rfl (Or.inl rfl) (by decide) (by decide))) (blkOk_by (own := [("work", 2)]) (N := ["sign", "works", "work"]) (sc := defScope s_signs_for) (by decide +kernel)) rfl (fun _ _ _ _ _ => (jg_name 2 sc_signs_for.nd rfl (Or.inl rfl) (Or.inr rfl))) (fun _ _ _ _ _ => jts_nil) (fun _ _ _ _ _ => (je_meth0 PySem.F.plainAttrs_str PySem.F.slot_str_lower PySem.F.type_str_lower mj_lower (je_var 2 rfl (Or.inl rfl) (by decide) (by decide)) (by rfl) (by rfl))) (fun _ => rfl))) (je_lst (ja_cons (je_str [45] (by decide +kernel) (by decide +kernel)) ja_nil (by rfl)))) (je_lst (ja_cons (je_var 0 rfl (Or.inl rfl) (by decide) (by decide)) ja_nil (by rfl))))))

abbrev s_step : Stmt := topS 60
theorem sc_step : FnScope ["state", "sign", "works", "known", "last"] ["state", "sign", "works"] (defScope s_step) := ⟨rfl, rfl, rfl, by decide +kernel, rfl, by decide +kernel, by decide +kernel⟩
def G_step : SDen := (sSeq (sAsg (gT (gsN [3, 4]) 2) (eVar 0)) (sSeq (sIf (tOf (eBin dEq (eVar 1) (eC (.str [45])))) (sRet (eIf (tOf (eBin dNe (eVar 4) (eC (.str [])))) (eVar 0) (eC .non))) sNil) (sSeq (sIf (tOrD (tOf (eBin dNotIn (eMeth0 "str" dUpper (eVar 1)) (eVar 2))) (tAndD (tOf (eMeth0 "str" dIsLower (eVar 1))) (tOf (eBin dNotIn (eMeth0 "str" dUpper (eVar 1)) (eVar 3))))) (sRet (eC .non)) sNil) (sRet (eTup (aCons (eMethR "str" dJoin (eC (.str [])) (aCons (eCall dSortQ (aCons (eCall dSet (aCons (eBin dAdd (eVar 3) (eMeth0 "str" dUpper (eVar 1))) aNil)) aNil)) aNil)) (aCons (eMeth0 "str" dUpper (eVar 1)) aNil)))))))
def F_step : FDen := runF 3 5 G_step
theorem w_step {a0 a1 a2 : D} {ce : Cells} {Q : D → Cells → Prop} {E : Str → Cells → Prop} (h : WS ((sSeq (sAsg (gT (gsN [3, 4]) 2) (eVar 0)) (sSeq (sIf (tOf (eBin dEq (eVar 1) (eC (.str [45])))) (sRet (eIf (tOf (eBin dNe (eVar 4) (eC (.str [])))) (eVar 0) (eC .non))) sNil) (sSeq (sIf (tOrD (tOf (eBin dNotIn (eMeth0 "str" dUpper (eVar 1)) (eVar 2))) (tAndD (tOf (eMeth0 "str" dIsLower (eVar 1))) (tOf (eBin dNotIn (eMeth0 "str" dUpper (eVar 1)) (eVar 3))))) (sRet (eC .non)) sNil) (sRet (eTup (aCons (eMethR "str" dJoin (eC (.str [])) (aCons (eCall dSortQ (aCons (eCall dSet (aCons (eBin dAdd (eVar 3) (eMeth0 "str" dUpper (eVar 1))) aNil)) aNil)) aNil)) (aCons (eMeth0 "str" dUpper (eVar 1)) aNil))))))) [some a0, some a1, some a2, none, none] ce) (fun _ ce1 => WFin ce.length .non ce1 Q) (fun d ce1 => WFin ce.length d ce1 Q) (fun _ _ => False) (fun _ _ => False) fun x _ ce1 => E x (ce1.take ce.length)) : WE (F_step [a0, a1, a2] ce) Q E := run_ws rfl h
theorem cal_step {P : Program} {w : World} {K : PySem.W.Frag} {mg : Str → Option Value} {base : Heap} {f : Addr} {fd : FuncData} (F : Fun K "step" "step" s_step f fd) (hm : mg "step" = some (.ref f)) (z_set : mg "set" = none) (z_sorted : mg "sorted" = none) : Cal P w K mg base 1 "step" 3 F_step := by
  refine cal_mk (g := G_step) (ps := ["state", "sign", "works"]) (N := ["state", "sign", "works", "known", "last"]) F hm sc_step (fun _ _ _ _ _ _ us hl => match us, hl with | [_, _, _], _ => rfl) fun cdv A outer s H E hr => ?_
  exact (js_cons (js_asg (je_var 0 rfl (Or.inl rfl) (by decide) (by decide)) (jg_tup rfl (jgs_cons 3 sc_step.nd rfl (Or.inl rfl) (Or.inl rfl) (jgs_cons 4 sc_step.nd rfl (Or.inl rfl) (Or.inl rfl) jgs_nil rfl) rfl) rfl rfl) (by rfl) (by rfl) (by rfl)) (js_cons (js_if (jt_cmp (oj_eq hr.units) (je_var 1 rfl (Or.inl rfl) (by decide) (by decide)) (je_str [45] (by decide +kernel) (by decide +kernel)) (nomark _)) (js_one (js_ret (je_if (jt_cmp (oj_ne hr.units) (je_var 4 rfl (Or.inl rfl) (by decide) (by decide)) (je_str [] (by decide +kernel) (by decide +kernel)) (nomark _)) (je_var 0 rfl (Or.inl rfl) (by decide) (by decide)) je_non))) js_nil) (js_cons (js_if (jw_pt (jw_or (jt_cmp oj_notin (je_meth0 PySem.F.plainAttrs_str PySem.F.slot_str_upper PySem.F.type_str_upper mj_upper (je_var 1 rfl (Or.inl rfl) (by decide) (by decide)) (by rfl) (by rfl)) (je_var 2 rfl (Or.inl rfl) (by decide) (by decide)) (by rfl)) (jw_or1 (jw_pt (jw_and (jt_val (je_meth0 PySem.F.plainAttrs_str PySem.F.slot_str_islower PySem.F.type_str_islower mj_islower (je_var 1 rfl (Or.inl rfl) (by decide) (by decide)) (by rfl) (by rfl)) (fun _ => rfl)) (jw_and1 (jt_cmp oj_notin (je_meth0 PySem.F.plainAttrs_str PySem.F.slot_str_upper PySem.F.type_str_upper mj_upper (je_var 1 rfl (Or.inl rfl) (by decide) (by decide)) (by rfl) (by rfl)) (je_var 3 rfl (Or.inl rfl) (by decide) (by decide)) (by rfl)))))))) (js_one (js_ret je_non)) js_nil) (js_one (js_ret (je_tup (ja_cons (je_methR PySem.F.plainAttrs_str PySem.F.slot_str_join PySem.F.type_str_join mj_join (je_str [] (by decide +kernel) (by decide +kernel)) (ja_cons (je_callB (cj_sortQ rfl) (by rfl) z_sorted (by decide +kernel) (ja_cons (je_callTy (cj_set rfl) (by rfl) z_set (by decide +kernel) (ja_cons (je_bin oj_add (je_var 3 rfl (Or.inl rfl) (by decide) (by decide)) (je_meth0 PySem.F.plainAttrs_str PySem.F.slot_str_upper PySem.F.type_str_upper mj_upper (je_var 1 rfl (Or.inl rfl) (by decide) (by decide)) (by rfl) (by rfl))) ja_nil (by rfl)) (by decide) (by decide) (by rfl) (by rfl)) ja_nil (by rfl)) (by decide) (by decide) (by rfl) (by rfl)) ja_nil (by rfl)) (by rfl) (by rfl) (by rfl) (by rfl) (by rfl)) (ja_cons (je_meth0 PySem.F.plainAttrs_str PySem.F.slot_str_upper PySem.F.type_str_upper mj_upper (je_var 1 rfl (Or.inl rfl) (by decide) (by decide)) (by rfl) (by rfl)) ja_nil (by rfl)) (by rfl))))))))

abbrev s_forward : Stmt := topS 61
theorem sc_forward : FnScope ["pattern", "works", "found", "sign", "later", "state", "own", "new"] ["pattern", "works"] (defScope s_forward) := ⟨rfl, rfl, rfl, by decide +kernel, rfl, by decide +kernel, by decide +kernel⟩
def G_forward : SDen := (sSeq (sSet 2 (eLstC (aCons (eTDisp (eTup (aCons (eC (.str [])) (aCons (eC (.str [])) aNil))) (eC (.int 1))) aNil))) (sSeq (sFor (eIter (eVar 0)) (gN 3) (sSeq (sSet 4 eTNew) (sSeq (sFor (eIter (eCall dSortTK (aCons (eBin dIx (eVar 2) (eUn dNeg (eC (.int 1)))) aNil))) (gN 5) (sFor (eIter (eFn F_signs_for (aCons (eVar 3) (aCons (eVar 1) aNil)))) (gN 6) (sSeq (sSet 7 (eFn F_step (aCons (eVar 5) (aCons (eVar 6) (aCons (eVar 1) aNil))))) (sIf (tOf (eBin dIsNot (eVar 7) (eC .non))) (sTPut (eVar 4) (eVar 7) (eBin dAdd (eTGetD (eVar 4) (eVar 7) (eC (.int 0))) (eBin dTGet (eBin dIx (eVar 2) (eUn dNeg (eC (.int 1)))) (eVar 5)))) sNil)))) (sExpr (eAppend (eVar 2) (aCons (eVar 4) aNil)))))) (sRetF (eVar 2))))
def F_forward : FDen := runF 2 8 G_forward
theorem w_forward {a0 a1 : D} {ce : Cells} {Q : D → Cells → Prop} {E : Str → Cells → Prop} (h : WS ((sSeq (sSet 2 (eLstC (aCons (eTDisp (eTup (aCons (eC (.str [])) (aCons (eC (.str [])) aNil))) (eC (.int 1))) aNil))) (sSeq (sFor (eIter (eVar 0)) (gN 3) (sSeq (sSet 4 eTNew) (sSeq (sFor (eIter (eCall dSortTK (aCons (eBin dIx (eVar 2) (eUn dNeg (eC (.int 1)))) aNil))) (gN 5) (sFor (eIter (eFn F_signs_for (aCons (eVar 3) (aCons (eVar 1) aNil)))) (gN 6) (sSeq (sSet 7 (eFn F_step (aCons (eVar 5) (aCons (eVar 6) (aCons (eVar 1) aNil))))) (sIf (tOf (eBin dIsNot (eVar 7) (eC .non))) (sTPut (eVar 4) (eVar 7) (eBin dAdd (eTGetD (eVar 4) (eVar 7) (eC (.int 0))) (eBin dTGet (eBin dIx (eVar 2) (eUn dNeg (eC (.int 1)))) (eVar 5)))) sNil)))) (sExpr (eAppend (eVar 2) (aCons (eVar 4) aNil)))))) (sRetF (eVar 2)))) [some a0, some a1, none, none, none, none, none, none] ce) (fun _ ce1 => WFin ce.length .non ce1 Q) (fun d ce1 => WFin ce.length d ce1 Q) (fun _ _ => False) (fun _ _ => False) fun x _ ce1 => E x (ce1.take ce.length)) : WE (F_forward [a0, a1] ce) Q E := run_ws rfl h
theorem cal_forward {P : Program} {w : World} {K : PySem.W.Frag} {mg : Str → Option Value} {base : Heap} {f : Addr} {fd : FuncData} (F : Fun K "forward" "forward" s_forward f fd) (hm : mg "forward" = some (.ref f)) (z_sorted : mg "sorted" = none) (c_signs_for : Cal P w K mg base 1 "signs_for" 2 F_signs_for) (c_step : Cal P w K mg base 1 "step" 3 F_step) : Cal P w K mg base 2 "forward" 2 F_forward := by
  refine cal_mk (g := G_forward) (ps := ["pattern", "works"]) (N := ["pattern", "works", "found", "sign", "later", "state", "own", "new"]) F hm sc_forward (fun _ _ _ _ _ _ us hl => match us, hl with | [_, _], _ => rfl) fun cdv A outer s H E hr => ?_
  exact (js_cons (js_set 2 sc_forward.nd rfl (Or.inl rfl) (je_lstC (ja_cons (je_tdisp (hu1 hr.units) (je_tup (ja_cons (je_str [] (by decide +kernel) (by decide +kernel)) (ja_cons (je_str [] (by decide +kernel) (by decide +kernel)) ja_nil (by rfl)) (by rfl))) je_int) ja_nil (by rfl))) (by rfl) (Or.inl rfl)) (js_cons (js_for (passes_of rfl) rfl (ji_val (je_var 0 rfl (Or.inl rfl) (by decide) (by decide))) (jg_name 3 sc_forward.nd rfl (Or.inl rfl) (Or.inl rfl)) (js_cons (js_set 4 sc_forward.nd rfl (Or.inl rfl) je_tnew (by rfl) (Or.inl rfl)) (js_cons (js_for (passes_of rfl) rfl (ji_val (je_sortTK rfl hr.units (by rfl) z_sorted (by decide +kernel) (ja_cons (je_ix ij_ix (je_var 2 rfl (Or.inl rfl) (by decide) (by decide)) (je_un uj_neg je_int) (fun _ _ => rfl)) ja_nil (by rfl)) (by decide) (by decide) (by rfl) (by rfl))) (jg_name 5 sc_forward.nd rfl (Or.inl rfl) (Or.inl rfl)) (js_one (js_for (passes_of rfl) rfl (ji_val (je_cal (L2N.takes_of rfl rfl rfl rfl) c_signs_for rfl (hr.mono (by omega)) (by rfl) (ja_cons (je_var 3 rfl (Or.inl rfl) (by decide) (by decide)) (ja_cons (je_var 1 rfl (Or.inl rfl) (by decide) (by decide)) ja_nil (by rfl)) (by rfl)) (ga_cons (ga_cons ga_nil)) (by decide) (by rfl) (by rfl))) (jg_name 6 sc_forward.nd rfl (Or.inl rfl) (Or.inl rfl)) (js_cons (js_set 7 sc_forward.nd rfl (Or.inl rfl) (je_cal (L2N.takes_of rfl rfl rfl rfl) c_step rfl (hr.mono (by omega)) (by rfl) (ja_cons (je_var 5 rfl (Or.inl rfl) (by decide) (by decide)) (ja_cons (je_var 6 rfl (Or.inl rfl) (by decide) (by decide)) (ja_cons (je_var 1 rfl (Or.inl rfl) (by decide) (by decide)) ja_nil (by rfl)) (by rfl)) (by rfl)) (ga_cons (ga_cons (ga_cons ga_nil))) (by decide) (by rfl) (by rfl)) (by rfl) (Or.inl rfl)) (js_one (js_if (jt_cmp oj_isnot (je_var 7 rfl (Or.inl rfl) (by decide) (by decide)) je_non (nomark _)) (js_one (js_tput (hu1 hr.units) (je_var 4 rfl (Or.inl rfl) (by decide) (by decide)) (je_var 7 rfl (Or.inl rfl) (by decide) (by decide)) (je_bin oj_add (je_tgetD (hu1 hr.units) (je_var 4 rfl (Or.inl rfl) (by decide) (by decide)) (je_var 7 rfl (Or.inl rfl) (by decide) (by decide)) je_int ⟨by rfl, by rfl, by rfl, by rfl⟩) (je_tget (hu1 hr.units) (je_ix ij_ix (je_var 2 rfl (Or.inl rfl) (by decide) (by decide)) (je_un uj_neg je_int) (fun _ _ => rfl)) (je_var 5 rfl (Or.inl rfl) (by decide) (by decide)) (fun _ _ => rfl))) (by rfl))) js_nil))) (fun _ => rfl))) (fun _ => rfl)) (js_one (js_expr (je_append (je_var 2 rfl (Or.inl rfl) (by decide) (by decide)) (ja_cons (je_var 4 rfl (Or.inl rfl) (by decide) (by decide)) ja_nil (by rfl)) (by rfl) (by rfl) (by rfl) (by rfl) (by rfl)) (by rfl))))) (fun _ => rfl)) (js_one (js_retF (je_var 2 rfl (Or.inl rfl) (by decide) (by decide))))))

abbrev s_backward : Stmt := topS 62
theorem sc_backward : FnScope ["pattern", "works", "tables", "found", "rows", "place", "earlier", "state", "news", "own", "new"] ["pattern", "works", "tables"] (defScope s_backward) := ⟨rfl, rfl, rfl, by decide +kernel, rfl, by decide +kernel, by decide +kernel⟩
def G_backward : SDen := (sSeq (sSet 3 (eKComp (eKeysT (eBin dIx (eVar 2) (eUn dNeg (eC (.int 1))))) [7] (gN 7) ttYes (eVar 7) (eC (.int 1)))) (sSeq (sSet 4 (eLstC (aCons (eVar 3) aNil))) (sSeq (sFor (eSrc srcRange3 (aCons (eBin dSub (eCall dLen (aCons (eVar 0) aNil)) (eC (.int 1))) (aCons (eUn dNeg (eC (.int 1))) (aCons (eUn dNeg (eC (.int 1))) aNil)))) (gN 5) (sSeq (sSet 6 eTNew) (sSeq (sFor (eKeysT (eBin dIx (eVar 2) (eVar 5))) (gN 7) (sSeq (sSet 8 (eComp (eIter (eFn F_signs_for (aCons (eBin dIx (eVar 0) (eVar 5)) (aCons (eVar 1) aNil)))) [9] (gN 9) ttYes (eFn F_step (aCons (eVar 7) (aCons (eVar 9) (aCons (eVar 1) aNil)))))) (sTPut (eVar 6) (eVar 7) (eCall dSum (aCons (eComp (eIter (eVar 8)) [10] (gN 10) (tOf (eBin dIsNot (eVar 10) (eC .non))) (eTGetD (eVar 3) (eVar 10) (eC (.int 0)))) aNil))))) (sSeq (sSet 3 (eVar 6)) (sExpr (eAppend (eVar 4) (aCons (eVar 3) aNil))))))) (sRet (eUn dRev (eVar 4))))))
def F_backward : FDen := runF 3 11 G_backward
theorem w_backward {a0 a1 a2 : D} {ce : Cells} {Q : D → Cells → Prop} {E : Str → Cells → Prop} (h : WS ((sSeq (sSet 3 (eKComp (eKeysT (eBin dIx (eVar 2) (eUn dNeg (eC (.int 1))))) [7] (gN 7) ttYes (eVar 7) (eC (.int 1)))) (sSeq (sSet 4 (eLstC (aCons (eVar 3) aNil))) (sSeq (sFor (eSrc srcRange3 (aCons (eBin dSub (eCall dLen (aCons (eVar 0) aNil)) (eC (.int 1))) (aCons (eUn dNeg (eC (.int 1))) (aCons (eUn dNeg (eC (.int 1))) aNil)))) (gN 5) (sSeq (sSet 6 eTNew) (sSeq (sFor (eKeysT (eBin dIx (eVar 2) (eVar 5))) (gN 7) (sSeq (sSet 8 (eComp (eIter (eFn F_signs_for (aCons (eBin dIx (eVar 0) (eVar 5)) (aCons (eVar 1) aNil)))) [9] (gN 9) ttYes (eFn F_step (aCons (eVar 7) (aCons (eVar 9) (aCons (eVar 1) aNil)))))) (sTPut (eVar 6) (eVar 7) (eCall dSum (aCons (eComp (eIter (eVar 8)) [10] (gN 10) (tOf (eBin dIsNot (eVar 10) (eC .non))) (eTGetD (eVar 3) (eVar 10) (eC (.int 0)))) aNil))))) (sSeq (sSet 3 (eVar 6)) (sExpr (eAppend (eVar 4) (aCons (eVar 3) aNil))))))) (sRet (eUn dRev (eVar 4)))))) [some a0, some a1, some a2, none, none, none, none, none, none, none, none] ce) (fun _ ce1 => WFin ce.length .non ce1 Q) (fun d ce1 => WFin ce.length d ce1 Q) (fun _ _ => False) (fun _ _ => False) fun x _ ce1 => E x (ce1.take ce.length)) : WE (F_backward [a0, a1, a2] ce) Q E := run_ws rfl h
theorem cal_backward {P : Program} {w : World} {K : PySem.W.Frag} {mg : Str → Option Value} {base : Heap} {f : Addr} {fd : FuncData} (F : Fun K "backward" "backward" s_backward f fd) (hm : mg "backward" = some (.ref f)) (z_len : mg "len" = none) (z_range : mg "range" = none) (z_sum : mg "sum" = none) (c_signs_for : Cal P w K mg base 1 "signs_for" 2 F_signs_for) (c_step : Cal P w K mg base 1 "step" 3 F_step) : Cal P w K mg base 2 "backward" 3 F_backward := by
  refine cal_mk (g := G_backward) (ps := ["pattern", "works", "tables"]) (N := ["pattern", "works", "tables", "found", "rows", "place", "earlier", "state", "news", "own", "new"]) F hm sc_backward (fun _ _ _ _ _ _ us hl => match us, hl with | [_, _, _], _ => rfl) fun cdv A outer s H E hr => ?_
  exact (js_cons (js_set 3 sc_backward.nd rfl (Or.inr rfl) (je_kcomp rfl (hu1 hr.units) sc_backward.nd (ji_keysT (je_ix ij_ix (je_var 2 rfl (Or.inl rfl) (by decide) (by decide)) (je_un uj_neg je_int) (fun _ _ => rfl))) (blkOk_by (own := [("state", 7)]) (N := ["pattern", "works", "tables", "found", "rows", "place", "earlier", "state", "news", "own", "new"]) (sc := defScope s_backward) (by decide +kernel)) rfl (fun _ _ _ _ _ => (jg_name 7 sc_backward.nd rfl (Or.inl rfl) (Or.inr rfl))) (fun _ _ _ _ _ => jts_nil) (fun _ _ _ _ _ => (je_var 7 rfl (Or.inl rfl) (by decide) (by decide))) (fun _ _ _ _ _ => je_int) (fun _ => rfl)) (by rfl) (Or.inl rfl)) (js_cons (js_set 4 sc_backward.nd rfl (Or.inl rfl) (je_lstC (ja_cons (je_var 3 rfl (Or.inr (Or.inl rfl)) (by decide) (by decide)) ja_nil (by rfl))) (by rfl) (Or.inl rfl)) (js_cons (js_for (passes_of rfl) rfl (ji_range3 (by rfl) z_range (ja_cons (je_bin oj_sub (je_callB cj_len (by rfl) z_len (by decide +kernel) (ja_cons (je_var 0 rfl (Or.inl rfl) (by decide) (by decide)) ja_nil (by rfl)) (by decide) (by decide) (by rfl) (by rfl)) je_int) (ja_cons (je_un uj_neg je_int) (ja_cons (je_un uj_neg je_int) ja_nil (by rfl)) (by rfl)) (by rfl)) (by rfl) (by rfl)) (jg_name 5 sc_backward.nd rfl (Or.inl rfl) (Or.inl rfl)) (js_cons (js_set 6 sc_backward.nd rfl (Or.inl rfl) je_tnew (by rfl) (Or.inl rfl)) (js_cons (js_for (passes_of rfl) rfl (ji_keysT (je_ix ij_ix (je_var 2 rfl (Or.inl rfl) (by decide) (by decide)) (je_var 5 rfl (Or.inl rfl) (by decide) (by decide)) (fun _ _ => rfl))) (jg_name 7 sc_backward.nd rfl (Or.inr rfl) (Or.inl rfl)) (js_cons (js_setComp 8 rfl sc_backward.nd rfl rfl (sw_true rfl rfl rfl (by decide +kernel)) (ji_val (je_cal (L2N.takes_of rfl rfl rfl rfl) c_signs_for rfl (hr.mono (by omega)) (by rfl) (ja_cons (je_ix ij_ix (je_var 0 rfl (Or.inl rfl) (by decide) (by decide)) (je_var 5 rfl (Or.inl rfl) (by decide) (by decide)) (fun _ _ => rfl)) (ja_cons (je_var 1 rfl (Or.inr (Or.inl rfl)) (by decide) (by decide)) ja_nil (by rfl)) (by rfl)) (ga_cons (ga_cons ga_nil)) (by decide) (by rfl) (by rfl))) (blkOk_by (own := [("own", 9)]) (N := ["pattern", "works", "tables", "found", "rows", "place", "earlier", "state", "news", "own", "new"]) (sc := defScope s_backward) (by decide +kernel)) rfl (fun _ _ _ _ _ => (jg_name 9 sc_backward.nd rfl (Or.inl rfl) (Or.inr rfl))) (fun _ _ _ _ _ => jts_nil) (fun _ _ _ _ _ => (je_cal takes0N c_step rfl (hr.mono (by omega)) (by rfl) (ja_cons (je_var 7 rfl (Or.inr (Or.inl rfl)) (by decide) (by decide)) (ja_cons (je_var 9 rfl (Or.inl rfl) (by decide) (by decide)) (ja_cons (je_var 1 rfl (Or.inr (Or.inl rfl)) (by decide) (by decide)) ja_nil (by rfl)) (by rfl)) (by rfl)) (ga_cons (ga_cons (ga_cons ga_nil))) (by decide) (by rfl) (by rfl))) (fun _ => rfl)) (js_one (js_tput (hu1 hr.units) (je_var 6 rfl (Or.inl rfl) (by decide) (by decide)) (je_var 7 rfl (Or.inr (Or.inl rfl)) (by decide) (by decide)) (je_callB (cj_sum rfl) (by rfl) z_sum (by decide +kernel) (ja_cons (je_comp rfl sc_backward.nd (ji_val (je_var 8 rfl (Or.inl rfl) (by decide) (by decide))) (blkOk_by (own := [("new", 10)]) (N := ["pattern", "works", "tables", "found", "rows", "place", "earlier", "state", "news", "own", "new"]) (sc := defScope s_backward) (by decide +kernel)) rfl (fun _ _ _ _ _ => (jg_name 10 sc_backward.nd rfl (Or.inl rfl) (Or.inr rfl))) (fun _ _ _ _ _ => (jts_one (jt_cmp oj_isnot (je_var 10 rfl (Or.inl rfl) (by decide) (by decide)) je_non (nomark _)))) (fun _ _ _ _ _ => (je_tgetD (hu1 hr.units) (je_var 3 rfl (Or.inr (Or.inl rfl)) (by decide) (by decide)) (je_var 10 rfl (Or.inl rfl) (by decide) (by decide)) je_int ⟨by rfl, by rfl, by rfl, by rfl⟩)) (fun _ => rfl)) ja_nil (by rfl)) (by decide) (by decide) (by rfl) (by rfl)) (by rfl)))) (fun _ => rfl)) (js_cons (js_set 3 sc_backward.nd rfl (Or.inr rfl) (je_var 6 rfl (Or.inl rfl) (by decide) (by decide)) (by rfl) (Or.inl rfl)) (js_one (js_expr (je_append (je_var 4 rfl (Or.inl rfl) (by decide) (by decide)) (ja_cons (je_var 3 rfl (Or.inr (Or.inl rfl)) (by decide) (by decide)) ja_nil (by rfl)) (by rfl) (by rfl) (by rfl) (by rfl) (by rfl)) (by rfl)))))) (fun _ => rfl)) (js_one (js_ret (je_revL (je_var 4 rfl (Or.inl rfl) (by decide) (by decide))))))))

abbrev s_count_matches : Stmt := topS 63
theorem sc_count_matches : FnScope ["pattern", "works", "table", "state"] ["pattern", "works"] (defScope s_count_matches) := ⟨rfl, rfl, rfl, by decide +kernel, rfl, by decide +kernel, by decide +kernel⟩
def G_count_matches : SDen := (sSeq (sExpr (eFn F_need_pattern (aCons (eVar 0) (aCons (eVar 1) aNil)))) (sSeq (sSet 2 (eBin dIx (eFn F_forward (aCons (eVar 0) (aCons (eVar 1) aNil))) (eUn dNeg (eC (.int 1))))) (sRet (eCall dSum (aCons (eComp (eIter (eCall dSortTK (aCons (eVar 2) aNil))) [3] (gN 3) ttYes (eBin dTGet (eVar 2) (eVar 3))) aNil)))))
def F_count_matches : FDen := runF 2 4 G_count_matches
theorem w_count_matches {a0 a1 : D} {ce : Cells} {Q : D → Cells → Prop} {E : Str → Cells → Prop} (h : WS ((sSeq (sExpr (eFn F_need_pattern (aCons (eVar 0) (aCons (eVar 1) aNil)))) (sSeq (sSet 2 (eBin dIx (eFn F_forward (aCons (eVar 0) (aCons (eVar 1) aNil))) (eUn dNeg (eC (.int 1))))) (sRet (eCall dSum (aCons (eComp (eIter (eCall dSortTK (aCons (eVar 2) aNil))) [3] (gN 3) ttYes (eBin dTGet (eVar 2) (eVar 3))) aNil))))) [some a0, some a1, none, none] ce) (fun _ ce1 => WFin ce.length .non ce1 Q) (fun d ce1 => WFin ce.length d ce1 Q) (fun _ _ => False) (fun _ _ => False) fun x _ ce1 => E x (ce1.take ce.length)) : WE (F_count_matches [a0, a1] ce) Q E := run_ws rfl h
theorem cal_count_matches {P : Program} {w : World} {K : PySem.W.Frag} {mg : Str → Option Value} {base : Heap} {f : Addr} {fd : FuncData} (F : Fun K "count_matches" "count_matches" s_count_matches f fd) (hm : mg "count_matches" = some (.ref f)) (z_sorted : mg "sorted" = none) (z_sum : mg "sum" = none) (c_need_pattern : Cal P w K mg base 3 "need_pattern" 2 F_need_pattern) (c_forward : Cal P w K mg base 2 "forward" 2 F_forward) : Cal P w K mg base 4 "count_matches" 2 F_count_matches := by
  refine cal_mk (g := G_count_matches) (ps := ["pattern", "works"]) (N := ["pattern", "works", "table", "state"]) F hm sc_count_matches (fun _ _ _ _ _ _ us hl => match us, hl with | [_, _], _ => rfl) fun cdv A outer s H E hr => ?_
  exact (js_cons (js_expr (je_cal (L2N.takes_of rfl rfl rfl rfl) c_need_pattern rfl (hr.mono (by omega)) (by rfl) (ja_cons (je_var 0 rfl (Or.inl rfl) (by decide) (by decide)) (ja_cons (je_var 1 rfl (Or.inl rfl) (by decide) (by decide)) ja_nil (by rfl)) (by rfl)) (ga_cons (ga_cons ga_nil)) (by decide) (by rfl) (by rfl)) (by rfl)) (js_cons (js_set 2 sc_count_matches.nd rfl (Or.inr rfl) (je_ix ij_ix (je_cal (L2N.takes_of rfl rfl rfl rfl) c_forward rfl (hr.mono (by omega)) (by rfl) (ja_cons (je_var 0 rfl (Or.inl rfl) (by decide) (by decide)) (ja_cons (je_var 1 rfl (Or.inl rfl) (by decide) (by decide)) ja_nil (by rfl)) (by rfl)) (ga_cons (ga_cons ga_nil)) (by decide) (by rfl) (by rfl)) (je_un uj_neg je_int) (fun _ _ => rfl)) (by rfl) (Or.inl rfl)) (js_one (js_ret (je_callB (cj_sum rfl) (by rfl) z_sum (by decide +kernel) (ja_cons (je_comp rfl sc_count_matches.nd (ji_val (je_sortTK rfl hr.units (by rfl) z_sorted (by decide +kernel) (ja_cons (je_var 2 rfl (Or.inr (Or.inl rfl)) (by decide) (by decide)) ja_nil (by rfl)) (by decide) (by decide) (by rfl) (by rfl))) (blkOk_by (own := [("state", 3)]) (N := ["pattern", "works", "table", "state"]) (sc := defScope s_count_matches) (by decide +kernel)) rfl (fun _ _ _ _ _ => (jg_name 3 sc_count_matches.nd rfl (Or.inl rfl) (Or.inr rfl))) (fun _ _ _ _ _ => jts_nil) (fun _ _ _ _ _ => (je_tget (hu1 hr.units) (je_var 2 rfl (Or.inr (Or.inl rfl)) (by decide) (by decide)) (je_var 3 rfl (Or.inl rfl) (by decide) (by decide)) (fun _ _ => rfl))) (fun _ => rfl)) ja_nil (by rfl)) (by decide) (by decide) (by rfl) (by rfl))))))

abbrev s_meanings : Stmt := topS 64
theorem sc_meanings : FnScope ["pattern", "works", "index", "tables", "rests", "state"] ["pattern", "works", "index"] (defScope s_meanings) := ⟨rfl, rfl, rfl, by decide +kernel, rfl, by decide +kernel, by decide +kernel⟩
def G_meanings : SDen := (sSeq (sExpr (eFn F_need_pattern (aCons (eVar 0) (aCons (eVar 1) aNil)))) (sSeq (sIf (tNotD (tOf (eFn F_is_from (aCons (eVar 2) (aCons (eC (.int 0)) (aCons (eBin dSub (eCall dLen (aCons (eVar 0) aNil)) (eC (.int 1))) aNil)))))) sNever sNil) (sSeq (sSet 3 (eFn F_forward (aCons (eVar 0) (aCons (eVar 1) aNil)))) (sSeq (sSet 4 (eBin dIx (eFn F_backward (aCons (eVar 0) (aCons (eVar 1) (aCons (eVar 3) aNil)))) (eBin dAdd (eVar 2) (eC (.int 1))))) (sRet (eCall dSortQ (aCons (eCall dSet (aCons (eComp (eKeysT (eVar 4)) [5] (gN 5) (tOf (eBin dGt (eBin dTGet (eVar 4) (eVar 5)) (eC (.int 0)))) (eBin dIx (eVar 5) (eC (.int 1)))) aNil)) aNil)))))))
def F_meanings : FDen := runF 3 6 G_meanings
theorem w_meanings {a0 a1 a2 : D} {ce : Cells} {Q : D → Cells → Prop} {E : Str → Cells → Prop} (h : WS ((sSeq (sExpr (eFn F_need_pattern (aCons (eVar 0) (aCons (eVar 1) aNil)))) (sSeq (sIf (tNotD (tOf (eFn F_is_from (aCons (eVar 2) (aCons (eC (.int 0)) (aCons (eBin dSub (eCall dLen (aCons (eVar 0) aNil)) (eC (.int 1))) aNil)))))) sNever sNil) (sSeq (sSet 3 (eFn F_forward (aCons (eVar 0) (aCons (eVar 1) aNil)))) (sSeq (sSet 4 (eBin dIx (eFn F_backward (aCons (eVar 0) (aCons (eVar 1) (aCons (eVar 3) aNil)))) (eBin dAdd (eVar 2) (eC (.int 1))))) (sRet (eCall dSortQ (aCons (eCall dSet (aCons (eComp (eKeysT (eVar 4)) [5] (gN 5) (tOf (eBin dGt (eBin dTGet (eVar 4) (eVar 5)) (eC (.int 0)))) (eBin dIx (eVar 5) (eC (.int 1)))) aNil)) aNil))))))) [some a0, some a1, some a2, none, none, none] ce) (fun _ ce1 => WFin ce.length .non ce1 Q) (fun d ce1 => WFin ce.length d ce1 Q) (fun _ _ => False) (fun _ _ => False) fun x _ ce1 => E x (ce1.take ce.length)) : WE (F_meanings [a0, a1, a2] ce) Q E := run_ws rfl h
theorem cal_meanings {P : Program} {w : World} {K : PySem.W.Frag} {mg : Str → Option Value} {base : Heap} {f : Addr} {fd : FuncData} (F : Fun K "meanings" "meanings" s_meanings f fd) (hm : mg "meanings" = some (.ref f)) (z_len : mg "len" = none) (z_set : mg "set" = none) (z_sorted : mg "sorted" = none) (c_need_pattern : Cal P w K mg base 3 "need_pattern" 2 F_need_pattern) (c_is_from : Cal P w K mg base 1 "is_from" 3 F_is_from) (c_forward : Cal P w K mg base 2 "forward" 2 F_forward) (c_backward : Cal P w K mg base 2 "backward" 3 F_backward) : Cal P w K mg base 4 "meanings" 3 F_meanings := by
  refine cal_mk (g := G_meanings) (ps := ["pattern", "works", "index"]) (N := ["pattern", "works", "index", "tables", "rests", "state"]) F hm sc_meanings (fun _ _ _ _ _ _ us hl => match us, hl with | [_, _, _], _ => rfl) fun cdv A outer s H E hr => ?_
  exact (js_cons (js_expr (je_cal (L2N.takes_of rfl rfl rfl rfl) c_need_pattern rfl (hr.mono (by omega)) (by rfl) (ja_cons (je_var 0 rfl (Or.inl rfl) (by decide) (by decide)) (ja_cons (je_var 1 rfl (Or.inl rfl) (by decide) (by decide)) ja_nil (by rfl)) (by rfl)) (ga_cons (ga_cons ga_nil)) (by decide) (by rfl) (by rfl)) (by rfl)) (js_cons (js_if (jt_not (jt_val (je_cal (L2N.takes_of rfl rfl rfl rfl) c_is_from rfl (hr.mono (by omega)) (by rfl) (ja_cons (je_var 2 rfl (Or.inl rfl) (by decide) (by decide)) (ja_cons je_int (ja_cons (je_bin oj_sub (je_callB cj_len (by rfl) z_len (by decide +kernel) (ja_cons (je_var 0 rfl (Or.inl rfl) (by decide) (by decide)) ja_nil (by rfl)) (by decide) (by decide) (by rfl) (by rfl)) je_int) ja_nil (by rfl)) (by rfl)) (by rfl)) (ga_cons (ga_cons (ga_cons ga_nil))) (by decide) (by rfl) (by rfl)) (fun _ => rfl))) (js_one js_never) js_nil) (js_cons (js_set 3 sc_meanings.nd rfl (Or.inl rfl) (je_cal (L2N.takes_of rfl rfl rfl rfl) c_forward rfl (hr.mono (by omega)) (by rfl) (ja_cons (je_var 0 rfl (Or.inl rfl) (by decide) (by decide)) (ja_cons (je_var 1 rfl (Or.inl rfl) (by decide) (by decide)) ja_nil (by rfl)) (by rfl)) (ga_cons (ga_cons ga_nil)) (by decide) (by rfl) (by rfl)) (by rfl) (Or.inl rfl)) (js_cons (js_set 4 sc_meanings.nd rfl (Or.inr rfl) (je_ix ij_ix (je_cal (L2N.takes_of rfl rfl rfl rfl) c_backward rfl (hr.mono (by omega)) (by rfl) (ja_cons (je_var 0 rfl (Or.inl rfl) (by decide) (by decide)) (ja_cons (je_var 1 rfl (Or.inl rfl) (by decide) (by decide)) (ja_cons (je_var 3 rfl (Or.inl rfl) (by decide) (by decide)) ja_nil (by rfl)) (by rfl)) (by rfl)) (ga_cons (ga_cons (ga_cons ga_nil))) (by decide) (by rfl) (by rfl)) (je_bin oj_add (je_var 2 rfl (Or.inl rfl) (by decide) (by decide)) je_int) (fun _ _ => rfl)) (by rfl) (Or.inl rfl)) (js_one (js_ret (je_callB (cj_sortQ rfl) (by rfl) z_sorted (by decide +kernel) (ja_cons (je_callTy (cj_set rfl) (by rfl) z_set (by decide +kernel) (ja_cons (je_comp rfl sc_meanings.nd (ji_keysT (je_var 4 rfl (Or.inr (Or.inl rfl)) (by decide) (by decide))) (blkOk_by (own := [("state", 5)]) (N := ["pattern", "works", "index", "tables", "rests", "state"]) (sc := defScope s_meanings) (by decide +kernel)) rfl (fun _ _ _ _ _ => (jg_name 5 sc_meanings.nd rfl (Or.inl rfl) (Or.inr rfl))) (fun _ _ _ _ _ => (jts_one (jt_cmp oj_gt (je_tget (hu1 hr.units) (je_var 4 rfl (Or.inr (Or.inl rfl)) (by decide) (by decide)) (je_var 5 rfl (Or.inl rfl) (by decide) (by decide)) (fun _ _ => rfl)) je_int (nomark _)))) (fun _ _ _ _ _ => (je_ix ij_ix (je_var 5 rfl (Or.inl rfl) (by decide) (by decide)) je_int (fun _ _ => rfl))) (fun _ => rfl)) ja_nil (by rfl)) (by decide) (by decide) (by rfl) (by rfl)) ja_nil (by rfl)) (by decide) (by decide) (by rfl) (by rfl))))))))

abbrev s__law_deck : Stmt := topS 71
theorem sc__law_deck : FnScope ["_law_cell", "_law_turn"] ["_law_cell", "_law_turn"] (defScope s__law_deck) := ⟨rfl, rfl, rfl, by decide +kernel, rfl, by decide +kernel, by decide +kernel⟩
def G__law_deck : SDen := (sSeq (sIf (tOf (eBin dGe (eVar 0) (eBin dPow (eC (.int 10)) (eC (.int 18))))) (sRet (eLstC (aCons (eBin dSub (eVar 0) (eBin dPow (eC (.int 10)) (eC (.int 18)))) (aCons (eBin dMod (eVar 0) (eC (.int 2147483579))) (aCons (eVar 1) aNil))))) sNil) (sRet (eLstC (aCons (eC (.int 0)) (aCons (eBin dMod (eVar 0) (eC (.int 2147483579))) (aCons (eVar 1) aNil))))))
def F__law_deck : FDen := runF 2 2 G__law_deck
theorem w__law_deck {a0 a1 : D} {ce : Cells} {Q : D → Cells → Prop} {E : Str → Cells → Prop} (h : WS ((sSeq (sIf (tOf (eBin dGe (eVar 0) (eBin dPow (eC (.int 10)) (eC (.int 18))))) (sRet (eLstC (aCons (eBin dSub (eVar 0) (eBin dPow (eC (.int 10)) (eC (.int 18)))) (aCons (eBin dMod (eVar 0) (eC (.int 2147483579))) (aCons (eVar 1) aNil))))) sNil) (sRet (eLstC (aCons (eC (.int 0)) (aCons (eBin dMod (eVar 0) (eC (.int 2147483579))) (aCons (eVar 1) aNil)))))) [some a0, some a1] ce) (fun _ ce1 => WFin ce.length .non ce1 Q) (fun d ce1 => WFin ce.length d ce1 Q) (fun _ _ => False) (fun _ _ => False) fun x _ ce1 => E x (ce1.take ce.length)) : WE (F__law_deck [a0, a1] ce) Q E := run_ws rfl h
theorem cal__law_deck {P : Program} {w : World} {K : PySem.W.Frag} {mg : Str → Option Value} {base : Heap} {f : Addr} {fd : FuncData} (F : Fun K "_law_deck" "_law_deck" s__law_deck f fd) (hm : mg "_law_deck" = some (.ref f)) : Cal P w K mg base 1 "_law_deck" 2 F__law_deck := by
  refine cal_mk (g := G__law_deck) (ps := ["_law_cell", "_law_turn"]) (N := ["_law_cell", "_law_turn"]) F hm sc__law_deck (fun _ _ _ _ _ _ us hl => match us, hl with | [_, _], _ => rfl) fun cdv A outer s H E hr => ?_
  exact (js_cons (js_if (jt_cmp oj_ge (je_var 0 rfl (Or.inl rfl) (by decide) (by decide)) (je_bin oj_pow je_int je_int) (nomark _)) (js_one (js_ret (je_lstC (ja_cons (je_bin oj_sub (je_var 0 rfl (Or.inl rfl) (by decide) (by decide)) (je_bin oj_pow je_int je_int)) (ja_cons (je_bin oj_mod (je_var 0 rfl (Or.inl rfl) (by decide) (by decide)) je_int) (ja_cons (je_var 1 rfl (Or.inl rfl) (by decide) (by decide)) ja_nil (by rfl)) (by rfl)) (by rfl))))) js_nil) (js_one (js_ret (je_lstC (ja_cons je_int (ja_cons (je_bin oj_mod (je_var 0 rfl (Or.inl rfl) (by decide) (by decide)) je_int) (ja_cons (je_var 1 rfl (Or.inl rfl) (by decide) (by decide)) ja_nil (by rfl)) (by rfl)) (by rfl))))))

abbrev s__law_pick : Stmt := topS 72
theorem sc__law_pick : FnScope ["_law_deck_here", "_law_limit", "_law_number", "_law_found"] ["_law_deck_here", "_law_limit"] (defScope s__law_pick) := ⟨rfl, rfl, rfl, by decide +kernel, rfl, by decide +kernel, by decide +kernel⟩
def G__law_pick : SDen := (sSeq (sIf (tOf (eBin dGt (eBin dIx (eVar 0) (eC (.int 0))) (eC (.int 1)))) (sSeq (sSet 3 (eBin dMod (eBin dIx (eVar 0) (eC (.int 0))) (eVar 1))) (sSeq (sSetIx (eVar 0) (eC (.int 0)) (eBin dDiv (eBin dIx (eVar 0) (eC (.int 0))) (eVar 1))) (sRet (eVar 3)))) sNil) (sSeq (sSetIx (eVar 0) (eC (.int 2)) (eBin dAdd (eBin dIx (eVar 0) (eC (.int 2))) (eC (.int 1)))) (sSeq (sSet 2 (eBin dMod (eBin dPow (eBin dAdd (eBin dIx (eVar 0) (eC (.int 1))) (eBin dMul (eC (.int 15485867)) (eBin dIx (eVar 0) (eC (.int 2))))) (eC (.int 5))) (eC (.int 2147483647)))) (sSeq (sSet 3 (eBin dDiv (eBin dMod (eBin dPow (eBin dAdd (eVar 2) (eBin dMul (eC (.int 7919)) (eBin dIx (eVar 0) (eC (.int 2))))) (eC (.int 3))) (eC (.int 2147483629))) (eC (.int 32)))) (sSeq (sIf (tOf (eBin dGt (eVar 1) (eC (.int 1000000)))) (sRet (eBin dMod (eBin dAdd (eBin dMul (eVar 3) (eC (.int 2147483563))) (eVar 2)) (eVar 1))) sNil) (sRet (eBin dMod (eVar 3) (eVar 1))))))))
def F__law_pick : FDen := runF 2 4 G__law_pick
theorem w__law_pick {a0 a1 : D} {ce : Cells} {Q : D → Cells → Prop} {E : Str → Cells → Prop} (h : WS ((sSeq (sIf (tOf (eBin dGt (eBin dIx (eVar 0) (eC (.int 0))) (eC (.int 1)))) (sSeq (sSet 3 (eBin dMod (eBin dIx (eVar 0) (eC (.int 0))) (eVar 1))) (sSeq (sSetIx (eVar 0) (eC (.int 0)) (eBin dDiv (eBin dIx (eVar 0) (eC (.int 0))) (eVar 1))) (sRet (eVar 3)))) sNil) (sSeq (sSetIx (eVar 0) (eC (.int 2)) (eBin dAdd (eBin dIx (eVar 0) (eC (.int 2))) (eC (.int 1)))) (sSeq (sSet 2 (eBin dMod (eBin dPow (eBin dAdd (eBin dIx (eVar 0) (eC (.int 1))) (eBin dMul (eC (.int 15485867)) (eBin dIx (eVar 0) (eC (.int 2))))) (eC (.int 5))) (eC (.int 2147483647)))) (sSeq (sSet 3 (eBin dDiv (eBin dMod (eBin dPow (eBin dAdd (eVar 2) (eBin dMul (eC (.int 7919)) (eBin dIx (eVar 0) (eC (.int 2))))) (eC (.int 3))) (eC (.int 2147483629))) (eC (.int 32)))) (sSeq (sIf (tOf (eBin dGt (eVar 1) (eC (.int 1000000)))) (sRet (eBin dMod (eBin dAdd (eBin dMul (eVar 3) (eC (.int 2147483563))) (eVar 2)) (eVar 1))) sNil) (sRet (eBin dMod (eVar 3) (eVar 1)))))))) [some a0, some a1, none, none] ce) (fun _ ce1 => WFin ce.length .non ce1 Q) (fun d ce1 => WFin ce.length d ce1 Q) (fun _ _ => False) (fun _ _ => False) fun x _ ce1 => E x (ce1.take ce.length)) : WE (F__law_pick [a0, a1] ce) Q E := run_ws rfl h
theorem cal__law_pick {P : Program} {w : World} {K : PySem.W.Frag} {mg : Str → Option Value} {base : Heap} {f : Addr} {fd : FuncData} (F : Fun K "_law_pick" "_law_pick" s__law_pick f fd) (hm : mg "_law_pick" = some (.ref f)) : Cal P w K mg base 1 "_law_pick" 2 F__law_pick := by
  refine cal_mk (g := G__law_pick) (ps := ["_law_deck_here", "_law_limit"]) (N := ["_law_deck_here", "_law_limit", "_law_number", "_law_found"]) F hm sc__law_pick (fun _ _ _ _ _ _ us hl => match us, hl with | [_, _], _ => rfl) fun cdv A outer s H E hr => ?_
  exact (js_cons (js_if (jt_cmp oj_gt (je_ix ij_ix (je_var 0 rfl (Or.inl rfl) (by decide) (by decide)) je_int (fun _ _ => rfl)) je_int (nomark _)) (js_cons (js_set 3 sc__law_pick.nd rfl (Or.inl rfl) (je_bin oj_mod (je_ix ij_ix (je_var 0 rfl (Or.inl rfl) (by decide) (by decide)) je_int (fun _ _ => rfl)) (je_var 1 rfl (Or.inl rfl) (by decide) (by decide))) (by rfl) (Or.inl rfl)) (js_cons (js_setIx (je_bin oj_div (je_ix ij_ix (je_var 0 rfl (Or.inl rfl) (by decide) (by decide)) je_int (fun _ _ => rfl)) (je_var 1 rfl (Or.inl rfl) (by decide) (by decide))) (je_var 0 rfl (Or.inl rfl) (by decide) (by decide)) je_int (fun _ => rfl) (by rfl) (by rfl) (by rfl)) (js_one (js_ret (je_var 3 rfl (Or.inl rfl) (by decide) (by decide)))))) js_nil) (js_cons (js_setIx (je_bin oj_add (je_ix ij_ix (je_var 0 rfl (Or.inl rfl) (by decide) (by decide)) je_int (fun _ _ => rfl)) je_int) (je_var 0 rfl (Or.inl rfl) (by decide) (by decide)) je_int (fun _ => rfl) (by rfl) (by rfl) (by rfl)) (js_cons (js_set 2 sc__law_pick.nd rfl (Or.inl rfl) (je_bin oj_mod (je_bin oj_pow (je_bin oj_add (je_ix ij_ix (je_var 0 rfl (Or.inl rfl) (by decide) (by decide)) je_int (fun _ _ => rfl)) (je_bin oj_mul je_int (je_ix ij_ix (je_var 0 rfl (Or.inl rfl) (by decide) (by decide)) je_int (fun _ _ => rfl)))) je_int) je_int) (by rfl) (Or.inl rfl)) (js_cons (js_set 3 sc__law_pick.nd rfl (Or.inl rfl) (je_bin oj_div (je_bin oj_mod (je_bin oj_pow (je_bin oj_add (je_var 2 rfl (Or.inl rfl) (by decide) (by decide)) (je_bin oj_mul je_int (je_ix ij_ix (je_var 0 rfl (Or.inl rfl) (by decide) (by decide)) je_int (fun _ _ => rfl)))) je_int) je_int) je_int) (by rfl) (Or.inl rfl)) (js_cons (js_if (jt_cmp oj_gt (je_var 1 rfl (Or.inl rfl) (by decide) (by decide)) je_int (nomark _)) (js_one (js_ret (je_bin oj_mod (je_bin oj_add (je_bin oj_mul (je_var 3 rfl (Or.inl rfl) (by decide) (by decide)) je_int) (je_var 2 rfl (Or.inl rfl) (by decide) (by decide))) (je_var 1 rfl (Or.inl rfl) (by decide) (by decide))))) js_nil) (js_one (js_ret (je_bin oj_mod (je_var 3 rfl (Or.inl rfl) (by decide) (by decide)) (je_var 1 rfl (Or.inl rfl) (by decide) (by decide))))))))))

abbrev s__law_name_of : Stmt := topS 73
theorem sc__law_name_of : FnScope ["_law_e", "_law_matching", "_law_words", "_law_found", "_law_word", "_law_good"] ["_law_e"] (defScope s__law_name_of) := ⟨rfl, rfl, rfl, by decide +kernel, rfl, by decide +kernel, by decide +kernel⟩
def G__law_name_of (b_InvalidOrder b_InvalidWorks b_InvalidRow b_InvalidStretch b_InvalidIndex b_InvalidNumber b_NotRight b_InvalidPattern b_InvalidSign b_NothingToUndo b_NotPossible b_ValueError : Bool) (a : Addr) : SDen := (sSeq (sSet 1 (eLst (aCons (eIsE a b_InvalidRow 0) (aCons (eIsE a b_InvalidWorks 0) (aCons (eIsE a b_InvalidOrder 0) aNil))))) (sSeq (sSet 1 (eBin dAdd (eVar 1) (eLst (aCons (eIsE a b_InvalidNumber 0) (aCons (eIsE a b_InvalidIndex 0) (aCons (eIsE a b_InvalidStretch 0) aNil)))))) (sSeq (sSet 1 (eBin dAdd (eVar 1) (eLst (aCons (eIsE a b_InvalidSign 0) (aCons (eIsE a b_InvalidPattern 0) (aCons (eIsE a b_NotRight 0) aNil)))))) (sSeq (sSet 1 (eBin dAdd (eVar 1) (eLst (aCons (eIsE a b_NotPossible 0) (aCons (eIsE a b_NothingToUndo 0) aNil))))) (sSeq (sSet 2 (eLst (aCons (eC (.str [82, 111, 119])) (aCons (eC (.str [87, 111, 114, 107, 115])) (aCons (eC (.str [79, 114, 100, 101, 114])) (aCons (eC (.str [78, 117, 109, 98, 101, 114])) (aCons (eC (.str [73, 110, 100, 101, 120])) (aCons (eC (.str [83, 116, 114, 101, 116, 99, 104])) (aCons (eC (.str [83, 105, 103, 110])) (aCons (eC (.str [80, 97, 116, 116, 101, 114, 110])) (aCons (eC (.str [82, 105, 103, 104, 116])) (aCons (eC (.str [80, 111, 115, 115, 105, 98, 108, 101])) (aCons (eC (.str [85, 110, 100, 111])) aNil))))))))))))) (sSeq (sSet 3 (eComp (eSrcC srcZipH (aCons (eVar 2) (aCons (eVar 1) aNil))) [4, 5] (gT (gsN [4, 5]) 2) (tOf (eVar 5)) (eVar 4))) (sRet (eBin dAdd (eMethR "str" dJoin (eC (.str [])) (aCons (eVar 3) aNil)) (eIf (tOf (eIsE a b_ValueError 0)) (eC (.str [43])) (eC (.str [])))))))))))
theorem fnp__law_name_of {P : Program} {w : World} {K : PySem.W.Frag} {mg : Str → Option Value} {base : Heap} {f : Addr} {fd : FuncData} (F : Fun K "_law_name_of" "_law_name_of" s__law_name_of f fd) (z_ValueError : mg "ValueError" = none) (z_isinstance : mg "isinstance" = none) (z_zip : mg "zip" = none) {C_InvalidOrder : Addr} (m_InvalidOrder : mg "InvalidOrder" = some (.ref C_InvalidOrder)) {C_InvalidWorks : Addr} (m_InvalidWorks : mg "InvalidWorks" = some (.ref C_InvalidWorks)) {C_InvalidRow : Addr} (m_InvalidRow : mg "InvalidRow" = some (.ref C_InvalidRow)) {C_InvalidStretch : Addr} (m_InvalidStretch : mg "InvalidStretch" = some (.ref C_InvalidStretch)) {C_InvalidIndex : Addr} (m_InvalidIndex : mg "InvalidIndex" = some (.ref C_InvalidIndex)) {C_InvalidNumber : Addr} (m_InvalidNumber : mg "InvalidNumber" = some (.ref C_InvalidNumber)) {C_NotRight : Addr} (m_NotRight : mg "NotRight" = some (.ref C_NotRight)) {C_InvalidPattern : Addr} (m_InvalidPattern : mg "InvalidPattern" = some (.ref C_InvalidPattern)) {C_InvalidSign : Addr} (m_InvalidSign : mg "InvalidSign" = some (.ref C_InvalidSign)) {C_NothingToUndo : Addr} (m_NothingToUndo : mg "NothingToUndo" = some (.ref C_NothingToUndo)) {C_NotPossible : Addr} (m_NotPossible : mg "NotPossible" = some (.ref C_NotPossible)) {D : Addr} {b_InvalidOrder b_InvalidWorks b_InvalidRow b_InvalidStretch b_InvalidIndex b_InvalidNumber b_NotRight b_InvalidPattern b_InvalidSign b_NothingToUndo b_NotPossible b_ValueError : Bool} (hC : ExcC K D) (e_InvalidOrder : PySem.W.kitOne K (.ref D) (.ref C_InvalidOrder) = some b_InvalidOrder) (e_InvalidWorks : PySem.W.kitOne K (.ref D) (.ref C_InvalidWorks) = some b_InvalidWorks) (e_InvalidRow : PySem.W.kitOne K (.ref D) (.ref C_InvalidRow) = some b_InvalidRow) (e_InvalidStretch : PySem.W.kitOne K (.ref D) (.ref C_InvalidStretch) = some b_InvalidStretch) (e_InvalidIndex : PySem.W.kitOne K (.ref D) (.ref C_InvalidIndex) = some b_InvalidIndex) (e_InvalidNumber : PySem.W.kitOne K (.ref D) (.ref C_InvalidNumber) = some b_InvalidNumber) (e_NotRight : PySem.W.kitOne K (.ref D) (.ref C_NotRight) = some b_NotRight) (e_InvalidPattern : PySem.W.kitOne K (.ref D) (.ref C_InvalidPattern) = some b_InvalidPattern) (e_InvalidSign : PySem.W.kitOne K (.ref D) (.ref C_InvalidSign) = some b_InvalidSign) (e_NothingToUndo : PySem.W.kitOne K (.ref D) (.ref C_NothingToUndo) = some b_NothingToUndo) (e_NotPossible : PySem.W.kitOne K (.ref D) (.ref C_NotPossible) = some b_NotPossible) (e_ValueError : PySem.W.kitOne K (.ref D) (.type "ValueError") = some b_ValueError) {nm : List Nat} (hnm : okS nm) (hval : ∀ a ce, ∃ ce1, G__law_name_of b_InvalidOrder b_InvalidWorks b_InvalidRow b_InvalidStretch b_InvalidIndex b_InvalidNumber b_NotRight b_InvalidPattern b_InvalidSign b_NothingToUndo b_NotPossible b_ValueError a (some (.adr a) :: List.replicate 5 none) ce = .rt (.str nm) ce1 ∧ ce1.take ce.length = ce) (k : Nat) : FnP P w K mg base (k + 1) f fd ["_law_e"] D nm :=
  fnP_of (N := ["_law_e", "_law_matching", "_law_words", "_law_found", "_law_word", "_law_good"]) (ps := ["_law_e"]) (g := G__law_name_of b_InvalidOrder b_InvalidWorks b_InvalidRow b_InvalidStretch b_InvalidIndex b_InvalidNumber b_NotRight b_InvalidPattern b_InvalidSign b_NothingToUndo b_NotPossible b_ValueError) F sc__law_name_of rfl (fun cdv A outer s H p hot hz => (js_cons (js_set 1 sc__law_name_of.nd rfl (Or.inl rfl) (je_lst (ja_cons (je_isE (i := 0) hC (List.mem_singleton.mpr rfl : (p.1, p.2) ∈ [p]) hz (hot.2.imp fun _ z => z.1) e_InvalidRow (by rfl) z_isinstance rfl (Or.inl rfl) (by decide) (by decide) (by rfl) m_InvalidRow (by decide) (by rfl) (by rfl) (by rfl)) (ja_cons (je_isE (i := 0) hC (List.mem_singleton.mpr rfl : (p.1, p.2) ∈ [p]) hz (hot.2.imp fun _ z => z.1) e_InvalidWorks (by rfl) z_isinstance rfl (Or.inl rfl) (by decide) (by decide) (by rfl) m_InvalidWorks (by decide) (by rfl) (by rfl) (by rfl)) (ja_cons (je_isE (i := 0) hC (List.mem_singleton.mpr rfl : (p.1, p.2) ∈ [p]) hz (hot.2.imp fun _ z => z.1) e_InvalidOrder (by rfl) z_isinstance rfl (Or.inl rfl) (by decide) (by decide) (by rfl) m_InvalidOrder (by decide) (by rfl) (by rfl) (by rfl)) ja_nil (by rfl)) (by rfl)) (by rfl))) (by rfl) (Or.inl rfl)) (js_cons (js_set 1 sc__law_name_of.nd rfl (Or.inl rfl) (je_bin oj_add (je_var 1 rfl (Or.inl rfl) (by decide) (by decide)) (je_lst (ja_cons (je_isE (i := 0) hC (List.mem_singleton.mpr rfl : (p.1, p.2) ∈ [p]) hz (hot.2.imp fun _ z => z.1) e_InvalidNumber (by rfl) z_isinstance rfl (Or.inl rfl) (by decide) (by decide) (by rfl) m_InvalidNumber (by decide) (by rfl) (by rfl) (by rfl)) (ja_cons (je_isE (i := 0) hC (List.mem_singleton.mpr rfl : (p.1, p.2) ∈ [p]) hz (hot.2.imp fun _ z => z.1) e_InvalidIndex (by rfl) z_isinstance rfl (Or.inl rfl) (by decide) (by decide) (by rfl) m_InvalidIndex (by decide) (by rfl) (by rfl) (by rfl)) (ja_cons (je_isE (i := 0) hC (List.mem_singleton.mpr rfl : (p.1, p.2) ∈ [p]) hz (hot.2.imp fun _ z => z.1) e_InvalidStretch (by rfl) z_isinstance rfl (Or.inl rfl) (by decide) (by decide) (by rfl) m_InvalidStretch (by decide) (by rfl) (by rfl) (by rfl)) ja_nil (by rfl)) (by rfl)) (by rfl)))) (by rfl) (Or.inl rfl)) (js_cons (js_set 1 sc__law_name_of.nd rfl (Or.inl rfl) (je_bin oj_add (je_var 1 rfl (Or.inl rfl) (by decide) (by decide)) (je_lst (ja_cons (je_isE (i := 0) hC (List.mem_singleton.mpr rfl : (p.1, p.2) ∈ [p]) hz (hot.2.imp fun _ z => z.1) e_InvalidSign (by rfl) z_isinstance rfl (Or.inl rfl) (by decide) (by decide) (by rfl) m_InvalidSign (by decide) (by rfl) (by rfl) (by rfl)) (ja_cons (je_isE (i := 0) hC (List.mem_singleton.mpr rfl : (p.1, p.2) ∈ [p]) hz (hot.2.imp fun _ z => z.1) e_InvalidPattern (by rfl) z_isinstance rfl (Or.inl rfl) (by decide) (by decide) (by rfl) m_InvalidPattern (by decide) (by rfl) (by rfl) (by rfl)) (ja_cons (je_isE (i := 0) hC (List.mem_singleton.mpr rfl : (p.1, p.2) ∈ [p]) hz (hot.2.imp fun _ z => z.1) e_NotRight (by rfl) z_isinstance rfl (Or.inl rfl) (by decide) (by decide) (by rfl) m_NotRight (by decide) (by rfl) (by rfl) (by rfl)) ja_nil (by rfl)) (by rfl)) (by rfl)))) (by rfl) (Or.inl rfl)) (js_cons (js_set 1 sc__law_name_of.nd rfl (Or.inl rfl) (je_bin oj_add (je_var 1 rfl (Or.inl rfl) (by decide) (by decide)) (je_lst (ja_cons (je_isE (i := 0) hC (List.mem_singleton.mpr rfl : (p.1, p.2) ∈ [p]) hz (hot.2.imp fun _ z => z.1) e_NotPossible (by rfl) z_isinstance rfl (Or.inl rfl) (by decide) (by decide) (by rfl) m_NotPossible (by decide) (by rfl) (by rfl) (by rfl)) (ja_cons (je_isE (i := 0) hC (List.mem_singleton.mpr rfl : (p.1, p.2) ∈ [p]) hz (hot.2.imp fun _ z => z.1) e_NothingToUndo (by rfl) z_isinstance rfl (Or.inl rfl) (by decide) (by decide) (by rfl) m_NothingToUndo (by decide) (by rfl) (by rfl) (by rfl)) ja_nil (by rfl)) (by rfl)))) (by rfl) (Or.inl rfl)) (js_cons (js_set 2 sc__law_name_of.nd rfl (Or.inl rfl) (je_lst (ja_cons (je_str [82, 111, 119] (by decide +kernel) (by decide +kernel)) (ja_cons (je_str [87, 111, 114, 107, 115] (by decide +kernel) (by decide +kernel)) (ja_cons (je_str [79, 114, 100, 101, 114] (by decide +kernel) (by decide +kernel)) (ja_cons (je_str [78, 117, 109, 98, 101, 114] (by decide +kernel) (by decide +kernel)) (ja_cons (je_str [73, 110, 100, 101, 120] (by decide +kernel) (by decide +kernel)) (ja_cons (je_str [83, 116, 114, 101, 116, 99, 104] (by decide +kernel) (by decide +kernel)) (ja_cons (je_str [83, 105, 103, 110] (by decide +kernel) (by decide +kernel)) (ja_cons (je_str [80, 97, 116, 116, 101, 114, 110] (by decide +kernel) (by decide +kernel)) (ja_cons (je_str [82, 105, 103, 104, 116] (by decide +kernel) (by decide +kernel)) (ja_cons (je_str [80, 111, 115, 115, 105, 98, 108, 101] (by decide +kernel) (by decide +kernel)) (ja_cons (je_str [85, 110, 100, 111] (by decide +kernel) (by decide +kernel)) ja_nil (by rfl)) (by rfl)) (by rfl)) (by rfl)) (by rfl)) (by rfl)) (by rfl)) (by rfl)) (by rfl)) (by rfl)) (by rfl))) (by rfl) (Or.inl rfl)) (js_cons (js_setCompH 3 ⟨p, hot, List.mem_singleton.mpr rfl⟩ sc__law_name_of.nd rfl rfl (sw_true rfl rfl rfl (by decide +kernel)) (ji_zipH (by rfl) z_zip (ja_cons (je_var 2 rfl (Or.inl rfl) (by decide) (by decide)) (ja_cons (je_var 1 rfl (Or.inl rfl) (by decide) (by decide)) ja_nil (by rfl)) (by rfl)) (by rfl) (by rfl)) (blkOk_by (own := [("_law_word", 4), ("_law_good", 5)]) (N := ["_law_e", "_law_matching", "_law_words", "_law_found", "_law_word", "_law_good"]) (sc := defScope s__law_name_of) (by decide +kernel)) rfl (fun _ _ _ _ _ => (jg_tupH ⟨p, hot, List.mem_singleton.mpr rfl⟩ (jgs_cons 4 sc__law_name_of.nd rfl (Or.inl rfl) (Or.inr rfl) (jgs_cons 5 sc__law_name_of.nd rfl (Or.inl rfl) (Or.inr rfl) jgs_nil rfl) rfl) rfl rfl)) (fun _ _ _ _ _ => (jts_one (jt_val (je_var 5 rfl (Or.inl rfl) (by decide) (by decide)) (fun _ => rfl)))) (fun _ _ _ _ _ => (je_var 4 rfl (Or.inl rfl) (by decide) (by decide))) (fun _ => rfl)) (js_one (js_ret (je_bin oj_add (je_methR PySem.F.plainAttrs_str PySem.F.slot_str_join PySem.F.type_str_join mj_join (je_str [] (by decide +kernel) (by decide +kernel)) (ja_cons (je_var 3 rfl (Or.inl rfl) (by decide) (by decide)) ja_nil (by rfl)) (by rfl) (by rfl) (by rfl) (by rfl) (by rfl)) (je_if (jt_val (je_isEB (i := 0) hC (List.mem_singleton.mpr rfl : (p.1, p.2) ∈ [p]) hz (hot.2.imp fun _ z => z.1) e_ValueError (by rfl) z_isinstance rfl (Or.inl rfl) (by decide) (by decide) (by rfl) z_ValueError (by rfl) (by decide +kernel) (by decide) (by rfl) (by rfl) (by rfl)) (fun _ => rfl)) (je_str [43] (by decide +kernel) (by decide +kernel)) (je_str [] (by decide +kernel) (by decide +kernel))))))))))))) hval hnm
theorem nm_NotPossible (a : Addr) (ce : Cells) : ∃ ce1, G__law_name_of false false false false false false false false false false true true a (some (.adr a) :: List.replicate 5 none) ce = .rt (.str [80, 111, 115, 115, 105, 98, 108, 101, 43]) ce1 ∧ ce1.take ce.length = ce := by
  refine ws_out ?_
  unfold G__law_name_of
  simp only [List.replicate]
  walk_at "w"
  refine wo_add_lst (by decide) ?_
  walk_at "w"
  refine wo_add_lst (by decide) ?_
  walk_at "w"
  refine wo_add_lst (by decide) ?_
  walk_at "w"
  refine we_nmC (ws := NMW) (bs := [false, false, false, false, false, false, false, false, false, true, false]) rfl (by decide) ?_
  walk_at "w"
  refine wo_of (d := .str [80, 111, 115, 115, 105, 98, 108, 101]) (by with_unfolding_all rfl) ?_
  walk_at "w"
  refine wo_add_str (by decide) ?_
  exact ⟨rfl, rfl⟩

abbrev s__law_try : Stmt := topS 74
theorem sc__law_try : FnScope ["_law_door", "_law_found", "_law_e"] ["_law_door"] (defScope s__law_try) := ⟨rfl, rfl, rfl, by decide +kernel, rfl, by decide +kernel, by decide +kernel⟩
def NT_ : List (Str × List Nat) := [("NotPossible", [80, 111, 115, 115, 105, 98, 108, 101, 43])]
theorem tryf_mk {P : Program} {w : World} {K : PySem.W.Frag} {mg : Str → Option Value} {base : Heap} {g fN NE : Addr} {fdT fdN : FuncData} (F : Fun K "_law_try" "_law_try" s__law_try g fdT) (hm : mg "_law_try" = some (.ref g)) (FN : Fun K "_law_name_of" "_law_name_of" s__law_name_of fN fdN) (mN : mg "_law_name_of" = some (.ref fN)) (mE : mg "NoteError" = some (.ref NE)) (z_ValueError : mg "ValueError" = none) (z_isinstance : mg "isinstance" = none) (z_zip : mg "zip" = none) {C_InvalidOrder : Addr} (m_InvalidOrder : mg "InvalidOrder" = some (.ref C_InvalidOrder)) {C_InvalidWorks : Addr} (m_InvalidWorks : mg "InvalidWorks" = some (.ref C_InvalidWorks)) {C_InvalidRow : Addr} (m_InvalidRow : mg "InvalidRow" = some (.ref C_InvalidRow)) {C_InvalidStretch : Addr} (m_InvalidStretch : mg "InvalidStretch" = some (.ref C_InvalidStretch)) {C_InvalidIndex : Addr} (m_InvalidIndex : mg "InvalidIndex" = some (.ref C_InvalidIndex)) {C_InvalidNumber : Addr} (m_InvalidNumber : mg "InvalidNumber" = some (.ref C_InvalidNumber)) {C_NotRight : Addr} (m_NotRight : mg "NotRight" = some (.ref C_NotRight)) {C_InvalidPattern : Addr} (m_InvalidPattern : mg "InvalidPattern" = some (.ref C_InvalidPattern)) {C_InvalidSign : Addr} (m_InvalidSign : mg "InvalidSign" = some (.ref C_InvalidSign)) {C_NothingToUndo : Addr} (m_NothingToUndo : mg "NothingToUndo" = some (.ref C_NothingToUndo)) {C_NotPossible : Addr} (m_NotPossible : mg "NotPossible" = some (.ref C_NotPossible)) (x_NotPossible : ExcC K C_NotPossible) (y_NotPossible : PySem.W.exmOne K (.ref C_NotPossible) (.ref NE) = some true) (e_NotPossible_InvalidOrder : PySem.W.kitOne K (.ref C_NotPossible) (.ref C_InvalidOrder) = some false) (e_NotPossible_InvalidWorks : PySem.W.kitOne K (.ref C_NotPossible) (.ref C_InvalidWorks) = some false) (e_NotPossible_InvalidRow : PySem.W.kitOne K (.ref C_NotPossible) (.ref C_InvalidRow) = some false) (e_NotPossible_InvalidStretch : PySem.W.kitOne K (.ref C_NotPossible) (.ref C_InvalidStretch) = some false) (e_NotPossible_InvalidIndex : PySem.W.kitOne K (.ref C_NotPossible) (.ref C_InvalidIndex) = some false) (e_NotPossible_InvalidNumber : PySem.W.kitOne K (.ref C_NotPossible) (.ref C_InvalidNumber) = some false) (e_NotPossible_NotRight : PySem.W.kitOne K (.ref C_NotPossible) (.ref C_NotRight) = some false) (e_NotPossible_InvalidPattern : PySem.W.kitOne K (.ref C_NotPossible) (.ref C_InvalidPattern) = some false) (e_NotPossible_InvalidSign : PySem.W.kitOne K (.ref C_NotPossible) (.ref C_InvalidSign) = some false) (e_NotPossible_NothingToUndo : PySem.W.kitOne K (.ref C_NotPossible) (.ref C_NothingToUndo) = some false) (e_NotPossible_NotPossible : PySem.W.kitOne K (.ref C_NotPossible) (.ref C_NotPossible) = some true) (e_NotPossible_ValueError : PySem.W.kitOne K (.ref C_NotPossible) (.type "ValueError") = some true) : TryF P w K mg base 10 s__law_try g fdT NT_ NE fN fdN ["_law_e"] where
  F := F
  m := hm
  S := sc__law_try
  b := F.binds (fun _ _ _ _ _ _ us hl => match us, hl with | [_], _ => rfl)
  l1 := rfl
  l2 := rfl
  l3 := rfl
  g1 := rfl
  g2 := rfl
  body := ⟨_, _, _, _, _, _, _, _, _, _, _, _, _, _, _, _, _, _, _, _, _, _, rfl⟩
  mE := mE
  mN := mN
  kN := FN.kp
  bN := FN.binds (fun _ _ _ _ _ _ us hl => match us, hl with | [_], _ => rfl)
  lN := rfl
  tab := fun x nm h => by
    rcases lookup_or h with ⟨rfl, rfl⟩ | h
    · exact ⟨okS_by (by decide +kernel), C_NotPossible, m_NotPossible, y_NotPossible, fnp__law_name_of FN z_ValueError z_isinstance z_zip m_InvalidOrder m_InvalidWorks m_InvalidRow m_InvalidStretch m_InvalidIndex m_InvalidNumber m_NotRight m_InvalidPattern m_InvalidSign m_NothingToUndo m_NotPossible x_NotPossible e_NotPossible_InvalidOrder e_NotPossible_InvalidWorks e_NotPossible_InvalidRow e_NotPossible_InvalidStretch e_NotPossible_InvalidIndex e_NotPossible_InvalidNumber e_NotPossible_NotRight e_NotPossible_InvalidPattern e_NotPossible_InvalidSign e_NotPossible_NothingToUndo e_NotPossible_NotPossible e_NotPossible_ValueError (okS_by (by decide +kernel)) nm_NotPossible 9⟩
    cases h

abbrev s__law_for : Stmt := topS 75
theorem sc__law_for : FnScope ["_law_text", "_law_one", "_law_two", "_law_found", "_law_sign", "_law_own"] ["_law_text", "_law_one", "_law_two"] (defScope s__law_for) := ⟨rfl, rfl, rfl, by decide +kernel, rfl, by decide +kernel, by decide +kernel⟩
def G__law_for : SDen := (sSeq (sSet 3 (eC (.str []))) (sSeq (sFor (eIter (eVar 0)) (gN 4) (sSeq (sSet 5 (eDispL [((eC (.str [65])), (eVar 1)), ((eC (.str [66])), (eVar 2)), ((eC (.str [97])), (eMeth0 "str" dLower (eVar 1))), ((eC (.str [98])), (eMeth0 "str" dLower (eVar 2)))])) (sSet 3 (eBin dAdd (eVar 3) (eDGetD (eVar 5) (eVar 4) (eVar 4)))))) (sRet (eVar 3))))
def F__law_for : FDen := runF 3 6 G__law_for
theorem w__law_for {a0 a1 a2 : D} {ce : Cells} {Q : D → Cells → Prop} {E : Str → Cells → Prop} (h : WS ((sSeq (sSet 3 (eC (.str []))) (sSeq (sFor (eIter (eVar 0)) (gN 4) (sSeq (sSet 5 (eDispL [((eC (.str [65])), (eVar 1)), ((eC (.str [66])), (eVar 2)), ((eC (.str [97])), (eMeth0 "str" dLower (eVar 1))), ((eC (.str [98])), (eMeth0 "str" dLower (eVar 2)))])) (sSet 3 (eBin dAdd (eVar 3) (eDGetD (eVar 5) (eVar 4) (eVar 4)))))) (sRet (eVar 3)))) [some a0, some a1, some a2, none, none, none] ce) (fun _ ce1 => WFin ce.length .non ce1 Q) (fun d ce1 => WFin ce.length d ce1 Q) (fun _ _ => False) (fun _ _ => False) fun x _ ce1 => E x (ce1.take ce.length)) : WE (F__law_for [a0, a1, a2] ce) Q E := run_ws rfl h
theorem cal__law_for {P : Program} {w : World} {K : PySem.W.Frag} {mg : Str → Option Value} {base : Heap} {f : Addr} {fd : FuncData} (F : Fun K "_law_for" "_law_for" s__law_for f fd) (hm : mg "_law_for" = some (.ref f)) : Cal P w K mg base 1 "_law_for" 3 F__law_for := by
  refine cal_mk (g := G__law_for) (ps := ["_law_text", "_law_one", "_law_two"]) (N := ["_law_text", "_law_one", "_law_two", "_law_found", "_law_sign", "_law_own"]) F hm sc__law_for (fun _ _ _ _ _ _ us hl => match us, hl with | [_, _, _], _ => rfl) fun cdv A outer s H E hr => ?_
  exact (js_cons (js_set 3 sc__law_for.nd rfl (Or.inl rfl) (je_str [] (by decide +kernel) (by decide +kernel)) (by rfl) (Or.inl rfl)) (js_cons (js_for (passes_of rfl) rfl (ji_val (je_var 0 rfl (Or.inl rfl) (by decide) (by decide))) (jg_name 4 sc__law_for.nd rfl (Or.inl rfl) (Or.inl rfl)) (js_cons (js_set 5 sc__law_for.nd rfl (Or.inl rfl) (je_dispL (jps_cons (je_str [65] (by decide +kernel) (by decide +kernel)) (je_var 1 rfl (Or.inl rfl) (by decide) (by decide)) (jps_cons (je_str [66] (by decide +kernel) (by decide +kernel)) (je_var 2 rfl (Or.inl rfl) (by decide) (by decide)) (jps_cons (je_str [97] (by decide +kernel) (by decide +kernel)) (je_meth0 PySem.F.plainAttrs_str PySem.F.slot_str_lower PySem.F.type_str_lower mj_lower (je_var 1 rfl (Or.inl rfl) (by decide) (by decide)) (by rfl) (by rfl)) (jps_cons (je_str [98] (by decide +kernel) (by decide +kernel)) (je_meth0 PySem.F.plainAttrs_str PySem.F.slot_str_lower PySem.F.type_str_lower mj_lower (je_var 2 rfl (Or.inl rfl) (by decide) (by decide)) (by rfl) (by rfl)) jps_nil)))) (by rfl) (by rfl) (by simp) (by decide) (by rfl)) (by rfl) (Or.inl rfl)) (js_one (js_set 3 sc__law_for.nd rfl (Or.inl rfl) (je_bin oj_add (je_var 3 rfl (Or.inl rfl) (by decide) (by decide)) (je_dgetD (hu1 hr.units) (je_var 5 rfl (Or.inl rfl) (by decide) (by decide)) (je_var 4 rfl (Or.inl rfl) (by decide) (by decide)) (je_var 4 rfl (Or.inl rfl) (by decide) (by decide)) ⟨by rfl, by rfl, by rfl, by rfl⟩)) (by rfl) (Or.inl rfl)))) (fun _ => rfl)) (js_one (js_ret (je_var 3 rfl (Or.inl rfl) (by decide) (by decide))))))

abbrev s__law_pair_right : Stmt := topS 76
theorem sc__law_pair_right : FnScope ["_law_one", "_law_two", "_law_works", "_law_lost", "_law_text", "_law_other", "_law_size"] ["_law_one", "_law_two"] (defScope s__law_pair_right) := ⟨rfl, rfl, rfl, by decide +kernel, rfl, by decide +kernel, by decide +kernel⟩
def G__law_pair_right : SDen := (sSeq (sMulti [4, 5] (aCons (eFn F__law_for (aCons (eC (.str [65, 45, 66, 97, 45])) (aCons (eVar 0) (aCons (eVar 1) aNil)))) (aCons (eFn F__law_for (aCons (eC (.str [65, 66, 97, 45, 98])) (aCons (eVar 0) (aCons (eVar 1) aNil)))) aNil))) (sSeq (sIf (tOrD (tOf (eBin dNe (eFn F_read (aCons (eVar 5) aNil)) (eFn F__law_for (aCons (eC (.str [65, 66, 65, 65, 66])) (aCons (eVar 0) (aCons (eVar 1) aNil)))))) (tOf (eBin dNe (eFn F_shortest (aCons (eFn F_read (aCons (eVar 5) aNil)) aNil)) (eVar 5)))) (sRet (eC (.bl false))) sNil) (sSeq (sIf (tOf (eBin dNe (eFn F_count_writings (aCons (eFn F_read (aCons (eVar 5) aNil)) aNil)) (eC (.int 12)))) (sRet (eC (.bl false))) sNil) (sSeq (sIf (tOrD (tOf (eBin dNe (eFn F_count_orders (aCons (eVar 5) aNil)) (eC (.int 12)))) (tOrD (tOf (eBin dNe (eFn F_needless (aCons (eVar 5) aNil)) (eLst (aCons (eC (.int 3)) (aCons (eC (.int 4)) aNil))))) (tOf (eBin dNe (eFn F_harmed (aCons (eVar 5) (aCons (eC (.int 0)) aNil))) (eLst (aCons (eC (.int 2)) aNil)))))) (sRet (eC (.bl false))) sNil) (sSeq (sIf (tOrD (tOf (eBin dNe (eFn F_goals (aCons (eVar 5) (aCons (eC (.int 0)) (aCons (eC (.int 1)) aNil)))) (eLst (aCons (eC (.int 0)) (aCons (eC (.int 1)) aNil))))) (tOrD (tOf (eBin dNe (eFn F_goals (aCons (eVar 5) (aCons (eC (.int 2)) (aCons (eC (.int 4)) aNil)))) (eLst (aCons (eC (.int 1)) (aCons (eC (.int 2)) (aCons (eC (.int 3)) aNil)))))) (tOf (eBin dNe (eFn F_goals (aCons (eVar 5) (aCons (eC (.int 3)) (aCons (eC (.int 4)) aNil)))) (eLst (aCons (eC (.int 1)) (aCons (eC (.int 3)) aNil))))))) (sRet (eC (.bl false))) sNil) (sSeq (sIf (tOrD (tOf (eBin dNe (eFn F_fewest_rewritten (aCons (eVar 5) (aCons (eTup (aCons (eC (.int 4)) (aCons (eC (.int 3)) (aCons (eC (.int 2)) (aCons (eC (.int 1)) (aCons (eC (.int 0)) aNil)))))) aNil))) (eC (.int 2)))) (tOf (eBin dNe (eFn F_rewritten (aCons (eVar 4) (aCons (eTup (aCons (eC (.int 3)) (aCons (eC (.int 4)) (aCons (eC (.int 0)) (aCons (eC (.int 1)) (aCons (eC (.int 2)) aNil)))))) aNil))) (eFn F__law_for (aCons (eC (.str [65, 45, 65, 45, 66])) (aCons (eVar 0) (aCons (eVar 1) aNil))))))) (sRet (eC (.bl false))) sNil) (sSeq (sIf (tOrD (tOf (eBin dNe (eComp (eIter (eTup (aCons (eC (.int 1)) (aCons (eC (.int 2)) (aCons (eC (.int 3)) (aCons (eC (.int 5)) aNil)))))) [6] (gN 6) ttYes (eFn F_count_pages (aCons (eVar 5) (aCons (eVar 6) aNil)))) (eLst (aCons (eC (.int 0)) (aCons (eC (.int 2)) (aCons (eC (.int 5)) (aCons (eC (.int 8)) aNil))))))) (tOf (eBin dNe (eFn F_page_starts (aCons (eVar 5) (aCons (eC (.int 2)) aNil))) (eLst (aCons (eC (.int 0)) (aCons (eC (.int 2)) (aCons (eC (.int 4)) aNil))))))) (sRet (eC (.bl false))) sNil) (sSeq (sSet 2 (eMethR "str" dJoin (eC (.str [])) (aCons (eCall dSortT (aCons (eLst (aCons (eVar 0) (aCons (eVar 1) aNil))) aNil)) aNil))) (sSeq (sSet 3 (eFn F__law_for (aCons (eC (.str [65, 63, 98])) (aCons (eVar 0) (aCons (eVar 1) aNil))))) (sSeq (sIf (tOrD (tOf (eBin dNe (eFn F_count_matches (aCons (eVar 3) (aCons (eVar 2) aNil))) (eC (.int 1)))) (tOf (eBin dNe (eFn F_meanings (aCons (eVar 3) (aCons (eVar 2) (aCons (eC (.int 1)) aNil)))) (eLst (aCons (eVar 1) aNil))))) (sRet (eC (.bl false))) sNil) (sRet (eBin dEq (eComp (eIter (eTup (aCons (eC (.str [65, 63, 45])) (aCons (eC (.str [63, 97, 63])) aNil)))) [4] (gN 4) ttYes (eFn F_count_matches (aCons (eFn F__law_for (aCons (eVar 4) (aCons (eVar 0) (aCons (eVar 1) aNil)))) (aCons (eVar 2) aNil)))) (eLst (aCons (eC (.int 4)) (aCons (eC (.int 4)) aNil)))))))))))))))
def F__law_pair_right : FDen := runF 2 7 G__law_pair_right
theorem w__law_pair_right {a0 a1 : D} {ce : Cells} {Q : D → Cells → Prop} {E : Str → Cells → Prop} (h : WS ((sSeq (sMulti [4, 5] (aCons (eFn F__law_for (aCons (eC (.str [65, 45, 66, 97, 45])) (aCons (eVar 0) (aCons (eVar 1) aNil)))) (aCons (eFn F__law_for (aCons (eC (.str [65, 66, 97, 45, 98])) (aCons (eVar 0) (aCons (eVar 1) aNil)))) aNil))) (sSeq (sIf (tOrD (tOf (eBin dNe (eFn F_read (aCons (eVar 5) aNil)) (eFn F__law_for (aCons (eC (.str [65, 66, 65, 65, 66])) (aCons (eVar 0) (aCons (eVar 1) aNil)))))) (tOf (eBin dNe (eFn F_shortest (aCons (eFn F_read (aCons (eVar 5) aNil)) aNil)) (eVar 5)))) (sRet (eC (.bl false))) sNil) (sSeq (sIf (tOf (eBin dNe (eFn F_count_writings (aCons (eFn F_read (aCons (eVar 5) aNil)) aNil)) (eC (.int 12)))) (sRet (eC (.bl false))) sNil) (sSeq (sIf (tOrD (tOf (eBin dNe (eFn F_count_orders (aCons (eVar 5) aNil)) (eC (.int 12)))) (tOrD (tOf (eBin dNe (eFn F_needless (aCons (eVar 5) aNil)) (eLst (aCons (eC (.int 3)) (aCons (eC (.int 4)) aNil))))) (tOf (eBin dNe (eFn F_harmed (aCons (eVar 5) (aCons (eC (.int 0)) aNil))) (eLst (aCons (eC (.int 2)) aNil)))))) (sRet (eC (.bl false))) sNil) (sSeq (sIf (tOrD (tOf (eBin dNe (eFn F_goals (aCons (eVar 5) (aCons (eC (.int 0)) (aCons (eC (.int 1)) aNil)))) (eLst (aCons (eC (.int 0)) (aCons (eC (.int 1)) aNil))))) (tOrD (tOf (eBin dNe (eFn F_goals (aCons (eVar 5) (aCons (eC (.int 2)) (aCons (eC (.int 4)) aNil)))) (eLst (aCons (eC (.int 1)) (aCons (eC (.int 2)) (aCons (eC (.int 3)) aNil)))))) (tOf (eBin dNe (eFn F_goals (aCons (eVar 5) (aCons (eC (.int 3)) (aCons (eC (.int 4)) aNil)))) (eLst (aCons (eC (.int 1)) (aCons (eC (.int 3)) aNil))))))) (sRet (eC (.bl false))) sNil) (sSeq (sIf (tOrD (tOf (eBin dNe (eFn F_fewest_rewritten (aCons (eVar 5) (aCons (eTup (aCons (eC (.int 4)) (aCons (eC (.int 3)) (aCons (eC (.int 2)) (aCons (eC (.int 1)) (aCons (eC (.int 0)) aNil)))))) aNil))) (eC (.int 2)))) (tOf (eBin dNe (eFn F_rewritten (aCons (eVar 4) (aCons (eTup (aCons (eC (.int 3)) (aCons (eC (.int 4)) (aCons (eC (.int 0)) (aCons (eC (.int 1)) (aCons (eC (.int 2)) aNil)))))) aNil))) (eFn F__law_for (aCons (eC (.str [65, 45, 65, 45, 66])) (aCons (eVar 0) (aCons (eVar 1) aNil))))))) (sRet (eC (.bl false))) sNil) (sSeq (sIf (tOrD (tOf (eBin dNe (eComp (eIter (eTup (aCons (eC (.int 1)) (aCons (eC (.int 2)) (aCons (eC (.int 3)) (aCons (eC (.int 5)) aNil)))))) [6] (gN 6) ttYes (eFn F_count_pages (aCons (eVar 5) (aCons (eVar 6) aNil)))) (eLst (aCons (eC (.int 0)) (aCons (eC (.int 2)) (aCons (eC (.int 5)) (aCons (eC (.int 8)) aNil))))))) (tOf (eBin dNe (eFn F_page_starts (aCons (eVar 5) (aCons (eC (.int 2)) aNil))) (eLst (aCons (eC (.int 0)) (aCons (eC (.int 2)) (aCons (eC (.int 4)) aNil))))))) (sRet (eC (.bl false))) sNil) (sSeq (sSet 2 (eMethR "str" dJoin (eC (.str [])) (aCons (eCall dSortT (aCons (eLst (aCons (eVar 0) (aCons (eVar 1) aNil))) aNil)) aNil))) (sSeq (sSet 3 (eFn F__law_for (aCons (eC (.str [65, 63, 98])) (aCons (eVar 0) (aCons (eVar 1) aNil))))) (sSeq (sIf (tOrD (tOf (eBin dNe (eFn F_count_matches (aCons (eVar 3) (aCons (eVar 2) aNil))) (eC (.int 1)))) (tOf (eBin dNe (eFn F_meanings (aCons (eVar 3) (aCons (eVar 2) (aCons (eC (.int 1)) aNil)))) (eLst (aCons (eVar 1) aNil))))) (sRet (eC (.bl false))) sNil) (sRet (eBin dEq (eComp (eIter (eTup (aCons (eC (.str [65, 63, 45])) (aCons (eC (.str [63, 97, 63])) aNil)))) [4] (gN 4) ttYes (eFn F_count_matches (aCons (eFn F__law_for (aCons (eVar 4) (aCons (eVar 0) (aCons (eVar 1) aNil)))) (aCons (eVar 2) aNil)))) (eLst (aCons (eC (.int 4)) (aCons (eC (.int 4)) aNil))))))))))))))) [some a0, some a1, none, none, none, none, none] ce) (fun _ ce1 => WFin ce.length .non ce1 Q) (fun d ce1 => WFin ce.length d ce1 Q) (fun _ _ => False) (fun _ _ => False) fun x _ ce1 => E x (ce1.take ce.length)) : WE (F__law_pair_right [a0, a1] ce) Q E := run_ws rfl h
theorem cal__law_pair_right {P : Program} {w : World} {K : PySem.W.Frag} {mg : Str → Option Value} {base : Heap} {f : Addr} {fd : FuncData} (F : Fun K "_law_pair_right" "_law_pair_right" s__law_pair_right f fd) (hm : mg "_law_pair_right" = some (.ref f)) (z_sorted : mg "sorted" = none) (c__law_for : Cal P w K mg base 1 "_law_for" 3 F__law_for) (c_read : Cal P w K mg base 4 "read" 1 F_read) (c_shortest : Cal P w K mg base 3 "shortest" 1 F_shortest) (c_count_writings : Cal P w K mg base 3 "count_writings" 1 F_count_writings) (c_count_orders : Cal P w K mg base 4 "count_orders" 1 F_count_orders) (c_needless : Cal P w K mg base 4 "needless" 1 F_needless) (c_harmed : Cal P w K mg base 4 "harmed" 2 F_harmed) (c_goals : Cal P w K mg base 4 "goals" 3 F_goals) (c_fewest_rewritten : Cal P w K mg base 5 "fewest_rewritten" 2 F_fewest_rewritten) (c_rewritten : Cal P w K mg base 5 "rewritten" 2 F_rewritten) (c_count_pages : Cal P w K mg base 5 "count_pages" 2 F_count_pages) (c_page_starts : Cal P w K mg base 5 "page_starts" 2 F_page_starts) (c_count_matches : Cal P w K mg base 4 "count_matches" 2 F_count_matches) (c_meanings : Cal P w K mg base 4 "meanings" 3 F_meanings) : Cal P w K mg base 6 "_law_pair_right" 2 F__law_pair_right := by
  refine cal_mk (g := G__law_pair_right) (ps := ["_law_one", "_law_two"]) (N := ["_law_one", "_law_two", "_law_works", "_law_lost", "_law_text", "_law_other", "_law_size"]) F hm sc__law_pair_right (fun _ _ _ _ _ _ us hl => match us, hl with | [_, _], _ => rfl) fun cdv A outer s H E hr => ?_
  exact (js_cons (js_multi rfl (ja_cons (je_cal (L2N.takes_of rfl rfl rfl rfl) c__law_for rfl (hr.mono (by omega)) (by rfl) (ja_cons (je_str [65, 45, 66, 97, 45] (by decide +kernel) (by decide +kernel)) (ja_cons (je_var 0 rfl (Or.inr (Or.inl rfl)) (by decide) (by decide)) (ja_cons (je_var 1 rfl (Or.inr (Or.inl rfl)) (by decide) (by decide)) ja_nil (by rfl)) (by rfl)) (by rfl)) (ga_cons (ga_cons (ga_cons ga_nil))) (by decide) (by rfl) (by rfl)) (ja_cons (je_cal (L2N.takes_of rfl rfl rfl rfl) c__law_for rfl (hr.mono (by omega)) (by rfl) (ja_cons (je_str [65, 66, 97, 45, 98] (by decide +kernel) (by decide +kernel)) (ja_cons (je_var 0 rfl (Or.inr (Or.inl rfl)) (by decide) (by decide)) (ja_cons (je_var 1 rfl (Or.inr (Or.inl rfl)) (by decide) (by decide)) ja_nil (by rfl)) (by rfl)) (by rfl)) (ga_cons (ga_cons (ga_cons ga_nil))) (by decide) (by rfl) (by rfl)) ja_nil (by rfl)) (by rfl)) (jgs_cons 4 sc__law_pair_right.nd rfl (Or.inl rfl) (Or.inl rfl) (jgs_cons 5 sc__law_pair_right.nd rfl (Or.inr rfl) (Or.inl rfl) jgs_nil rfl) rfl) rfl (by decide) rfl (by rfl) (by rfl) (by rfl)) (js_cons (js_if (jw_pt (jw_or (jt_cmp (oj_ne hr.units) (je_cal (L2N.takes_of rfl rfl rfl rfl) c_read rfl (hr.mono (by omega)) (by rfl) (ja_cons (je_var 5 rfl (Or.inr (Or.inl rfl)) (by decide) (by decide)) ja_nil (by rfl)) (ga_cons ga_nil) (by decide) (by rfl) (by rfl)) (je_cal (L2N.takes_of rfl rfl rfl rfl) c__law_for rfl (hr.mono (by omega)) (by rfl) (ja_cons (je_str [65, 66, 65, 65, 66] (by decide +kernel) (by decide +kernel)) (ja_cons (je_var 0 rfl (Or.inr (Or.inl rfl)) (by decide) (by decide)) (ja_cons (je_var 1 rfl (Or.inr (Or.inl rfl)) (by decide) (by decide)) ja_nil (by rfl)) (by rfl)) (by rfl)) (ga_cons (ga_cons (ga_cons ga_nil))) (by decide) (by rfl) (by rfl)) (nomark _)) (jw_or1 (jt_cmp (oj_ne hr.units) (je_cal (L2N.takes_of rfl rfl rfl rfl) c_shortest rfl (hr.mono (by omega)) (by rfl) (ja_cons (je_cal (L2N.takes_of rfl rfl rfl rfl) c_read rfl (hr.mono (by omega)) (by rfl) (ja_cons (je_var 5 rfl (Or.inr (Or.inl rfl)) (by decide) (by decide)) ja_nil (by rfl)) (ga_cons ga_nil) (by decide) (by rfl) (by rfl)) ja_nil (by rfl)) (ga_cons ga_nil) (by decide) (by rfl) (by rfl)) (je_var 5 rfl (Or.inr (Or.inl rfl)) (by decide) (by decide)) (nomark _))))) (js_one (js_ret je_bl)) js_nil) (js_cons (js_if (jt_cmp (oj_ne hr.units) (je_cal (L2N.takes_of rfl rfl rfl rfl) c_count_writings rfl (hr.mono (by omega)) (by rfl) (ja_cons (je_cal (L2N.takes_of rfl rfl rfl rfl) c_read rfl (hr.mono (by omega)) (by rfl) (ja_cons (je_var 5 rfl (Or.inr (Or.inl rfl)) (by decide) (by decide)) ja_nil (by rfl)) (ga_cons ga_nil) (by decide) (by rfl) (by rfl)) ja_nil (by rfl)) (ga_cons ga_nil) (by decide) (by rfl) (by rfl)) je_int (nomark _)) (js_one (js_ret je_bl)) js_nil) (js_cons (js_if (jw_pt (jw_or (jt_cmp (oj_ne hr.units) (je_cal (L2N.takes_of rfl rfl rfl rfl) c_count_orders rfl (hr.mono (by omega)) (by rfl) (ja_cons (je_var 5 rfl (Or.inr (Or.inl rfl)) (by decide) (by decide)) ja_nil (by rfl)) (ga_cons ga_nil) (by decide) (by rfl) (by rfl)) je_int (nomark _)) (jw_or (jt_cmp (oj_ne hr.units) (je_cal (L2N.takes_of rfl rfl rfl rfl) c_needless rfl (hr.mono (by omega)) (by rfl) (ja_cons (je_var 5 rfl (Or.inr (Or.inl rfl)) (by decide) (by decide)) ja_nil (by rfl)) (ga_cons ga_nil) (by decide) (by rfl) (by rfl)) (je_lst (ja_cons je_int (ja_cons je_int ja_nil (by rfl)) (by rfl))) (nomark _)) (jw_or1 (jt_cmp (oj_ne hr.units) (je_cal (L2N.takes_of rfl rfl rfl rfl) c_harmed rfl (hr.mono (by omega)) (by rfl) (ja_cons (je_var 5 rfl (Or.inr (Or.inl rfl)) (by decide) (by decide)) (ja_cons je_int ja_nil (by rfl)) (by rfl)) (ga_cons (ga_cons ga_nil)) (by decide) (by rfl) (by rfl)) (je_lst (ja_cons je_int ja_nil (by rfl))) (nomark _)))))) (js_one (js_ret je_bl)) js_nil) (js_cons (js_if (jw_pt (jw_or (jt_cmp (oj_ne hr.units) (je_cal (L2N.takes_of rfl rfl rfl rfl) c_goals rfl (hr.mono (by omega)) (by rfl) (ja_cons (je_var 5 rfl (Or.inr (Or.inl rfl)) (by decide) (by decide)) (ja_cons je_int (ja_cons je_int ja_nil (by rfl)) (by rfl)) (by rfl)) (ga_cons (ga_cons (ga_cons ga_nil))) (by decide) (by rfl) (by rfl)) (je_lst (ja_cons je_int (ja_cons je_int ja_nil (by rfl)) (by rfl))) (nomark _)) (jw_or (jt_cmp (oj_ne hr.units) (je_cal (L2N.takes_of rfl rfl rfl rfl) c_goals rfl (hr.mono (by omega)) (by rfl) (ja_cons (je_var 5 rfl (Or.inr (Or.inl rfl)) (by decide) (by decide)) (ja_cons je_int (ja_cons je_int ja_nil (by rfl)) (by rfl)) (by rfl)) (ga_cons (ga_cons (ga_cons ga_nil))) (by decide) (by rfl) (by rfl)) (je_lst (ja_cons je_int (ja_cons je_int (ja_cons je_int ja_nil (by rfl)) (by rfl)) (by rfl))) (nomark _)) (jw_or1 (jt_cmp (oj_ne hr.units) (je_cal (L2N.takes_of rfl rfl rfl rfl) c_goals rfl (hr.mono (by omega)) (by rfl) (ja_cons (je_var 5 rfl (Or.inr (Or.inl rfl)) (by decide) (by decide)) (ja_cons je_int (ja_cons je_int ja_nil (by rfl)) (by rfl)) (by rfl)) (ga_cons (ga_cons (ga_cons ga_nil))) (by decide) (by rfl) (by rfl)) (je_lst (ja_cons je_int (ja_cons je_int ja_nil (by rfl)) (by rfl))) (nomark _)))))) (js_one (js_ret je_bl)) js_nil) (js_cons (js_if (jw_pt (jw_or (jt_cmp (oj_ne hr.units) (je_cal (L2N.takes_of rfl rfl rfl rfl) c_fewest_rewritten rfl (hr.mono (by omega)) (by rfl) (ja_cons (je_var 5 rfl (Or.inr (Or.inl rfl)) (by decide) (by decide)) (ja_cons (je_tup (ja_cons je_int (ja_cons je_int (ja_cons je_int (ja_cons je_int (ja_cons je_int ja_nil (by rfl)) (by rfl)) (by rfl)) (by rfl)) (by rfl))) ja_nil (by rfl)) (by rfl)) (ga_cons (ga_cons ga_nil)) (by decide) (by rfl) (by rfl)) je_int (nomark _)) (jw_or1 (jt_cmp (oj_ne hr.units) (je_cal (L2N.takes_of rfl rfl rfl rfl) c_rewritten rfl (hr.mono (by omega)) (by rfl) (ja_cons (je_var 4 rfl (Or.inl rfl) (by decide) (by decide)) (ja_cons (je_tup (ja_cons je_int (ja_cons je_int (ja_cons je_int (ja_cons je_int (ja_cons je_int ja_nil (by rfl)) (by rfl)) (by rfl)) (by rfl)) (by rfl))) ja_nil (by rfl)) (by rfl)) (ga_cons (ga_cons ga_nil)) (by decide) (by rfl) (by rfl)) (je_cal (L2N.takes_of rfl rfl rfl rfl) c__law_for rfl (hr.mono (by omega)) (by rfl) (ja_cons (je_str [65, 45, 65, 45, 66] (by decide +kernel) (by decide +kernel)) (ja_cons (je_var 0 rfl (Or.inr (Or.inl rfl)) (by decide) (by decide)) (ja_cons (je_var 1 rfl (Or.inr (Or.inl rfl)) (by decide) (by decide)) ja_nil (by rfl)) (by rfl)) (by rfl)) (ga_cons (ga_cons (ga_cons ga_nil))) (by decide) (by rfl) (by rfl)) (nomark _))))) (js_one (js_ret je_bl)) js_nil) (js_cons (js_if (jw_pt (jw_or (jt_cmp (oj_ne hr.units) (je_comp rfl sc__law_pair_right.nd (ji_val (je_tup (ja_cons je_int (ja_cons je_int (ja_cons je_int (ja_cons je_int ja_nil (by rfl)) (by rfl)) (by rfl)) (by rfl)))) (blkOk_by (own := [("_law_size", 6)]) (N := ["_law_one", "_law_two", "_law_works", "_law_lost", "_law_text", "_law_other", "_law_size"]) (sc := defScope s__law_pair_right) (by decide +kernel)) rfl (fun _ _ _ _ _ => (jg_name 6 sc__law_pair_right.nd rfl (Or.inl rfl) (Or.inr rfl))) (fun _ _ _ _ _ => jts_nil) (fun _ _ _ _ _ => (je_cal takes0N c_count_pages rfl (hr.mono (by omega)) (by rfl) (ja_cons (je_var 5 rfl (Or.inr (Or.inl rfl)) (by decide) (by decide)) (ja_cons (je_var 6 rfl (Or.inl rfl) (by decide) (by decide)) ja_nil (by rfl)) (by rfl)) (ga_cons (ga_cons ga_nil)) (by decide) (by rfl) (by rfl))) (fun _ => rfl)) (je_lst (ja_cons je_int (ja_cons je_int (ja_cons je_int (ja_cons je_int ja_nil (by rfl)) (by rfl)) (by rfl)) (by rfl))) (nomark _)) (jw_or1 (jt_cmp (oj_ne hr.units) (je_cal (L2N.takes_of rfl rfl rfl rfl) c_page_starts rfl (hr.mono (by omega)) (by rfl) (ja_cons (je_var 5 rfl (Or.inr (Or.inl rfl)) (by decide) (by decide)) (ja_cons je_int ja_nil (by rfl)) (by rfl)) (ga_cons (ga_cons ga_nil)) (by decide) (by rfl) (by rfl)) (je_lst (ja_cons je_int (ja_cons je_int (ja_cons je_int ja_nil (by rfl)) (by rfl)) (by rfl))) (nomark _))))) (js_one (js_ret je_bl)) js_nil) (js_cons (js_set 2 sc__law_pair_right.nd rfl (Or.inr rfl) (je_methR PySem.F.plainAttrs_str PySem.F.slot_str_join PySem.F.type_str_join mj_join (je_str [] (by decide +kernel) (by decide +kernel)) (ja_cons (je_callB cj_sortT (by rfl) z_sorted (by decide +kernel) (ja_cons (je_lst (ja_cons (je_var 0 rfl (Or.inr (Or.inl rfl)) (by decide) (by decide)) (ja_cons (je_var 1 rfl (Or.inr (Or.inl rfl)) (by decide) (by decide)) ja_nil (by rfl)) (by rfl))) ja_nil (by rfl)) (by decide) (by decide) (by rfl) (by rfl)) ja_nil (by rfl)) (by rfl) (by rfl) (by rfl) (by rfl) (by rfl)) (by rfl) (Or.inl rfl)) (js_cons (js_set 3 sc__law_pair_right.nd rfl (Or.inl rfl) (je_cal (L2N.takes_of rfl rfl rfl rfl) c__law_for rfl (hr.mono (by omega)) (by rfl) (ja_cons (je_str [65, 63, 98] (by decide +kernel) (by decide +kernel)) (ja_cons (je_var 0 rfl (Or.inr (Or.inl rfl)) (by decide) (by decide)) (ja_cons (je_var 1 rfl (Or.inr (Or.inl rfl)) (by decide) (by decide)) ja_nil (by rfl)) (by rfl)) (by rfl)) (ga_cons (ga_cons (ga_cons ga_nil))) (by decide) (by rfl) (by rfl)) (by rfl) (Or.inl rfl)) (js_cons (js_if (jw_pt (jw_or (jt_cmp (oj_ne hr.units) (je_cal (L2N.takes_of rfl rfl rfl rfl) c_count_matches rfl (hr.mono (by omega)) (by rfl) (ja_cons (je_var 3 rfl (Or.inl rfl) (by decide) (by decide)) (ja_cons (je_var 2 rfl (Or.inr (Or.inl rfl)) (by decide) (by decide)) ja_nil (by rfl)) (by rfl)) (ga_cons (ga_cons ga_nil)) (by decide) (by rfl) (by rfl)) je_int (nomark _)) (jw_or1 (jt_cmp (oj_ne hr.units) (je_cal (L2N.takes_of rfl rfl rfl rfl) c_meanings rfl (hr.mono (by omega)) (by rfl) (ja_cons (je_var 3 rfl (Or.inl rfl) (by decide) (by decide)) (ja_cons (je_var 2 rfl (Or.inr (Or.inl rfl)) (by decide) (by decide)) (ja_cons je_int ja_nil (by rfl)) (by rfl)) (by rfl)) (ga_cons (ga_cons (ga_cons ga_nil))) (by decide) (by rfl) (by rfl)) (je_lst (ja_cons (je_var 1 rfl (Or.inr (Or.inl rfl)) (by decide) (by decide)) ja_nil (by rfl))) (nomark _))))) (js_one (js_ret je_bl)) js_nil) (js_one (js_ret (je_cmp (oj_eq hr.units) (je_comp rfl sc__law_pair_right.nd (ji_val (je_tup (ja_cons (je_str [65, 63, 45] (by decide +kernel) (by decide +kernel)) (ja_cons (je_str [63, 97, 63] (by decide +kernel) (by decide +kernel)) ja_nil (by rfl)) (by rfl)))) (blkOk_by (own := [("_law_text", 4)]) (N := ["_law_one", "_law_two", "_law_works", "_law_lost", "_law_text", "_law_other", "_law_size"]) (sc := defScope s__law_pair_right) (by decide +kernel)) rfl (fun _ _ _ _ _ => (jg_name 4 sc__law_pair_right.nd rfl (Or.inl rfl) (Or.inr rfl))) (fun _ _ _ _ _ => jts_nil) (fun _ _ _ _ _ => (je_cal takes0N c_count_matches rfl (hr.mono (by omega)) (by rfl) (ja_cons (je_cal takes0N c__law_for rfl (hr.mono (by omega)) (by rfl) (ja_cons (je_var 4 rfl (Or.inl rfl) (by decide) (by decide)) (ja_cons (je_var 0 rfl (Or.inr (Or.inl rfl)) (by decide) (by decide)) (ja_cons (je_var 1 rfl (Or.inr (Or.inl rfl)) (by decide) (by decide)) ja_nil (by rfl)) (by rfl)) (by rfl)) (ga_cons (ga_cons (ga_cons ga_nil))) (by decide) (by rfl) (by rfl)) (ja_cons (je_var 2 rfl (Or.inr (Or.inl rfl)) (by decide) (by decide)) ja_nil (by rfl)) (by rfl)) (ga_cons (ga_cons ga_nil)) (by decide) (by rfl) (by rfl))) (fun _ => rfl)) (je_lst (ja_cons je_int (ja_cons je_int ja_nil (by rfl)) (by rfl))) (nomark _))))))))))))))

abbrev s_law : Stmt := topS 77
theorem sc_law : FnScope ["_law_script", "_law_pairs", "_law_cell", "_law_pair"] ["_law_script"] (defScope s_law) := ⟨rfl, rfl, rfl, by decide +kernel, rfl, by decide +kernel, by decide +kernel⟩
def G_law : SDen := (sSeq (sSet 1 (eLst (aCons (eC (.str [65, 66])) (aCons (eC (.str [66, 65])) (aCons (eC (.str [81, 90])) (aCons (eC (.str [90, 67])) aNil)))))) (sSeq (sFor (eIter (eSl (eBin dAdd (eLst (aCons (eC (.int 0)) aNil)) (eVar 0)) oNone (oSome (eC (.int 4))))) (gN 2) (sSeq (sSet 3 (eBin dIx (eVar 1) (eFn F__law_pick (aCons (eFn F__law_deck (aCons (eVar 2) (aCons (eC (.int 18)) aNil))) (aCons (eC (.int 4)) aNil))))) (sIf (tNotD (tOf (eFn F__law_pair_right (aCons (eBin dIx (eVar 3) (eC (.int 0))) (aCons (eBin dIx (eVar 3) (eC (.int 1))) aNil))))) (sRet (eC (.bl false))) sNil))) (sSeq (sIf (tOrD (tNotD (tOf (eFn F__law_pair_right (aCons (eC (.str [65])) (aCons (eC (.str [66])) aNil))))) (tOrD (tOf (eBin dNe (eFn F_first_wrong (aCons (eC (.str [65, 66, 45, 99])) aNil)) (eC (.int 3)))) (tOf (eBin dIsNot (eFn F_is_right (aCons (eC (.str [65, 45, 97, 45])) aNil)) (eC (.bl true)))))) (sRet (eC (.bl false))) sNil) (sSeq (sIf (tOrD (tOf (eBin dNe (eFn F_order_at (aCons (eC (.str [65, 66, 97, 45, 98])) (aCons (eC (.int 0)) aNil))) (eTup (aCons (eC (.int 0)) (aCons (eC (.int 1)) (aCons (eC (.int 2)) (aCons (eC (.int 3)) (aCons (eC (.int 4)) aNil)))))))) (tOf (eBin dNe (eFn F_order_at (aCons (eC (.str [65, 66, 97, 45, 98])) (aCons (eC (.int 1)) aNil))) (eTup (aCons (eC (.int 0)) (aCons (eC (.int 1)) (aCons (eC (.int 4)) (aCons (eC (.int 2)) (aCons (eC (.int 3)) aNil))))))))) (sRet (eC (.bl false))) sNil) (sSeq (sIf (tOrD (tOf (eBin dNe (eTry NT_ (eFn F_page_starts (aCons (eC (.str [65, 45, 66, 45, 45])) (aCons (eC (.int 2)) aNil)))) (eC (.str [80, 111, 115, 115, 105, 98, 108, 101, 43])))) (tOf (eBin dNe (eFn F_count_rows (aCons (eC (.int 3)) (aCons (eC (.int 2)) aNil))) (eC (.int 34))))) (sRet (eC (.bl false))) sNil) (sRet (eAnd (eBin dEq (eFn F_number_of (aCons (eC (.str [65, 66, 97, 45, 98])) (aCons (eTup (aCons (eC (.int 1)) (aCons (eC (.int 4)) (aCons (eC (.int 0)) (aCons (eC (.int 3)) (aCons (eC (.int 2)) aNil)))))) aNil))) (eBin dSub (eFn F_count_orders (aCons (eC (.str [65, 66, 97, 45, 98])) aNil)) (eC (.int 1)))) (eBin dIs (eFn F_keeps (aCons (eC (.str [65, 66, 97, 45, 98])) (aCons (eTup (aCons (eC (.int 1)) (aCons (eC (.int 4)) (aCons (eC (.int 0)) (aCons (eC (.int 3)) (aCons (eC (.int 2)) aNil)))))) aNil))) (eC (.bl true))))))))))
def F_law : FDen := runF 1 4 G_law
theorem w_law {a0 : D} {ce : Cells} {Q : D → Cells → Prop} {E : Str → Cells → Prop} (h : WS ((sSeq (sSet 1 (eLst (aCons (eC (.str [65, 66])) (aCons (eC (.str [66, 65])) (aCons (eC (.str [81, 90])) (aCons (eC (.str [90, 67])) aNil)))))) (sSeq (sFor (eIter (eSl (eBin dAdd (eLst (aCons (eC (.int 0)) aNil)) (eVar 0)) oNone (oSome (eC (.int 4))))) (gN 2) (sSeq (sSet 3 (eBin dIx (eVar 1) (eFn F__law_pick (aCons (eFn F__law_deck (aCons (eVar 2) (aCons (eC (.int 18)) aNil))) (aCons (eC (.int 4)) aNil))))) (sIf (tNotD (tOf (eFn F__law_pair_right (aCons (eBin dIx (eVar 3) (eC (.int 0))) (aCons (eBin dIx (eVar 3) (eC (.int 1))) aNil))))) (sRet (eC (.bl false))) sNil))) (sSeq (sIf (tOrD (tNotD (tOf (eFn F__law_pair_right (aCons (eC (.str [65])) (aCons (eC (.str [66])) aNil))))) (tOrD (tOf (eBin dNe (eFn F_first_wrong (aCons (eC (.str [65, 66, 45, 99])) aNil)) (eC (.int 3)))) (tOf (eBin dIsNot (eFn F_is_right (aCons (eC (.str [65, 45, 97, 45])) aNil)) (eC (.bl true)))))) (sRet (eC (.bl false))) sNil) (sSeq (sIf (tOrD (tOf (eBin dNe (eFn F_order_at (aCons (eC (.str [65, 66, 97, 45, 98])) (aCons (eC (.int 0)) aNil))) (eTup (aCons (eC (.int 0)) (aCons (eC (.int 1)) (aCons (eC (.int 2)) (aCons (eC (.int 3)) (aCons (eC (.int 4)) aNil)))))))) (tOf (eBin dNe (eFn F_order_at (aCons (eC (.str [65, 66, 97, 45, 98])) (aCons (eC (.int 1)) aNil))) (eTup (aCons (eC (.int 0)) (aCons (eC (.int 1)) (aCons (eC (.int 4)) (aCons (eC (.int 2)) (aCons (eC (.int 3)) aNil))))))))) (sRet (eC (.bl false))) sNil) (sSeq (sIf (tOrD (tOf (eBin dNe (eTry NT_ (eFn F_page_starts (aCons (eC (.str [65, 45, 66, 45, 45])) (aCons (eC (.int 2)) aNil)))) (eC (.str [80, 111, 115, 115, 105, 98, 108, 101, 43])))) (tOf (eBin dNe (eFn F_count_rows (aCons (eC (.int 3)) (aCons (eC (.int 2)) aNil))) (eC (.int 34))))) (sRet (eC (.bl false))) sNil) (sRet (eAnd (eBin dEq (eFn F_number_of (aCons (eC (.str [65, 66, 97, 45, 98])) (aCons (eTup (aCons (eC (.int 1)) (aCons (eC (.int 4)) (aCons (eC (.int 0)) (aCons (eC (.int 3)) (aCons (eC (.int 2)) aNil)))))) aNil))) (eBin dSub (eFn F_count_orders (aCons (eC (.str [65, 66, 97, 45, 98])) aNil)) (eC (.int 1)))) (eBin dIs (eFn F_keeps (aCons (eC (.str [65, 66, 97, 45, 98])) (aCons (eTup (aCons (eC (.int 1)) (aCons (eC (.int 4)) (aCons (eC (.int 0)) (aCons (eC (.int 3)) (aCons (eC (.int 2)) aNil)))))) aNil))) (eC (.bl true)))))))))) [some a0, none, none, none] ce) (fun _ ce1 => WFin ce.length .non ce1 Q) (fun d ce1 => WFin ce.length d ce1 Q) (fun _ _ => False) (fun _ _ => False) fun x _ ce1 => E x (ce1.take ce.length)) : WE (F_law [a0] ce) Q E := run_ws rfl h
theorem cal_law {P : Program} {w : World} {K : PySem.W.Frag} {mg : Str → Option Value} {base : Heap} {f : Addr} {fd : FuncData} (F : Fun K "law" "law" s_law f fd) (hm : mg "law" = some (.ref f)) {c_L P_L : Addr} (hcd : fd.code = .ref c_L) (tb_L : LamX.TabB base mg c_L P_L) (tm_L : (P_L, (("law" : Str) ++ (".<locals>." : Str)) ++ ("<lambda>" : Str)) ∈ tbK K) (tu : tbU K = true) {gT fN NE : Addr} {fdT fdN : FuncData} (B_try : TryF P w K mg base 10 s__law_try gT fdT NT_ NE fN fdN ["_law_e"]) (c__law_pick : Cal P w K mg base 1 "_law_pick" 2 F__law_pick) (c__law_deck : Cal P w K mg base 1 "_law_deck" 2 F__law_deck) (c__law_pair_right : Cal P w K mg base 6 "_law_pair_right" 2 F__law_pair_right) (c_first_wrong : Cal P w K mg base 4 "first_wrong" 1 F_first_wrong) (c_is_right : Cal P w K mg base 4 "is_right" 1 F_is_right) (c_order_at : Cal P w K mg base 4 "order_at" 2 F_order_at) (c_page_starts : Cal P w K mg base 5 "page_starts" 2 F_page_starts) (c_count_rows : Cal P w K mg base 2 "count_rows" 2 F_count_rows) (c_number_of : Cal P w K mg base 4 "number_of" 2 F_number_of) (c_count_orders : Cal P w K mg base 4 "count_orders" 1 F_count_orders) (c_keeps : Cal P w K mg base 4 "keeps" 2 F_keeps) : Cal P w K mg base 13 "law" 1 F_law := by
  refine cal_mkC (g := G_law) (ps := ["_law_script"]) (N := ["_law_script", "_law_pairs", "_law_cell", "_law_pair"]) F hcd hm sc_law (fun _ _ _ _ _ _ us hl => match us, hl with | [_], _ => rfl) fun A outer s H E hr => ?_
  exact (js_cons (js_set 1 sc_law.nd rfl (Or.inl rfl) (je_lst (ja_cons (je_str [65, 66] (by decide +kernel) (by decide +kernel)) (ja_cons (je_str [66, 65] (by decide +kernel) (by decide +kernel)) (ja_cons (je_str [81, 90] (by decide +kernel) (by decide +kernel)) (ja_cons (je_str [90, 67] (by decide +kernel) (by decide +kernel)) ja_nil (by rfl)) (by rfl)) (by rfl)) (by rfl))) (by rfl) (Or.inl rfl)) (js_cons (js_for (passes_of rfl) rfl (ji_val (je_sl (je_bin oj_add (je_lst (ja_cons je_int ja_nil (by rfl))) (je_var 0 rfl (Or.inl rfl) (by decide) (by decide))) jo_none (jo_some je_int))) (jg_name 2 sc_law.nd rfl (Or.inl rfl) (Or.inl rfl)) (js_cons (js_set 3 sc_law.nd rfl (Or.inl rfl) (je_ix ij_ix (je_var 1 rfl (Or.inl rfl) (by decide) (by decide)) (je_cal (L2N.takes_of rfl rfl rfl rfl) c__law_pick rfl (hr.mono (by omega)) (by rfl) (ja_cons (je_cal (L2N.takes_of rfl rfl rfl rfl) c__law_deck rfl (hr.mono (by omega)) (by rfl) (ja_cons (je_var 2 rfl (Or.inl rfl) (by decide) (by decide)) (ja_cons je_int ja_nil (by rfl)) (by rfl)) (ga_cons (ga_cons ga_nil)) (by decide) (by rfl) (by rfl)) (ja_cons je_int ja_nil (by rfl)) (by rfl)) (ga_cons (ga_cons ga_nil)) (by decide) (by rfl) (by rfl)) (fun _ _ => rfl)) (by rfl) (Or.inl rfl)) (js_one (js_if (jt_not (jt_val (je_cal (L2N.takes_of rfl rfl rfl rfl) c__law_pair_right rfl (hr.mono (by omega)) (by rfl) (ja_cons (je_ix ij_ix (je_var 3 rfl (Or.inl rfl) (by decide) (by decide)) je_int (fun _ _ => rfl)) (ja_cons (je_ix ij_ix (je_var 3 rfl (Or.inl rfl) (by decide) (by decide)) je_int (fun _ _ => rfl)) ja_nil (by rfl)) (by rfl)) (ga_cons (ga_cons ga_nil)) (by decide) (by rfl) (by rfl)) (fun _ => rfl))) (js_one (js_ret je_bl)) js_nil))) (fun _ => rfl)) (js_cons (js_if (jw_pt (jw_or (jt_not (jt_val (je_cal (L2N.takes_of rfl rfl rfl rfl) c__law_pair_right rfl (hr.mono (by omega)) (by rfl) (ja_cons (je_str [65] (by decide +kernel) (by decide +kernel)) (ja_cons (je_str [66] (by decide +kernel) (by decide +kernel)) ja_nil (by rfl)) (by rfl)) (ga_cons (ga_cons ga_nil)) (by decide) (by rfl) (by rfl)) (fun _ => rfl))) (jw_or (jt_cmp (oj_ne hr.units) (je_cal (L2N.takes_of rfl rfl rfl rfl) c_first_wrong rfl (hr.mono (by omega)) (by rfl) (ja_cons (je_str [65, 66, 45, 99] (by decide +kernel) (by decide +kernel)) ja_nil (by rfl)) (ga_cons ga_nil) (by decide) (by rfl) (by rfl)) je_int (nomark _)) (jw_or1 (jt_cmp oj_isnot (je_cal (L2N.takes_of rfl rfl rfl rfl) c_is_right rfl (hr.mono (by omega)) (by rfl) (ja_cons (je_str [65, 45, 97, 45] (by decide +kernel) (by decide +kernel)) ja_nil (by rfl)) (ga_cons ga_nil) (by decide) (by rfl) (by rfl)) je_bl (nomark _)))))) (js_one (js_ret je_bl)) js_nil) (js_cons (js_if (jw_pt (jw_or (jt_cmp (oj_ne hr.units) (je_cal (L2N.takes_of rfl rfl rfl rfl) c_order_at rfl (hr.mono (by omega)) (by rfl) (ja_cons (je_str [65, 66, 97, 45, 98] (by decide +kernel) (by decide +kernel)) (ja_cons je_int ja_nil (by rfl)) (by rfl)) (ga_cons (ga_cons ga_nil)) (by decide) (by rfl) (by rfl)) (je_tup (ja_cons je_int (ja_cons je_int (ja_cons je_int (ja_cons je_int (ja_cons je_int ja_nil (by rfl)) (by rfl)) (by rfl)) (by rfl)) (by rfl))) (nomark _)) (jw_or1 (jt_cmp (oj_ne hr.units) (je_cal (L2N.takes_of rfl rfl rfl rfl) c_order_at rfl (hr.mono (by omega)) (by rfl) (ja_cons (je_str [65, 66, 97, 45, 98] (by decide +kernel) (by decide +kernel)) (ja_cons je_int ja_nil (by rfl)) (by rfl)) (ga_cons (ga_cons ga_nil)) (by decide) (by rfl) (by rfl)) (je_tup (ja_cons je_int (ja_cons je_int (ja_cons je_int (ja_cons je_int (ja_cons je_int ja_nil (by rfl)) (by rfl)) (by rfl)) (by rfl)) (by rfl))) (nomark _))))) (js_one (js_ret je_bl)) js_nil) (js_cons (js_if (jw_pt (jw_or (jt_cmp (oj_ne hr.units) (je_tryC B_try tb_L tm_L tu (hr.mono (by omega)) (by rfl) (by decide +kernel) (fun _ => rfl) (fun _ _ _ _ _ => rfl) (fun A outer s H E f c' hr => (je_cal (L2N.takes_of rfl rfl rfl rfl) c_page_starts rfl (hr.mono (by omega)) (by rfl) (ja_cons (je_str [65, 45, 66, 45, 45] (by decide +kernel) (by decide +kernel)) (ja_cons je_int ja_nil (by rfl)) (by rfl)) (ga_cons (ga_cons ga_nil)) (by decide) (by rfl) (by rfl))) (fun _ => rfl) (fun _ => rfl)) (je_str [80, 111, 115, 115, 105, 98, 108, 101, 43] (by decide +kernel) (by decide +kernel)) (nomark _)) (jw_or1 (jt_cmp (oj_ne hr.units) (je_cal (L2N.takes_of rfl rfl rfl rfl) c_count_rows rfl (hr.mono (by omega)) (by rfl) (ja_cons je_int (ja_cons je_int ja_nil (by rfl)) (by rfl)) (ga_cons (ga_cons ga_nil)) (by decide) (by rfl) (by rfl)) je_int (nomark _))))) (js_one (js_ret je_bl)) js_nil) (js_one (js_ret (je_and (je_cmp (oj_eq hr.units) (je_cal (L2N.takes_of rfl rfl rfl rfl) c_number_of rfl (hr.mono (by omega)) (by rfl) (ja_cons (je_str [65, 66, 97, 45, 98] (by decide +kernel) (by decide +kernel)) (ja_cons (je_tup (ja_cons je_int (ja_cons je_int (ja_cons je_int (ja_cons je_int (ja_cons je_int ja_nil (by rfl)) (by rfl)) (by rfl)) (by rfl)) (by rfl))) ja_nil (by rfl)) (by rfl)) (ga_cons (ga_cons ga_nil)) (by decide) (by rfl) (by rfl)) (je_bin oj_sub (je_cal (L2N.takes_of rfl rfl rfl rfl) c_count_orders rfl (hr.mono (by omega)) (by rfl) (ja_cons (je_str [65, 66, 97, 45, 98] (by decide +kernel) (by decide +kernel)) ja_nil (by rfl)) (ga_cons ga_nil) (by decide) (by rfl) (by rfl)) je_int) (nomark _)) (je_one (je_cmp oj_is (je_cal (L2N.takes_of rfl rfl rfl rfl) c_keeps rfl (hr.mono (by omega)) (by rfl) (ja_cons (je_str [65, 66, 97, 45, 98] (by decide +kernel) (by decide +kernel)) (ja_cons (je_tup (ja_cons je_int (ja_cons je_int (ja_cons je_int (ja_cons je_int (ja_cons je_int ja_nil (by rfl)) (by rfl)) (by rfl)) (by rfl)) (by rfl))) ja_nil (by rfl)) (by rfl)) (ga_cons (ga_cons ga_nil)) (by decide) (by rfl) (by rfl)) je_bl (nomark _)))))))))))
theorem fnok_law {P : Program} {w : World} {K : PySem.W.Frag} {mg : Str → Option Value} {base : Heap} {f : Addr} {fd : FuncData} (F : Fun K "law" "law" s_law f fd) (hm : mg "law" = some (.ref f)) {c_L P_L : Addr} (hcd : fd.code = .ref c_L) (tb_L : LamX.TabB base mg c_L P_L) (tm_L : (P_L, (("law" : Str) ++ (".<locals>." : Str)) ++ ("<lambda>" : Str)) ∈ tbK K) (tu : tbU K = true) {gT fN NE : Addr} {fdT fdN : FuncData} (B_try : TryF P w K mg base 10 s__law_try gT fdT NT_ NE fN fdN ["_law_e"]) (c__law_pick : Cal P w K mg base 1 "_law_pick" 2 F__law_pick) (c__law_deck : Cal P w K mg base 1 "_law_deck" 2 F__law_deck) (c__law_pair_right : Cal P w K mg base 6 "_law_pair_right" 2 F__law_pair_right) (c_first_wrong : Cal P w K mg base 4 "first_wrong" 1 F_first_wrong) (c_is_right : Cal P w K mg base 4 "is_right" 1 F_is_right) (c_order_at : Cal P w K mg base 4 "order_at" 2 F_order_at) (c_page_starts : Cal P w K mg base 5 "page_starts" 2 F_page_starts) (c_count_rows : Cal P w K mg base 2 "count_rows" 2 F_count_rows) (c_number_of : Cal P w K mg base 4 "number_of" 2 F_number_of) (c_count_orders : Cal P w K mg base 4 "count_orders" 1 F_count_orders) (c_keeps : Cal P w K mg base 4 "keeps" 2 F_keeps) : FnOk P w K mg base (L2N.CX P w) 13 f fd ["_law_script"] (spG ⟨P, w, K, mg⟩ 1 F_law) := by
  refine fn_okC (g := G_law) (ps := ["_law_script"]) (N := ["_law_script", "_law_pairs", "_law_cell", "_law_pair"]) F hcd sc_law fun A outer s H E hr => ?_
  exact (js_cons (js_set 1 sc_law.nd rfl (Or.inl rfl) (je_lst (ja_cons (je_str [65, 66] (by decide +kernel) (by decide +kernel)) (ja_cons (je_str [66, 65] (by decide +kernel) (by decide +kernel)) (ja_cons (je_str [81, 90] (by decide +kernel) (by decide +kernel)) (ja_cons (je_str [90, 67] (by decide +kernel) (by decide +kernel)) ja_nil (by rfl)) (by rfl)) (by rfl)) (by rfl))) (by rfl) (Or.inl rfl)) (js_cons (js_for (passes_of rfl) rfl (ji_val (je_sl (je_bin oj_add (je_lst (ja_cons je_int ja_nil (by rfl))) (je_var 0 rfl (Or.inl rfl) (by decide) (by decide))) jo_none (jo_some je_int))) (jg_name 2 sc_law.nd rfl (Or.inl rfl) (Or.inl rfl)) (js_cons (js_set 3 sc_law.nd rfl (Or.inl rfl) (je_ix ij_ix (je_var 1 rfl (Or.inl rfl) (by decide) (by decide)) (je_cal (L2N.takes_of rfl rfl rfl rfl) c__law_pick rfl (hr.mono (by omega)) (by rfl) (ja_cons (je_cal (L2N.takes_of rfl rfl rfl rfl) c__law_deck rfl (hr.mono (by omega)) (by rfl) (ja_cons (je_var 2 rfl (Or.inl rfl) (by decide) (by decide)) (ja_cons je_int ja_nil (by rfl)) (by rfl)) (ga_cons (ga_cons ga_nil)) (by decide) (by rfl) (by rfl)) (ja_cons je_int ja_nil (by rfl)) (by rfl)) (ga_cons (ga_cons ga_nil)) (by decide) (by rfl) (by rfl)) (fun _ _ => rfl)) (by rfl) (Or.inl rfl)) (js_one (js_if (jt_not (jt_val (je_cal (L2N.takes_of rfl rfl rfl rfl) c__law_pair_right rfl (hr.mono (by omega)) (by rfl) (ja_cons (je_ix ij_ix (je_var 3 rfl (Or.inl rfl) (by decide) (by decide)) je_int (fun _ _ => rfl)) (ja_cons (je_ix ij_ix (je_var 3 rfl (Or.inl rfl) (by decide) (by decide)) je_int (fun _ _ => rfl)) ja_nil (by rfl)) (by rfl)) (ga_cons (ga_cons ga_nil)) (by decide) (by rfl) (by rfl)) (fun _ => rfl))) (js_one (js_ret je_bl)) js_nil))) (fun _ => rfl)) (js_cons (js_if (jw_pt (jw_or (jt_not (jt_val (je_cal (L2N.takes_of rfl rfl rfl rfl) c__law_pair_right rfl (hr.mono (by omega)) (by rfl) (ja_cons (je_str [65] (by decide +kernel) (by decide +kernel)) (ja_cons (je_str [66] (by decide +kernel) (by decide +kernel)) ja_nil (by rfl)) (by rfl)) (ga_cons (ga_cons ga_nil)) (by decide) (by rfl) (by rfl)) (fun _ => rfl))) (jw_or (jt_cmp (oj_ne hr.units) (je_cal (L2N.takes_of rfl rfl rfl rfl) c_first_wrong rfl (hr.mono (by omega)) (by rfl) (ja_cons (je_str [65, 66, 45, 99] (by decide +kernel) (by decide +kernel)) ja_nil (by rfl)) (ga_cons ga_nil) (by decide) (by rfl) (by rfl)) je_int (nomark _)) (jw_or1 (jt_cmp oj_isnot (je_cal (L2N.takes_of rfl rfl rfl rfl) c_is_right rfl (hr.mono (by omega)) (by rfl) (ja_cons (je_str [65, 45, 97, 45] (by decide +kernel) (by decide +kernel)) ja_nil (by rfl)) (ga_cons ga_nil) (by decide) (by rfl) (by rfl)) je_bl (nomark _)))))) (js_one (js_ret je_bl)) js_nil) (js_cons (js_if (jw_pt (jw_or (jt_cmp (oj_ne hr.units) (je_cal (L2N.takes_of rfl rfl rfl rfl) c_order_at rfl (hr.mono (by omega)) (by rfl) (ja_cons (je_str [65, 66, 97, 45, 98] (by decide +kernel) (by decide +kernel)) (ja_cons je_int ja_nil (by rfl)) (by rfl)) (ga_cons (ga_cons ga_nil)) (by decide) (by rfl) (by rfl)) (je_tup (ja_cons je_int (ja_cons je_int (ja_cons je_int (ja_cons je_int (ja_cons je_int ja_nil (by rfl)) (by rfl)) (by rfl)) (by rfl)) (by rfl))) (nomark _)) (jw_or1 (jt_cmp (oj_ne hr.units) (je_cal (L2N.takes_of rfl rfl rfl rfl) c_order_at rfl (hr.mono (by omega)) (by rfl) (ja_cons (je_str [65, 66, 97, 45, 98] (by decide +kernel) (by decide +kernel)) (ja_cons je_int ja_nil (by rfl)) (by rfl)) (ga_cons (ga_cons ga_nil)) (by decide) (by rfl) (by rfl)) (je_tup (ja_cons je_int (ja_cons je_int (ja_cons je_int (ja_cons je_int (ja_cons je_int ja_nil (by rfl)) (by rfl)) (by rfl)) (by rfl)) (by rfl))) (nomark _))))) (js_one (js_ret je_bl)) js_nil) (js_cons (js_if (jw_pt (jw_or (jt_cmp (oj_ne hr.units) (je_tryC B_try tb_L tm_L tu (hr.mono (by omega)) (by rfl) (by decide +kernel) (fun _ => rfl) (fun _ _ _ _ _ => rfl) (fun A outer s H E f c' hr => (je_cal (L2N.takes_of rfl rfl rfl rfl) c_page_starts rfl (hr.mono (by omega)) (by rfl) (ja_cons (je_str [65, 45, 66, 45, 45] (by decide +kernel) (by decide +kernel)) (ja_cons je_int ja_nil (by rfl)) (by rfl)) (ga_cons (ga_cons ga_nil)) (by decide) (by rfl) (by rfl))) (fun _ => rfl) (fun _ => rfl)) (je_str [80, 111, 115, 115, 105, 98, 108, 101, 43] (by decide +kernel) (by decide +kernel)) (nomark _)) (jw_or1 (jt_cmp (oj_ne hr.units) (je_cal (L2N.takes_of rfl rfl rfl rfl) c_count_rows rfl (hr.mono (by omega)) (by rfl) (ja_cons je_int (ja_cons je_int ja_nil (by rfl)) (by rfl)) (ga_cons (ga_cons ga_nil)) (by decide) (by rfl) (by rfl)) je_int (nomark _))))) (js_one (js_ret je_bl)) js_nil) (js_one (js_ret (je_and (je_cmp (oj_eq hr.units) (je_cal (L2N.takes_of rfl rfl rfl rfl) c_number_of rfl (hr.mono (by omega)) (by rfl) (ja_cons (je_str [65, 66, 97, 45, 98] (by decide +kernel) (by decide +kernel)) (ja_cons (je_tup (ja_cons je_int (ja_cons je_int (ja_cons je_int (ja_cons je_int (ja_cons je_int ja_nil (by rfl)) (by rfl)) (by rfl)) (by rfl)) (by rfl))) ja_nil (by rfl)) (by rfl)) (ga_cons (ga_cons ga_nil)) (by decide) (by rfl) (by rfl)) (je_bin oj_sub (je_cal (L2N.takes_of rfl rfl rfl rfl) c_count_orders rfl (hr.mono (by omega)) (by rfl) (ja_cons (je_str [65, 66, 97, 45, 98] (by decide +kernel) (by decide +kernel)) ja_nil (by rfl)) (ga_cons ga_nil) (by decide) (by rfl) (by rfl)) je_int) (nomark _)) (je_one (je_cmp oj_is (je_cal (L2N.takes_of rfl rfl rfl rfl) c_keeps rfl (hr.mono (by omega)) (by rfl) (ja_cons (je_str [65, 66, 97, 45, 98] (by decide +kernel) (by decide +kernel)) (ja_cons (je_tup (ja_cons je_int (ja_cons je_int (ja_cons je_int (ja_cons je_int (ja_cons je_int ja_nil (by rfl)) (by rfl)) (by rfl)) (by rfl)) (by rfl))) ja_nil (by rfl)) (by rfl)) (ga_cons (ga_cons ga_nil)) (by decide) (by rfl) (by rfl)) je_bl (nomark _)))))))))))
end Ib

set_option Elab.async false
set_option linter.all false
set_option maxRecDepth 100000
set_option maxHeartbeats 2000000
/-! rows, plain -/
namespace Ib
open PySem PySem.Spec PyProof.Rows L2
def wk : Nat → List Nat → List Nat
  | _, [] => []
  | l, c :: r => (if c = 45 then l else up1 c) :: wk (if c = 45 then l else up1 c) r
theorem src_str {x : List Nat} {ce : Cells} : srcOf (.str x) ce = some (srcC (x.map sgD)) := rfl
theorem works_last (found : List Nat) : atI (found ++ [63]) (if found ≠ [] then -2 else 0) = some (found.getLastD 63) := by
  by_cases h : found = []
  · subst h; rfl
  · rw [if_pos h]
    have hl : 0 < found.length := List.length_pos_iff.mpr h
    unfold atI ixN
    rw [if_neg (by omega), List.length_append, List.length_singleton, if_pos (by omega)]
    simp only [Option.bind_some]
    have : (-2 + ((found.length + 1 : Nat) : Int)).toNat = found.length - 1 := by omega
    rw [this, List.getElem?_append_left (by omega), List.getLastD_eq_getLast?, List.getLast?_eq_getElem?, List.getElem?_eq_getElem (by omega)]
    rfl
theorem getLastD_snoc {α : Type} {l : List α} {a d : α} : (l ++ [a]).getLastD d = a := by simp [List.getLastD_eq_getLast?]
theorem works_loop : ∀ (r found : List Nat) (a x2 : Option D) (ce : Cells), found.length + r.length ≤ 1000 → ∃ x2', forL (gN 2) (sSet 1 (eBin dAdd (eVar 1) (eIf (tOf (eBin dEq (eVar 2) (eC (.str [45])))) (eBin dIx (eBin dAdd (eVar 1) (eC (.str [63]))) (eIf (tOf (eBin dNe (eVar 1) (eC (.str [])))) (eUn dNeg (eC (.int 2))) (eC (.int 0)))) (eMeth0 "str" dUpper (eVar 2))))) (r.map sgD) [a, some (.str found), x2] ce = .nx [a, some (.str (found ++ wk (found.getLastD 63) r)), x2'] ce := by
  intro r
  induction r with
  | nil => intro found a x2 ce _; exact ⟨x2, by simp [forL, wk]⟩
  | cons c r ih =>
    intro found a x2 ce hl
    simp only [List.length_cons] at hl
    obtain ⟨x2', h⟩ := ih (found ++ [if c = 45 then found.getLastD 63 else up1 c]) a (some (sgD c)) ce (by simp; omega)
    refine ⟨x2', ?_⟩
    rw [List.map_cons]
    unfold forL
    rw [getLastD_snoc] at h
    by_cases hc : c = 45
    · subst hc
      have := works_last found
      by_cases hf : found = []
      · subst hf
        simp [o_add_str, atI, ixN] at this ⊢
        simpa [wk] using h
      · simp [hf] at this
        simp [hf, o_add_str, show found.length + 1 ≤ 1000000 by omega, this]
        simpa [wk] using h
    · simp [hc, o_add_str, show found.length + 1 ≤ 1000000 by omega]
      simpa [wk, hc] using h
theorem f_works {r : List Nat} (ce : Cells) (h : r.length ≤ 1000) : F_works_of [.str r] ce = .ok (.str (wk 63 r)) ce := by
  unfold F_works_of runF G_works_of
  obtain ⟨x, hx⟩ := works_loop r [] (some (.str r)) none ce (by simpa using h)
  have : eIter (eVar 0) [some (D.str r), some (.str []), none] ce = .ok (srcC (r.map sgD)) ce := by simp [eIter, src_str]
  simp only [List.length_singleton, if_true, List.map_cons, List.map_nil, Nat.add_one_sub_one, List.replicate, List.cons_append, List.nil_append, r_sSeq, r_sSet, r_eC, st_ok, List.set, seqK_nx, sFor_C this, hx]
  simp [fin]
theorem wk_len : ∀ (r : List Nat) (l : Nat), (wk l r).length = r.length
  | [], _ => rfl
  | c :: r, l => by simp [wk, wk_len r]
@[simp] theorem lo_up {c : Nat} : (isLo c && !isUp c) = isLo c := by
  unfold isLo isUp
  rw [Bool.eq_iff_iff]
  simp
  omega
def mis (r : List Nat) (c k : Nat) : Bool := isLo c && !decide (up1 c ∈ r.take k)
def bad (r : List Nat) (k : Nat) : Bool := match r[k]?, (wk 63 r)[k]? with
  | some c, some w => decide (w = 63) || mis r c k
  | _, _ => false
def faultsL (r : List Nat) : List Nat := (List.range r.length).filter (bad r)
theorem eSrcC_of {f : Cells → List D → Option Src} {ga : SEnv → Cells → Out (List D)} {sl : SEnv} {ce ce1 : Cells} {ds : List D} {src : Src} (h : ga sl ce = .ok ds ce1) (hf : f ce1 ds = some src) : eSrcC f ga sl ce = .ok src ce1 := by
  unfold eSrcC; rw [h, bind_ok, hf]
theorem eSrc_of {f : List D → Option Src} {ga : SEnv → Cells → Out (List D)} {sl : SEnv} {ce ce1 : Cells} {ds : List D} {src : Src} (h : ga sl ce = .ok ds ce1) (hf : f ds = some src) : eSrc f ga sl ce = .ok src ce1 := by
  unfold eSrc; rw [h, bind_ok, hf]
theorem enum_str {x : List Nat} {ce : Cells} : srcEnum ce [.str x] = some (srcC (x.zipIdx.map fun q => .tup [natD q.2, sgD q.1])) := by
  show some (srcC (enumL (x.map sgD))) = _
  rw [enumL_map]
theorem range1_nat {n : Nat} (h : n ≤ 1000000) : srcRange1 [natD n] = some (srcC ((List.range n).map natD)) := by
  have h1 : rngOk (n : Int) = true := rngOk_iff.mpr ⟨by omega, by omega⟩
  unfold srcRange1 natD
  simp [h1, rangeL_map]
theorem mem_zipIdx {α : Type} {xs : List α} {q : α × Nat} (h : q ∈ xs.zipIdx) : xs[q.2]? = some q.1 ∧ q.2 < xs.length := by
  have := List.mem_zipIdx_iff_getElem?.mp h
  exact ⟨this, (List.getElem?_eq_some_iff.mp this).1⟩
theorem zipIdx_map_get {α β : Type} {xs : List α} {f : α × Nat → β} {k : Nat} {c : α} (h : xs[k]? = some c) : (xs.zipIdx.map f)[k]? = some (f (c, k)) := by
  rw [List.getElem?_map, List.getElem?_zipIdx, h]; simp
theorem runF_ok {n N : Nat} {g : SDen} {ds : List D} {ce ce1 : Cells} {d : D} {r : Out D} (hn : ds.length = n) (hg : g (ds.map some ++ List.replicate (N - ds.length) none) ce = .rt d ce1) (hr : Ib.fin ce.length d ce1 = r) : runF n N g ds ce = r := by
  unfold runF
  rw [if_pos hn, hg]
  exact hr
theorem runF_nx {n N : Nat} {g : SDen} {ds : List D} {ce ce1 : Cells} {sl : SEnv} (hn : ds.length = n) (hg : g (ds.map some ++ List.replicate (N - ds.length) none) ce = .nx sl ce1) (hr : ce1.take ce.length = ce) : runF n N g ds ce = .ok .non ce := by
  unfold runF
  rw [if_pos hn, hg]
  simp only [fin, hr]
theorem seq_set {i : Nat} {ga : EDen} {b : SDen} {sl : SEnv} {ce ce1 : Cells} {d : D} (h : ga sl ce = .ok d ce1) : sSeq (sSet i ga) b sl ce = b (sl.set i (some d)) ce1 := by simp [h]
theorem seq_expr {ga : EDen} {b : SDen} {sl : SEnv} {ce ce1 : Cells} {d : D} (h : ga sl ce = .ok d ce1) : sSeq (sExpr ga) b sl ce = b sl ce1 := by simp [h]
theorem ret_of {ga : EDen} {sl : SEnv} {ce ce1 : Cells} {d : D} (h : ga sl ce = .ok d ce1) : sRet ga sl ce = .rt d ce1 := by simp [h]
theorem seq_multi {is : List Nat} {ga : SEnv → Cells → Out (List D)} {b : SDen} {sl sl1 : SEnv} {ce ce1 : Cells} {ds : List D} (h : ga sl ce = .ok ds ce1) (hg : gsN is ds sl = some sl1) : sSeq (sMulti is ga) b sl ce = b sl1 ce1 := by
  show seqK (sMulti is ga sl ce) b = _
  rw [r_sMulti, h, st_ok, hg]; rfl
theorem seq_nx {a b : SDen} {sl sl1 : SEnv} {ce ce1 : Cells} (h : a sl ce = .nx sl1 ce1) : sSeq a b sl ce = b sl1 ce1 := by simp [h]
theorem seq_rt {a b : SDen} {sl : SEnv} {ce ce1 : Cells} {d : D} (h : a sl ce = .rt d ce1) : sSeq a b sl ce = .rt d ce1 := by simp [h]
theorem f_faults {r : List Nat} (ce : Cells) (h : r.length ≤ 1000) : F_faults [.str r] ce = .ok (.lst ((faultsL r).map natD)) ce := by
  refine runF_ok (d := .lst ((faultsL r).map natD)) (ce1 := ce) rfl ?_ (by simp [fin])
  unfold G_faults
  simp only [List.length_singleton, List.map_cons, List.map_nil, Nat.add_one_sub_one, List.replicate, List.cons_append, List.nil_append]
  rw [seq_set (d := .str (wk 63 r)) (ce1 := ce) (by simp [f_works ce h])]
  have hm : ∀ (b : Option D), eComp (eSrcC srcEnum (aCons (eVar 0) aNil)) [3, 4] (gT (gsN [3, 4]) 2) ttYes (eAnd (eMeth0 "str" dIsLower (eVar 4)) (eBin dNotIn (eMeth0 "str" dUpper (eVar 4)) (eSl (eVar 0) oNone (oSome (eVar 3))))) [some (.str r), b, none, none, none] ce = .ok (.lst (r.zipIdx.map fun q => .bl (mis r q.1 q.2))) ce := by
    intro b
    unfold eComp
    rw [comp_map (src := srcC (r.zipIdx.map fun q => .tup [natD q.2, sgD q.1])) r.zipIdx (fun q => .tup [natD q.2, sgD q.1]) (fun q => .bl (mis r q.1 q.2)) (fun q => [some (.str r), b, none, some (natD q.2), some (sgD q.1)])
      (eSrcC_of (by simp) enum_str) (fun _ => rfl) (by simp) (by simp; omega) (fun q _ => by simp) ?_ (fun _ _ => rfl)]
    · simp
    · intro q hq acc
      simp [cutL_to]
      unfold mis
      by_cases hl : isLo q.1 = true
      · simp [hl]
      · simp [hl]
  rw [seq_set (ce1 := ce) (by simpa using hm _)]
  simp only [r_sRet, List.set]
  unfold eComp
  rw [comp_pure (src := srcC ((List.range r.length).map natD)) (List.range r.length) natD (bad r) natD (fun k => [some (.str r), some (.str (wk 63 r)), some (.lst (r.zipIdx.map fun q => .bl (mis r q.1 q.2))), some (natD k), none])
    (eSrc_of (by simp) (range1_nat (by omega))) (fun _ => rfl) (by simp) (by simp; omega) (fun k _ => by simp) ?_ (fun k hk _ acc => by simp) (fun _ _ _ => rfl)]
  · simp [faultsL]
  · intro k hk acc
    have hk' : k < r.length := List.mem_range.mp hk
    have h1 : r[k]? = some r[k] := List.getElem?_eq_getElem hk'
    have h2 : (wk 63 r)[k]? = some ((wk 63 r)[k]'(by rw [wk_len]; exact hk')) := List.getElem?_eq_getElem (by rw [wk_len]; exact hk')
    have h3 := zipIdx_map_get (f := fun q => D.bl (mis r q.1 q.2)) h1
    simp only [List.map_map] at h3
    simp [atI_nat, h2, h1, bad, -List.getElem?_map, -List.getElem?_zipIdx]
    by_cases h5 : (wk 63 r)[k]'(by rw [wk_len]; exact hk') = 63
    · simp [h5]
    · simp [h5, h3]
/-- a sign of a row -/
def isSg (c : Nat) : Bool := decide (c = 45) || isUp (up1 c)
theorem LET_mem {c : Nat} : c ∈ [65, 66, 67, 68, 69, 70, 71, 72, 73, 74, 75, 76, 77, 78, 79, 80, 81, 82, 83, 84, 85, 86, 87, 88, 89, 90] ↔ isUp c = true := by
  simp [isUp]; omega
theorem low_mem {c : Nat} : c ∈ [97, 98, 99, 100, 101, 102, 103, 104, 105, 106, 107, 108, 109, 110, 111, 112, 113, 114, 115, 116, 117, 118, 119, 120, 121, 122] ↔ isLo c = true := by
  simp [isLo]; omega
theorem f_sign {c : Nat} (ce : Cells) : F_is_sign [sgD c] ce = .ok (.bl (isSg c)) ce := by
  refine runF_ok (d := .bl (isSg c)) (ce1 := ce) rfl ?_ (by simp [fin])
  unfold G_is_sign
  simp [-List.mem_cons, LET_mem, isSg]
  by_cases h : c = 45
  · simp [h]
  · simp [h]
@[simp] theorem dAll_bls {bs : List Bool} : dAll [.lst (bs.map D.bl)] = some (.bl (bs.all id)) := by
  unfold dAll
  have : ∀ bs : List Bool, asBls (bs.map D.bl) = some bs := by
    intro bs
    induction bs with
    | nil => rfl
    | cons b bs ih => simp [asBls, ih]
  simp [this]
def isRw (r : List Nat) : Bool := decide (r.length ≤ 30) && r.all isSg
theorem f_row {r : List Nat} (ce : Cells) (h : r.length ≤ 1000) : F_is_row [.str r] ce = .ok (.bl (isRw r)) ce := by
  refine runF_ok (d := .bl (isRw r)) (ce1 := ce) rfl ?_ (by simp [fin])
  unfold G_is_row
  have hm : eComp (eIter (eVar 0)) [1] (gN 1) ttYes (eFn F_is_sign (aCons (eVar 1) aNil)) [some (D.str r), none] ce = .ok (.lst (r.map fun c => .bl (isSg c))) ce := by
    unfold eComp
    rw [comp_map (src := srcC (r.map sgD)) r sgD (fun c => .bl (isSg c)) (fun c => [some (.str r), some (sgD c)])
      (by simp [eIter, src_str]) (fun _ => rfl) (by simp) (by omega) (fun q _ => by simp) ?_ (fun _ _ => rfl)]
    · simp
    · intro q hq acc
      simp [f_sign]
  have hb : (r.map fun c => D.bl (isSg c)) = (r.map isSg).map D.bl := by simp
  have hi : ((r.length : Int) ≤ 30) ↔ r.length ≤ 30 := by omega
  simp [hm, hb, hi, isRw, -List.map_map]
  by_cases h30 : r.length ≤ 30
  · simp [h30]
  · simp [h30]
/-- right rows -/
def isRight (r : List Nat) : Bool := isRw r && (faultsL r).isEmpty
theorem dEq_nats_nil {a : List Nat} : dEq (.lst (a.map natD)) (.lst []) = some (.bl a.isEmpty) := by
  have : a.map natD = (a.map (fun k : Nat => (k : Int))).map D.int := by simp
  rw [this, dEq_ints_nil]
  cases a <;> simp
@[simp] theorem dEq_nil_nil : dEq (.lst []) (.lst []) = some (.bl true) := dEq_nats_nil (a := [])
theorem f_need_right {r : List Nat} (ce : Cells) (h : isRight r = true) : F_need_right [.str r] ce = .ok .non ce := by
  simp [isRight, isRw] at h
  refine runF_nx (sl := [some (.str r)]) (ce1 := ce) rfl ?_ (by simp)
  unfold G_need_right
  have h1 : isRw r = true := by simp [isRw]; exact h.1
  simp [f_row ce (show r.length ≤ 1000 by omega), h1, f_faults ce (show r.length ≤ 1000 by omega), dEq_nats_nil, h.2]
theorem f_from {v lo hi : Int} (ce : Cells) : F_is_from [.int v, .int lo, .int hi] ce = .ok (.bl (decide (lo ≤ v) && decide (v ≤ hi))) ce := by
  refine runF_ok (d := .bl (decide (lo ≤ v) && decide (v ≤ hi))) (ce1 := ce) rfl ?_ (by simp [fin])
  unfold G_is_from
  have h1 : dIsi [.int v, .ty "int"] = some (.bl true) := by simp [dIsi, tyOf, isiB]
  have h2 : dIsi [.int v, .ty "bool"] = some (.bl false) := by simp [dIsi, tyOf, isiB]
  simp [h1, h2]
  by_cases h : lo ≤ v
  · simp [h]
  · simp [h]
theorem inF_nats {k : Nat} {ns : List Nat} : dIn (natD k) (.lst (ns.map natD)) = some (.bl (decide (k ∈ ns))) := by
  have : ns.map natD = (ns.map (fun k : Nat => (k : Int))).map D.int := by simp
  rw [this]
  show dIn (.int (k : Int)) _ = _
  rw [dIn_ints]
  congr 2
  rw [decide_eq_decide, List.mem_map]
  exact ⟨fun ⟨a, h1, h2⟩ => by have : a = k := by omega
                               exact this ▸ h1, fun h => ⟨k, h, rfl⟩⟩
@[simp] theorem cutL_from1 {α : Type} {xs : List α} {k : Nat} : cutL xs (some ((k : Int) + 1)) none = xs.drop (k + 1) := cutL_from (k := k + 1)
@[simp] theorem cutL_to' {α : Type} {xs : List α} {k : Nat} : cutL xs none (some (k : Int)) = xs.take k := cutL_to
end Ib

set_option Elab.async false
set_option linter.all false
set_option maxRecDepth 100000
set_option maxHeartbeats 2000000
/-! the law's own helpers, plain -/
namespace Ib
open PySem PySem.Spec PyProof.Rows L2
theorem look_cel {ce : Cells} {k : Nat} {xs : List D} (h : ce[k]? = some (.lst xs)) : look ce (.cel k) = .lst xs := by
  unfold look; simp only [h]
def setK (x i v : D) (sl : SEnv) (ce3 : Cells) : SOut := match x, i with
  | .cel k, .int i => match (frz ce3 v).2[k]? with
    | some (.lst xs) => match ixN xs.length i with
      | some j => .nx sl ((frz ce3 v).2.set k (.lst (xs.set j (frz ce3 v).1)))
      | none => .bad
    | _ => .bad
  | _, _ => .bad
@[simp] theorem r_sSetIx {go gi ge : EDen} {sl : SEnv} {ce : Cells} : sSetIx go gi ge sl ce = (ge sl ce).st sl fun v ce1 => (go sl ce1).st sl fun x ce2 => (gi sl ce2).st sl fun i ce3 => setK x i v sl ce3 := rfl
theorem setK_of {k j : Nat} {v : D} {sl : SEnv} {ce : Cells} {xs : List D} (h : ce[k]? = some (.lst xs)) (hj : j < xs.length) (hv : isCel v = false) : setK (.cel k) (.int (j : Int)) v sl ce = .nx sl (ce.set k (.lst (xs.set j v))) := by
  unfold setK
  simp only [frz_tree hv, h]
  have : ixN xs.length (j : Int) = some j := by unfold ixN; rw [if_pos (by omega), if_pos (by omega)]; simp
  rw [this]
theorem o_div {i j : Int} (h : 0 < j) (h2 : j < 1073741824) : dDiv (.int i) (.int j) = some (.int (i / j)) := if_pos ⟨h, Int.lt_trans h2 (by decide)⟩
theorem o_divW {i j : Int} (h : 0 < j) (h2 : j < 2 ^ 200) : dDiv (.int i) (.int j) = some (.int (i / j)) := if_pos ⟨h, h2⟩
theorem o_pow {i j : Int} (h : 0 ≤ j) (h1 : j ≤ 1000000) (h2 : i.natAbs < 2 ^ 64) : dPow (.int i) (.int j) = some (.int (i ^ j.toNat)) := if_pos ⟨h, h1, h2⟩
theorem mulOk_of {i : Int} (h : -(2 ^ 64) < i) (h2 : i < 2 ^ 64) : mulOk i = true := by unfold mulOk; simp; omega
@[simp] theorem take_set {α : Type} {l : List α} {k : Nat} {m : α} : (l.set k m).take l.length = l.set k m := List.take_of_length_le (by simp)
theorem fin_plain {d : D} (h : isCel d = false) (n : Nat) (ce : Cells) : Ib.fin n d ce = .ok d (ce.take n) := by
  cases d <;> first | rfl | cases h
theorem o_mulL {i j : Int} (h : -(2 ^ 64) < i) (h2 : i < 2 ^ 64) : dMul (.int i) (.int j) = some (.int (i * j)) := if_pos (by rw [mulOk_of h h2]; simp)
theorem o_mulR {i j : Int} (h : -(2 ^ 64) < j) (h2 : j < 2 ^ 64) : dMul (.int i) (.int j) = some (.int (i * j)) := if_pos (by rw [mulOk_of h h2]; simp)
abbrev dkM (a b t : Int) : MO := .lst [.int a, .int b, .int t]
def Dk (n : Int) (m : MO) : Prop := ∃ a b t, m = dkM a b t ∧ 0 ≤ b ∧ b < 2147483579 ∧ 0 ≤ t ∧ t ≤ n
theorem Dk.mono {n n' : Int} {m : MO} (h : Dk n m) (hn : n ≤ n') : Dk n' m := by
  obtain ⟨a, b, t, h1, h2, h3, h4, h5⟩ := h
  exact ⟨a, b, t, h1, h2, h3, h4, by omega⟩
theorem set_same {ce : Cells} {k : Nat} {m m' : MO} : (ce.set k m).set k m' = ce.set k m' := by simp
theorem f_pick {ce : Cells} {k : Nat} {m : MO} {n L : Int} (hk : ce[k]? = some m) (hd : Dk n m) (hn : n < 274877906944) (hL : 0 < L) (hL2 : L < 1000000) : ∃ v m', F__law_pick [.cel k, .int L] ce = .ok (.int v) (ce.set k m') ∧ 0 ≤ v ∧ v < L ∧ Dk (n + 1) m' := by
  obtain ⟨a, b, t, rfl, hb0, hb1, ht0, ht1⟩ := hd
  have hl := look_cel hk
  by_cases ha : 1 < a
  · refine ⟨a % L, dkM (a / L) b t, ?_, Int.emod_nonneg _ (by omega), Int.emod_lt_of_pos _ hL, a / L, b, t, rfl, hb0, hb1, ht0, by omega⟩
    refine runF_ok (d := .int (a % L)) (ce1 := ce.set k (dkM (a / L) b t)) rfl ?_ (by simp [fin])
    unfold G__law_pick
    refine seq_rt ?_
    have hs : ∀ sl, setK (.cel k) (.int 0) (.int (a / L)) sl ce = .nx sl (ce.set k (.lst [.int (a / L), .int b, .int t])) := fun sl => setK_of (j := 0) hk (by simp) rfl
    simp [hl, atI, ixN, ha, o_mod hL, o_div hL (show L < 1073741824 by omega), hs]
  · have hk2 : (ce.set k (dkM a b (t + 1)))[k]? = some (dkM a b (t + 1)) := set_get hk
    have hl2 := look_cel hk2
    let nu : Int := (b + 15485867 * (t + 1)) ^ 5 % 2147483647
    let fo : Int := (nu + 7919 * (t + 1)) ^ 3 % 2147483629 / 32
    refine ⟨fo % L, dkM a b (t + 1), ?_, Int.emod_nonneg _ (by omega), Int.emod_lt_of_pos _ hL, a, b, t + 1, rfl, hb0, hb1, by omega, by omega⟩
    refine runF_ok (d := .int (fo % L)) (ce1 := ce.set k (dkM a b (t + 1))) rfl ?_ (by simp [fin])
    unfold G__law_pick
    have hs : ∀ sl, setK (.cel k) (.int 2) (.int (t + 1)) sl ce = .nx sl (ce.set k (.lst [.int a, .int b, .int (t + 1)])) := fun sl => setK_of (j := 2) hk (by simp) rfl
    have hnu : 0 ≤ nu ∧ nu < 2147483647 := ⟨Int.emod_nonneg _ (by omega), Int.emod_lt_of_pos _ (by omega)⟩
    rw [seq_nx (sl1 := [some (.cel k), some (.int L), none, none]) (ce1 := ce) (by simp [hl, atI, ixN, ha])]
    rw [seq_nx (sl1 := [some (.cel k), some (.int L), none, none]) (ce1 := ce.set k (dkM a b (t + 1))) (by simp [hl, atI, ixN, hs])]
    rw [seq_set (d := .int nu) (ce1 := ce.set k (dkM a b (t + 1))) (by
      simp [hl2, atI, ixN, o_mulL (show -(2 ^ 64) < (15485867 : Int) by decide) (show (15485867 : Int) < 2 ^ 64 by decide), o_pow (show (0 : Int) ≤ 5 by decide) (show (5 : Int) ≤ 1000000 by decide) (show (b + 15485867 * (t + 1)).natAbs < 2 ^ 64 by omega), o_mod (show (0 : Int) < 2147483647 by decide), nu])]
    rw [seq_set (d := .int fo) (ce1 := ce.set k (dkM a b (t + 1))) (by
      simp [hl2, atI, ixN, o_mulL (show -(2 ^ 64) < (7919 : Int) by decide) (show (7919 : Int) < 2 ^ 64 by decide), o_pow (show (0 : Int) ≤ 3 by decide) (show (3 : Int) ≤ 1000000 by decide) (show (nu + 7919 * (t + 1)).natAbs < 2 ^ 64 by omega), o_mod (show (0 : Int) < 2147483629 by decide), o_div (show (0 : Int) < 32 by decide) (show (32 : Int) < 1073741824 by decide), fo])]
    rw [seq_nx (sl1 := [some (.cel k), some (.int L), some (.int nu), some (.int fo)]) (ce1 := ce.set k (dkM a b (t + 1))) (by simp [show ¬ (1000000 < L) by omega])]
    simp [o_mod hL]
theorem ext_of_diff {α : Type} [DecidableEq α] {xs ys : List α} (hl : xs.length = ys.length) : (xs.zipIdx.filter fun q => !decide (ys[q.2]? = some q.1)).isEmpty = decide (xs = ys) := by
  rw [Bool.eq_iff_iff, List.isEmpty_iff, decide_eq_true_iff, List.filter_eq_nil_iff]
  constructor
  · intro h
    apply List.ext_getElem? 
    intro i
    by_cases hi : i < xs.length
    · have := h (xs[i], i) (List.mem_zipIdx_iff_getElem?.mpr (List.getElem?_eq_getElem hi))
      simp at this
      rw [this, List.getElem?_eq_getElem hi]
    · rw [List.getElem?_eq_none (by omega), List.getElem?_eq_none (by omega)]
  · intro h q hq
    have := List.mem_zipIdx_iff_getElem?.mp hq
    subst h
    simp [this]
def enumAt (X : D) (ce : Cells) : Option (List D) := match look ce X with
  | .lst ys => some (enumL ys)
  | _ => none
theorem enumAt_of {X : D} {ce : Cells} {xs : List D} (h : look ce X = .lst xs) : enumAt X ce = some (enumL xs) := by unfold enumAt; simp only [h]
theorem enum_at {X : D} {ce : Cells} {xs : List D} (h : look ce X = .lst xs) : srcEnum ce [X] = some ⟨xs.length, enumAt X⟩ := by
  unfold srcEnum; simp only [h]; rfl
/-! what the signs mean -/
def tx (w : Nat) : List Nat := if w = 63 then [] else [w]
def mk : List Nat → List Nat → List (List Nat)
  | _, [] => []
  | l, c :: r => (if c = 45 then l else [up1 c]) :: mk (if c = 45 then l else [up1 c]) r
theorem mk_len : ∀ (r l : List Nat), (mk l r).length = r.length
  | [], _ => rfl
  | c :: r, l => by simp [mk, mk_len r]
theorem sg_ne {c : Nat} (h : isSg c = true) (h2 : c ≠ 45) : up1 c ≠ 63 := by
  simp [isSg, isUp, h2] at h
  omega
theorem mk_wk : ∀ (r : List Nat) (w : Nat), r.all isSg = true → mk (tx w) r = (wk w r).map tx
  | [], _, _ => rfl
  | c :: r, w, h => by
    simp at h
    have ih := mk_wk r (if c = 45 then w else up1 c) (by simpa using h.2)
    by_cases hc : c = 45
    · simp [mk, wk, hc] at ih ⊢; exact ih
    · have : tx (up1 c) = [up1 c] := if_neg (sg_ne h.1 hc)
      simp [mk, wk, hc, this] at ih ⊢; exact ih
theorem appK {acc : List D} {k : Nat} {ce : Cells} {y : D} {go : EDen} {ga : SEnv → Cells → Out (List D)} {sl : SEnv} (ho : go sl ce = .ok (.cel k) ce) (hk : ce[k]? = some (.lst acc)) (ha : ga sl ce = .ok [y] ce) (hy : isCel y = false) (hl : acc.length < 1000000) : eAppend go ga sl ce = .ok .non (ce.set k (.lst (acc ++ [y]))) := by
  unfold eAppend
  rw [ho, bind_ok, look_cel hk]
  simp [ha, frz_tree hy, hk, hl]
theorem meant_loop : ∀ (r : List Nat) (acc : List (List Nat)) (l : List Nat) (x1 : Option D) (ce : Cells) (n : Nat), n = ce.length → acc.length + r.length ≤ 1000 → ∃ x1' l', forL (gN 1) (sSeq (sSet 3 (eIf (tOf (eBin dEq (eVar 1) (eC (.str [45])))) (eVar 3) (eMeth0 "str" dUpper (eVar 1)))) (sExpr (eAppend (eVar 2) (aCons (eVar 3) aNil)))) (r.map sgD) [x0, x1, some (.cel n), some (.str l)] (ce ++ [.lst (acc.map D.str)]) = .nx [x0, x1', some (.cel n), some (.str l')] (ce ++ [.lst ((acc ++ mk l r).map D.str)]) := by
  intro r
  induction r with
  | nil => intro acc l x1 ce n _ _; exact ⟨x1, l, by simp [forL, mk]⟩
  | cons c r ih =>
    intro acc l x1 ce n hn hl
    simp only [List.length_cons] at hl
    obtain ⟨x1', l', h⟩ := ih (acc ++ [if c = 45 then l else [up1 c]]) (if c = 45 then l else [up1 c]) (some (sgD c)) ce n hn (by simp; omega)
    refine ⟨x1', l', ?_⟩
    rw [List.map_cons]
    unfold forL
    subst hn
    have h1 := appK (acc := acc.map D.str) (k := ce.length) (ce := ce ++ [.lst (acc.map D.str)]) (y := .str (if c = 45 then l else [up1 c])) (go := eVar 2) (ga := aCons (eVar 3) aNil) (sl := [x0, some (sgD c), some (.cel ce.length), some (.str (if c = 45 then l else [up1 c]))]) (by simp) (by simp) (by simp) rfl (by simp; omega)
    rw [r_gN]
    simp only [List.set]
    rw [seq_set (d := .str (if c = 45 then l else [up1 c])) (ce1 := ce ++ [.lst (acc.map D.str)]) (by by_cases hc : c = 45 <;> simp [hc])]
    simp only [List.set, r_sExpr, h1, st_ok, app_set0]
    rw [show (acc.map D.str ++ [D.str (if c = 45 then l else [up1 c])]) = (acc ++ [if c = 45 then l else [up1 c]]).map D.str by simp]
    rw [h]
    simp [mk]
end Ib

set_option Elab.async false
set_option linter.all false
set_option maxRecDepth 100000
set_option maxHeartbeats 2000000
/-! _law_wrong, _law_text -/
namespace Ib
open PySem PySem.Spec PyProof.Rows L2
def wrT (l : List Nat) (c : Nat) : List Nat := if c = 45 then l else [up1 c]
def wrH (l : List Nat) (full : List (List Nat)) (c : Nat) : Bool := decide (wrT l c = []) || (isLo c && !decide (wrT l c ∈ full))
def wrF (full : List (List Nat)) (c : Nat) : List (List Nat) := if c ≠ 45 ∧ c = up1 c then full ++ [[c]] else full
def wr : Nat → List Nat → List (List Nat) → List Nat → List Nat
  | _, _, _, [] => []
  | k, l, full, c :: r => if wrH l full c = true then k :: wr (k + 1) (wrT l c) (wrF full c) r else wr (k + 1) (wrT l c) (wrF full c) r
theorem wr_len : ∀ (r : List Nat) (k : Nat) (l : List Nat) (full : List (List Nat)), (wr k l full r).length ≤ r.length
  | [], _, _, _ => Nat.le_refl _
  | c :: r, k, l, full => by
    have := wr_len r (k + 1) (wrT l c) (wrF full c)
    unfold wr
    split <;> simp <;> omega
theorem wrF_len {full : List (List Nat)} {c : Nat} : (wrF full c).length ≤ full.length + 1 := by unfold wrF; split <;> simp
theorem forL_step {gt : GDen} {body : SDen} {d : D} {ds : List D} {sl sl1 sl2 : SEnv} {ce ce2 : Cells} (hg : gt d sl = some sl1) (hb : body sl1 ce = .nx sl2 ce2) : forL gt body (d :: ds) sl ce = forL gt body ds sl2 ce2 := by
  conv => lhs; unfold forL
  rw [hg]; simp only [hb]
theorem forL_step_ct {gt : GDen} {body : SDen} {d : D} {ds : List D} {sl sl1 sl2 : SEnv} {ce ce2 : Cells} (hg : gt d sl = some sl1) (hb : body sl1 ce = .ct sl2 ce2) : forL gt body (d :: ds) sl ce = forL gt body ds sl2 ce2 := by
  conv => lhs; unfold forL
  rw [hg]; simp only [hb]
theorem forL_step_rt {gt : GDen} {body : SDen} {d v : D} {ds : List D} {sl sl1 : SEnv} {ce ce2 : Cells} (hg : gt d sl = some sl1) (hb : body sl1 ce = .rt v ce2) : forL gt body (d :: ds) sl ce = .rt v ce2 := by
  conv => lhs; unfold forL
  rw [hg]; simp only [hb]
abbrev LOW : List Nat := [97, 98, 99, 100, 101, 102, 103, 104, 105, 106, 107, 108, 109, 110, 111, 112, 113, 114, 115, 116, 117, 118, 119, 120, 121, 122]
theorem wrong_loop {x0 : Option D} : ∀ (r : List Nat) (k : Nat) (acc : List Nat) (full : List (List Nat)) (l : List Nat) (x4 x5 : Option D) (ce : Cells) (n : Nat), n = ce.length → acc.length + r.length ≤ 1000 → full.length + r.length ≤ 1000 →
    ∃ (x4' x5' : Option D) (l' : List Nat) (full' : List (List Nat)), forL (gT (gsN [4, 5]) 2) (sSeq (sSet 3 (eIf (tOf (eBin dEq (eVar 5) (eC (.str [45])))) (eVar 3) (eMeth0 "str" dUpper (eVar 5)))) (sSeq (sIf (tOrD (tOf (eBin dEq (eVar 3) (eC (.str [])))) (tAndD (tOf (eBin dIn (eVar 5) (eC (.str LOW)))) (tOf (eBin dNotIn (eVar 3) (eVar 2))))) (sExpr (eAppend (eVar 1) (aCons (eVar 4) aNil))) sNil) (sIf (tAndD (tOf (eBin dNe (eVar 5) (eC (.str [45])))) (tOf (eBin dEq (eVar 5) (eMeth0 "str" dUpper (eVar 5))))) (sExpr (eAppend (eVar 2) (aCons (eVar 5) aNil))) sNil)))
      ((r.zipIdx k).map fun q => .tup [natD q.2, sgD q.1]) [x0, some (.cel n), some (.cel (n + 1)), some (.str l), x4, x5] (ce ++ [MO.lst (acc.map natD), MO.lst (full.map D.str)]) = .nx [x0, some (.cel n), some (.cel (n + 1)), some (.str l'), x4', x5'] (ce ++ [MO.lst ((acc ++ wr k l full r).map natD), MO.lst (full'.map D.str)]) := by
  intro r
  induction r with
  | nil => intro k acc full l x4 x5 ce n _ _ _; exact ⟨x4, x5, l, full, by simp [forL, wr]⟩
  | cons c r ih =>
    intro k acc full l x4 x5 ce n hn hl hl2
    simp only [List.length_cons] at hl hl2
    subst hn
    obtain ⟨x4', x5', l', full', h⟩ := ih (k + 1) (if wrH l full c = true then acc ++ [k] else acc) (wrF full c) (wrT l c) (some (natD k)) (some (sgD c)) ce ce.length rfl (by split <;> first | omega | (simp; omega)) (by have := wrF_len (full := full) (c := c); omega)
    refine ⟨x4', x5', l', full', ?_⟩
    rw [List.zipIdx_cons, List.map_cons]
    have hlook : look (ce ++ [MO.lst (acc.map natD), MO.lst (full.map D.str)]) (.cel (ce.length + 1)) = .lst (full.map D.str) := look_cel (by simp)
    have h1 : ∀ sl, sl = [x0, some (.cel ce.length), some (.cel (ce.length + 1)), some (.str (wrT l c)), some (natD k), some (sgD c)] → eAppend (eVar 1) (aCons (eVar 4) aNil) sl (ce ++ [MO.lst (acc.map natD), MO.lst (full.map D.str)]) = .ok .non ((ce ++ [MO.lst (acc.map natD), MO.lst (full.map D.str)]).set ce.length (.lst (acc.map natD ++ [natD k]))) := by
      intro sl e; subst e
      exact appK (by simp) (by simp) (by simp) rfl (by simp; omega)
    have e1 : acc.map natD ++ [natD k] = (acc ++ [k]).map natD := by simp
    rw [e1] at h1
    refine (forL_step (sl1 := [x0, some (.cel ce.length), some (.cel (ce.length + 1)), some (.str l), some (natD k), some (sgD c)]) rfl (?_ : _ = SOut.nx [x0, some (.cel ce.length), some (.cel (ce.length + 1)), some (.str (wrT l c)), some (natD k), some (sgD c)] (ce ++ [MO.lst ((if wrH l full c = true then acc ++ [k] else acc).map natD), MO.lst ((wrF full c).map D.str)]))).trans ?_
    · rw [seq_set (d := .str (wrT l c)) (ce1 := ce ++ [MO.lst (acc.map natD), MO.lst (full.map D.str)]) (by unfold wrT; by_cases hc : c = 45 <;> simp [hc])]
      simp only [List.set]
      refine (seq_nx (sl1 := [x0, some (.cel ce.length), some (.cel (ce.length + 1)), some (.str (wrT l c)), some (natD k), some (sgD c)]) (ce1 := ce ++ [MO.lst ((if wrH l full c = true then acc ++ [k] else acc).map natD), MO.lst (full.map D.str)]) ?_).trans ?_
      rotate_left
      · have h2 : eAppend (eVar 2) (aCons (eVar 5) aNil) [x0, some (.cel ce.length), some (.cel (ce.length + 1)), some (.str (wrT l c)), some (natD k), some (sgD c)] (ce ++ [MO.lst ((if wrH l full c = true then acc ++ [k] else acc).map natD), MO.lst (full.map D.str)]) = .ok .non ((ce ++ [MO.lst ((if wrH l full c = true then acc ++ [k] else acc).map natD), MO.lst (full.map D.str)]).set (ce.length + 1) (.lst (full.map D.str ++ [sgD c]))) :=
          appK (by simp) (by simp) (by simp) rfl (by simp; omega)
        have ht : tAndD (tOf (eBin dNe (eVar 5) (eC (.str [45])))) (tOf (eBin dEq (eVar 5) (eMeth0 "str" dUpper (eVar 5)))) [x0, some (.cel ce.length), some (.cel (ce.length + 1)), some (.str (wrT l c)), some (natD k), some (sgD c)] (ce ++ [MO.lst ((if wrH l full c = true then acc ++ [k] else acc).map natD), MO.lst (full.map D.str)]) = .ok (decide (c ≠ 45 ∧ c = up1 c)) (ce ++ [MO.lst ((if wrH l full c = true then acc ++ [k] else acc).map natD), MO.lst (full.map D.str)]) := by
          by_cases q : c = 45
          · simp [q]
          · simp [q]
        have h3 : sIf (tAndD (tOf (eBin dNe (eVar 5) (eC (.str [45])))) (tOf (eBin dEq (eVar 5) (eMeth0 "str" dUpper (eVar 5))))) (sExpr (eAppend (eVar 2) (aCons (eVar 5) aNil))) sNil [x0, some (.cel ce.length), some (.cel (ce.length + 1)), some (.str (wrT l c)), some (natD k), some (sgD c)] (ce ++ [MO.lst ((if wrH l full c = true then acc ++ [k] else acc).map natD), MO.lst (full.map D.str)])
            = .nx [x0, some (.cel ce.length), some (.cel (ce.length + 1)), some (.str (wrT l c)), some (natD k), some (sgD c)] (ce ++ [MO.lst ((if wrH l full c = true then acc ++ [k] else acc).map natD), MO.lst ((wrF full c).map D.str)]) := by
          rw [r_sIf, ht, st_ok]
          by_cases q : c ≠ 45 ∧ c = up1 c
          · rw [if_pos (by simpa using q), r_sExpr, h2, st_ok, app_set1]
            unfold wrF; rw [if_pos q]; simp
          · rw [if_neg (by simpa using q), r_sNil]
            unfold wrF; rw [if_neg q]
        exact h3
      · rw [r_sIf]
        have ht : tOrD (tOf (eBin dEq (eVar 3) (eC (.str [])))) (tAndD (tOf (eBin dIn (eVar 5) (eC (.str LOW)))) (tOf (eBin dNotIn (eVar 3) (eVar 2)))) [x0, some (.cel ce.length), some (.cel (ce.length + 1)), some (.str (wrT l c)), some (natD k), some (sgD c)] (ce ++ [MO.lst (acc.map natD), MO.lst (full.map D.str)]) = .ok (wrH l full c) (ce ++ [MO.lst (acc.map natD), MO.lst (full.map D.str)]) := by
          unfold wrH
          simp [-List.mem_cons, hlook, low_mem]
          by_cases q1 : wrT l c = []
          · simp [q1]
          · by_cases q2 : isLo c = true
            · simp [q1, q2]
            · simp [q1, q2]
        rw [ht, st_ok]
        by_cases q : wrH l full c = true
        · rw [if_pos q, if_pos q, r_sExpr, h1 _ rfl, st_ok, app_set0]
        · rw [if_neg q, if_neg q, r_sNil]
    · rw [h]
      congr 4
      conv => rhs; unfold wr
      by_cases q : wrH l full c = true
      · simp [q]
      · simp [q]
end Ib

set_option Elab.async false
set_option linter.all false
set_option maxRecDepth 100000
set_option maxHeartbeats 2000000
/-! _law_text makes right rows -/
namespace Ib
open PySem PySem.Spec PyProof.Rows L2
theorem wk_app : ∀ (a b : List Nat) (l : Nat), wk l (a ++ b) = wk l a ++ wk ((wk l a).getLastD l) b
  | [], b, l => by simp [wk]
  | c :: a, b, l => by
    simp only [List.cons_append, wk, wk_app a b]
    congr 2
    cases h : wk (if c = 45 then l else up1 c) a with
    | nil => simp
    | cons x y => simp [List.getLast?_cons]
structure RtP (r : List Nat) : Prop where
  sg : ∀ c ∈ r, isSg c = true
  ok : ∀ k, bad r k = false
theorem bad_out {r : List Nat} {k : Nat} (h : r.length ≤ k) : bad r k = false := by
  unfold bad; rw [List.getElem?_eq_none h]
theorem bad_app {r s : List Nat} {k : Nat} (h : k < r.length) : bad (r ++ s) k = bad r k := by
  unfold bad mis
  rw [wk_app, List.getElem?_append_left h, List.getElem?_append_left (by rw [wk_len]; exact h), List.take_append_of_le_length (by omega)]
theorem bad_snoc {r : List Nat} {c : Nat} : bad (r ++ [c]) r.length = (decide ((if c = 45 then (wk 63 r).getLastD 63 else up1 c) = 63) || (isLo c && !decide (up1 c ∈ r))) := by
  unfold bad mis
  rw [wk_app, List.getElem?_append_right (Nat.le_refl _), List.getElem?_append_right (by rw [wk_len]; omega), wk_len, List.take_append_of_le_length (by omega)]
  simp [wk]
theorem RtP.last {r : List Nat} (h : RtP r) (hr : r ≠ []) : (wk 63 r).getLastD 63 ≠ 63 := by
  have hl := List.length_pos_iff.mpr hr
  have := h.ok (r.length - 1)
  have h1 : (wk 63 r)[r.length - 1]? = some ((wk 63 r).getLastD 63) := by
    rw [List.getLastD_eq_getLast?, List.getLast?_eq_getElem?, wk_len, List.getElem?_eq_getElem (by rw [wk_len]; omega)]
    rfl
  unfold bad at this
  rw [h1, List.getElem?_eq_getElem (by omega)] at this
  simp at this
  rw [List.getLastD_eq_getLast?]
  exact this.1
theorem RtP.nil : RtP [] := ⟨by simp, fun k => bad_out (by simp)⟩
theorem RtP.snoc {r : List Nat} {c : Nat} (h : RtP r) (hs : isSg c = true) (h1 : c = 45 → r ≠ []) (h2 : isLo c = true → up1 c ∈ r) : RtP (r ++ [c]) := by
  refine ⟨fun x hx => ?_, fun k => ?_⟩
  · rcases List.mem_append.mp hx with hx | hx
    · exact h.sg x hx
    · rw [List.mem_singleton.mp hx]; exact hs
  · by_cases hk : k < r.length
    · rw [bad_app hk]; exact h.ok k
    · by_cases hk2 : k = r.length
      · subst hk2
        rw [bad_snoc]
        by_cases hc : c = 45
        · subst hc
          have := h.last (h1 rfl)
          rw [if_pos rfl]
          simp [isLo]
          rw [← List.getLastD_eq_getLast?]
          exact this
        · rw [if_neg hc]
          have := sg_ne hs hc
          by_cases q : isLo c = true
          · simp [this, h2 q]
          · simp [this, q]
      · exact bad_out (by simp; omega)
theorem RtP.right {r : List Nat} (h : RtP r) (hl : r.length ≤ 30) : isRight r = true := by
  simp only [isRight, isRw, faultsL, Bool.and_eq_true, decide_eq_true_iff, List.all_eq_true, List.isEmpty_iff, List.filter_eq_nil_iff]
  exact ⟨⟨hl, h.sg⟩, fun k _ => by rw [h.ok k]; simp⟩
theorem RtP.of {r : List Nat} (h : isRight r = true) : RtP r := by
  simp only [isRight, isRw, faultsL, Bool.and_eq_true, decide_eq_true_iff, List.all_eq_true, List.isEmpty_iff, List.filter_eq_nil_iff] at h
  refine ⟨h.1.2, fun k => ?_⟩
  by_cases hk : k < r.length
  · have := h.2 k (List.mem_range.mpr hk)
    simpa using this
  · exact bad_out (by omega)
def TB : SDen := (sSeq (sSet 8 (eBin dIx (eVar 5) (eFn F__law_pick (aCons (eVar 0) (aCons (eCall dLen (aCons (eVar 5) aNil)) aNil))))) (sIf (tAndD (tOf (eBin dNe (eVar 7) (eC (.str [])))) (tOf (eBin dEq (eFn F__law_pick (aCons (eVar 0) (aCons (eVar 3) aNil))) (eC (.int 0))))) (sSet 6 (eBin dAdd (eVar 6) (eC (.str [45])))) (sSeq (sSet 7 (eVar 8)) (sSet 6 (eBin dAdd (eVar 6) (eIf (tAndD (tOf (eBin dIn (eVar 8) (eVar 6))) (tOf (eBin dGt (eFn F__law_pick (aCons (eVar 0) (aCons (eC (.int 4)) aNil))) (eC (.int 0))))) (eMeth0 "str" dLower (eVar 8)) (eVar 8)))))))
abbrev LETS : List Nat := [65, 66, 67, 68, 69, 70, 71, 72, 73, 74, 75, 76, 77, 78, 79, 80, 81, 82, 83, 84, 85, 86, 87, 88, 89, 90]
theorem up_lo {c : Nat} (h : isUp c = true) : isLo (lo1 c) = true ∧ up1 (lo1 c) = c ∧ up1 c = c ∧ isLo c = false := by
  simp [isUp] at h
  simp [isLo, lo1, up1, h]
  omega
theorem text_step {ce : Cells} {k : Nat} {m : MO} {n ch : Int} {ls r l : List Nat} {x1 x2 x4 x8 : Option D} (hk : ce[k]? = some m) (hd : Dk n m) (hn : n < 274877900000) (hch : 0 < ch ∧ ch < 1000000) (hls : ls ≠ []) (hls2 : ls.length ≤ 26) (hup : ∀ c ∈ ls, isUp c = true) (hr : RtP r) (hl : r = [] → l = []) (hlen : r.length ≤ 1000) :
    ∃ r' l' x8' m', TB [some (.cel k), x1, x2, some (.int ch), x4, some (.str ls), some (.str r), some (.str l), x8] ce = .nx [some (.cel k), x1, x2, some (.int ch), x4, some (.str ls), some (.str r'), some (.str l'), x8'] (ce.set k m') ∧ RtP r' ∧ r' ≠ [] ∧ r'.length = r.length + 1 ∧ Dk (n + 3) m' := by
  have h0 := List.length_pos_iff.mpr hls
  obtain ⟨v, m1, p1, p2, p3, d1⟩ := f_pick (L := ls.length) hk hd (by omega) (by omega) (by omega)
  have hi : v.toNat < ls.length := by omega
  have hg : atI ls v = some ls[v.toNat] := by rw [atI_nn p2, List.getElem?_eq_getElem hi]
  have hu := hup _ (List.getElem_mem hi)
  revert hg hu
  generalize ls[v.toNat] = c
  intro hg hu
  have k1 : (ce.set k m1)[k]? = some m1 := set_get hk
  obtain ⟨u1, u2, u3, u4⟩ := up_lo hu
  have hs1 : isSg c = true := by simp [isSg, u3, hu]
  have hs2 : isSg (lo1 c) = true := by simp [isSg, u2, hu]
  have hc45 : c ≠ 45 := by simp [isUp] at hu; omega
  have hl45 : lo1 c ≠ 45 := by simp [isLo] at u1; omega
  obtain ⟨v2, m2, q1, q2, q3, d2⟩ := f_pick (L := ch) k1 d1 (by omega) hch.1 hch.2
  unfold TB
  have hA : sSet 8 (eBin dIx (eVar 5) (eFn F__law_pick (aCons (eVar 0) (aCons (eCall dLen (aCons (eVar 5) aNil)) aNil)))) [some (.cel k), x1, x2, some (.int ch), x4, some (.str ls), some (.str r), some (.str l), x8] ce = .nx [some (.cel k), x1, x2, some (.int ch), x4, some (.str ls), some (.str r), some (.str l), some (.str [c])] (ce.set k m1) := by
    simp [p1, hg]
  have ho : ∀ x : List Nat, x.length = 1 → dAdd (.str r) (.str x) = some (.str (r ++ x)) := fun x hx => o_add_str (by omega)
  rw [seq_nx hA]
  -- the else branch
  have hB : ∀ (ce' : Cells) (m' : MO) (n' : Int), ce'[k]? = some m' → Dk n' m' → n' < 274877906944 → ∃ r' l' x8' m'', (sSeq (sSet 7 (eVar 8)) (sSet 6 (eBin dAdd (eVar 6) (eIf (tAndD (tOf (eBin dIn (eVar 8) (eVar 6))) (tOf (eBin dGt (eFn F__law_pick (aCons (eVar 0) (aCons (eC (.int 4)) aNil))) (eC (.int 0))))) (eMeth0 "str" dLower (eVar 8)) (eVar 8)))))
      [some (.cel k), x1, x2, some (.int ch), x4, some (.str ls), some (.str r), some (.str l), some (.str [c])] ce' = .nx [some (.cel k), x1, x2, some (.int ch), x4, some (.str ls), some (.str r'), some (.str l'), x8'] (ce'.set k m'') ∧ RtP r' ∧ r' ≠ [] ∧ r'.length = r.length + 1 ∧ Dk (n' + 1) m'' := by
    intro ce' m' n' hk' hd' hn'
    obtain ⟨v3, m3, s1, s2, s3, d3⟩ := f_pick (L := 4) hk' hd' hn' (by omega) (by omega)
    by_cases hin : c ∈ r
    · by_cases hv : 0 < v3
      · refine ⟨r ++ [lo1 c], [c], some (.str [c]), m3, ?_, hr.snoc hs2 (fun e => absurd e hl45) (fun _ => by rw [u2]; exact hin), by simp, by simp, d3⟩
        simp [hin, s1, hv, ho]
      · refine ⟨r ++ [c], [c], some (.str [c]), m3, ?_, hr.snoc hs1 (fun e => absurd e hc45) (fun e => by rw [u4] at e; cases e), by simp, by simp, d3⟩
        simp [hin, s1, hv, ho]
    · refine ⟨r ++ [c], [c], some (.str [c]), m', ?_, hr.snoc hs1 (fun e => absurd e hc45) (fun e => by rw [u4] at e; cases e), by simp, by simp, hd'.mono (by omega)⟩
      have : ce'.set k m' = ce' := by
        apply List.ext_getElem?
        intro i
        by_cases hi : k = i
        · subst hi; rw [set_get hk', hk']
        · rw [List.getElem?_set_ne hi]
      simp [hin, ho, this]
  by_cases hl0 : l = []
  · obtain ⟨r', l', x8', m'', b1, b2, b3, b4, b5⟩ := hB (ce.set k m1) m1 (n + 1) k1 d1 (by omega)
    refine ⟨r', l', x8', m'', ?_, b2, b3, b4, b5.mono (by omega)⟩
    rw [set_same] at b1
    rw [← b1, r_sIf]
    have ht : tAndD (tOf (eBin dNe (eVar 7) (eC (.str [])))) (tOf (eBin dEq (eFn F__law_pick (aCons (eVar 0) (aCons (eVar 3) aNil))) (eC (.int 0)))) [some (.cel k), x1, x2, some (.int ch), x4, some (.str ls), some (.str r), some (.str l), some (.str [c])] (ce.set k m1) = .ok false (ce.set k m1) := by simp [hl0]
    rw [ht, st_ok, if_neg (by simp)]
  · have hr0 : r ≠ [] := fun e => hl0 (hl e)
    have ht : tAndD (tOf (eBin dNe (eVar 7) (eC (.str [])))) (tOf (eBin dEq (eFn F__law_pick (aCons (eVar 0) (aCons (eVar 3) aNil))) (eC (.int 0)))) [some (.cel k), x1, x2, some (.int ch), x4, some (.str ls), some (.str r), some (.str l), some (.str [c])] (ce.set k m1) = .ok (decide (v2 = 0)) (ce.set k m2) := by
      rw [set_same] at q1
      simp [hl0, q1]
    rw [r_sIf, ht, st_ok]
    by_cases hv : v2 = 0
    · refine ⟨r ++ [45], l, some (.str [c]), m2, ?_, hr.snoc (by decide) (fun _ => hr0) (fun e => absurd e (by decide)), by simp, by simp, d2.mono (by omega)⟩
      simp [hv, ho]
    · have k2 : (ce.set k m2)[k]? = some m2 := set_get hk
      obtain ⟨r', l', x8', m'', b1, b2, b3, b4, b5⟩ := hB (ce.set k m2) m2 (n + 2) k2 (d2.mono (by omega)) (by omega)
      refine ⟨r', l', x8', m'', ?_, b2, b3, b4, b5.mono (by omega)⟩
      rw [set_same] at b1
      rw [if_neg (by simpa using hv), b1]
theorem text_loop {k : Nat} {ch : Int} {ls : List Nat} {x1 x2 : Option D} (hch : 0 < ch ∧ ch < 1000000) (hls : ls ≠ []) (hls2 : ls.length ≤ 26) (hup : ∀ c ∈ ls, isUp c = true) : ∀ (xs : List D) (ce : Cells) (m : MO) (n : Int) (r l : List Nat) (x4 x8 : Option D), ce[k]? = some m → Dk n m → n + 3 * xs.length < 274877900000 → RtP r → (r = [] → l = []) → r.length + xs.length ≤ 1000 →
    ∃ r' l' x4' x8' m', forL (gN 4) TB xs [some (.cel k), x1, x2, some (.int ch), x4, some (.str ls), some (.str r), some (.str l), x8] ce = .nx [some (.cel k), x1, x2, some (.int ch), x4', some (.str ls), some (.str r'), some (.str l'), x8'] (ce.set k m') ∧ RtP r' ∧ r'.length = r.length + xs.length ∧ Dk (n + 3 * xs.length) m' := by
  intro xs
  induction xs with
  | nil =>
    intro ce m n r l x4 x8 hk hd hn hr hl hlen
    have : ce.set k m = ce := by
      apply List.ext_getElem?
      intro i
      by_cases hi : k = i
      · subst hi; rw [set_get hk, hk]
      · rw [List.getElem?_set_ne hi]
    exact ⟨r, l, x4, x8, m, by simp [forL, this], hr, by simp, by simpa using hd⟩
  | cons x xs ih =>
    intro ce m n r l x4 x8 hk hd hn hr hl hlen
    simp only [List.length_cons] at hn hlen
    obtain ⟨r1, l1, x81, m1, s1, s2, s3, s4, s5⟩ := text_step (x1 := x1) (x2 := x2) (x4 := some x) (x8 := x8) hk hd (by omega) hch hls hls2 hup hr hl (by omega)
    obtain ⟨r', l', x4', x8', m', t1, t2, t3, t4⟩ := ih (ce.set k m1) m1 (n + 3) r1 l1 (some x) x81 (set_get hk) s5 (by omega) s2 (fun e => absurd e s3) (by omega)
    rw [set_same] at t1
    refine ⟨r', l', x4', x8', m', (forL_step rfl s1).trans t1, t2, by simp; omega, t4.mono (by simp; omega)⟩
end Ib

set_option Elab.async false
set_option linter.all false
set_option maxRecDepth 100000
set_option maxHeartbeats 2000000
/-! decks, what is wrong, collecting loops -/
namespace Ib
open PySem PySem.Spec PyProof.Rows L2
theorem f_deck {c t : Int} (ce : Cells) (ht : 0 ≤ t) : ∃ m, F__law_deck [.int c, .int t] ce = .ok (.cel ce.length) (ce ++ [m]) ∧ Dk t m := by
  have hp : dPow (.int 10) (.int 18) = some (.int 1000000000000000000) := by
    rw [o_pow (by decide) (by decide) (by decide)]; rfl
  have h1 : 0 ≤ c % 2147483579 := Int.emod_nonneg _ (by omega)
  have h2 : c % 2147483579 < 2147483579 := Int.emod_lt_of_pos _ (by omega)
  by_cases hc : 1000000000000000000 ≤ c
  · refine ⟨dkM (c - 1000000000000000000) (c % 2147483579) t, ?_, _, _, _, rfl, h1, h2, ht, Int.le_refl _⟩
    refine runF_ok (d := .cel ce.length) (ce1 := ce ++ [dkM (c - 1000000000000000000) (c % 2147483579) t]) rfl ?_ (by simp [fin])
    unfold G__law_deck
    refine seq_rt ?_
    simp [hp, hc, o_mod]
  · refine ⟨dkM 0 (c % 2147483579) t, ?_, _, _, _, rfl, h1, h2, ht, Int.le_refl _⟩
    refine runF_ok (d := .cel ce.length) (ce1 := ce ++ [dkM 0 (c % 2147483579) t]) rfl ?_ (by simp [fin])
    unfold G__law_deck
    refine (seq_nx (sl1 := [some (.int c), some (.int t)]) (ce1 := ce) ?_).trans ?_
    · simp [hp, hc]
    · simp [o_mod]
theorem tx_inj {a b : Nat} : tx a = tx b ↔ a = b := by
  unfold tx
  by_cases ha : a = 63 <;> by_cases hb : b = 63 <;> simp [ha, hb] <;> omega
theorem tx_nil {a : Nat} : tx a = [] ↔ a = 63 := by unfold tx; split <;> simp [*]
theorem wr_faults : ∀ (r pre : List Nat) (full : List (List Nat)), (∀ c ∈ pre ++ r, isSg c = true) → (∀ x, isUp x = true → ([x] ∈ full ↔ x ∈ pre)) → wr pre.length (tx ((wk 63 pre).getLastD 63)) full r = (List.range' pre.length r.length).filter (bad (pre ++ r)) := by
  intro r
  induction r with
  | nil => intro pre full _ _; simp [wr]
  | cons c r ih =>
    intro pre full hs hf
    have hsc : isSg c = true := hs c (by simp)
    have e1 : wrT (tx ((wk 63 pre).getLastD 63)) c = tx (if c = 45 then (wk 63 pre).getLastD 63 else up1 c) := by
      unfold wrT
      by_cases hc : c = 45
      · rw [if_pos hc, if_pos hc]
      · rw [if_neg hc, if_neg hc, tx, if_neg (sg_ne hsc hc)]
    have e2 : (wk 63 (pre ++ [c])).getLastD 63 = if c = 45 then (wk 63 pre).getLastD 63 else up1 c := by
      rw [wk_app]; simp only [wk]; rw [getLastD_snoc]
    have hlo : isLo c = true → isUp (up1 c) = true ∧ c ≠ 45 := by
      intro h; simp [isLo] at h; simp [isUp, up1, h]; omega
    have e3 : wrH (tx ((wk 63 pre).getLastD 63)) full c = bad (pre ++ c :: r) pre.length := by
      have : pre ++ c :: r = (pre ++ [c]) ++ r := by simp
      rw [this, bad_app (by simp), bad_snoc]
      unfold wrH
      rw [e1]
      congr 1
      · rw [decide_eq_decide]; exact tx_nil
      · by_cases hl : isLo c = true
        · obtain ⟨q1, q2⟩ := hlo hl
          rw [if_neg q2, tx, if_neg (sg_ne hsc q2)]
          congr 2
          rw [decide_eq_decide]
          exact hf _ q1
        · simp [hl]
    have hf' : ∀ x, isUp x = true → ([x] ∈ wrF full c ↔ x ∈ pre ++ [c]) := by
      intro x hx
      have hfx := hf x hx
      unfold wrF
      by_cases hq : c ≠ 45 ∧ c = up1 c
      · rw [if_pos hq]; simp [hfx]
      · rw [if_neg hq, hfx]
        simp
        intro e
        subst e
        refine absurd ⟨?_, ?_⟩ hq
        · simp [isUp] at hx; omega
        · rw [(up_lo hx).2.2.1]
    have := ih (pre ++ [c]) (wrF full c) (by simpa using hs) hf'
    rw [e2, ← e1] at this
    simp only [List.length_append, List.length_cons, List.length_nil, List.append_assoc, List.cons_append, List.nil_append] at this
    rw [List.length_cons, List.range'_succ]
    unfold wr
    rw [e3, this]
    by_cases hb : bad (pre ++ c :: r) pre.length = true
    · simp [hb]
    · simp [hb]
theorem wr_is {r : List Nat} (hs : ∀ c ∈ r, isSg c = true) : wr 0 [] [] r = faultsL r := by
  have := wr_faults r [] [] (by simpa using hs) (by simp)
  simp [tx, wk] at this
  rw [this]
  unfold faultsL
  rw [List.range_eq_range']
theorem mk_is {r : List Nat} (hs : ∀ c ∈ r, isSg c = true) : mk [] r = (wk 63 r).map tx := mk_wk r 63 (List.all_eq_true.mpr hs)
/-- a loop that appends what it finds to its last cell -/
theorem forL_collect {α : Type} {gt : GDen} {body : SDen} {ce : Cells} (S : SEnv → Prop) (h f : α → D) (b : α → Bool) : ∀ (ys : List α) (sl : SEnv) (acc : List D), S sl →
    (∀ y ∈ ys, ∀ sl, S sl → ∀ acc : List D, acc.length ≤ 1000 → ∃ sl1 sl2, gt (h y) sl = some sl1 ∧ (body sl1 (ce ++ [.lst acc]) = .nx sl2 (ce ++ [.lst (if b y = true then acc ++ [f y] else acc)]) ∨ body sl1 (ce ++ [.lst acc]) = .ct sl2 (ce ++ [.lst (if b y = true then acc ++ [f y] else acc)])) ∧ S sl2) →
    acc.length + ys.length ≤ 1000 → ∃ sl', S sl' ∧ forL gt body (ys.map h) sl (ce ++ [.lst acc]) = .nx sl' (ce ++ [.lst (acc ++ (ys.filter b).map f)]) := by
  intro ys
  induction ys with
  | nil => intro sl acc hs _ _; exact ⟨sl, hs, by simp [forL]⟩
  | cons y ys ih =>
    intro sl acc hs hb hl
    simp only [List.length_cons] at hl
    obtain ⟨sl1, sl2, h1, h2, h3⟩ := hb y List.mem_cons_self sl hs acc (by omega)
    obtain ⟨sl', h4, h5⟩ := ih sl2 (if b y = true then acc ++ [f y] else acc) h3 (fun y hy => hb y (List.mem_cons_of_mem _ hy)) (by split <;> first | omega | (simp; omega))
    refine ⟨sl', h4, ?_⟩
    rw [List.map_cons]
    have e : (if b y = true then acc ++ [f y] else acc) ++ (ys.filter b).map f = acc ++ ((y :: ys).filter b).map f := by
      by_cases q : b y = true
      · simp [q]
      · simp [q]
    rw [e] at h5
    rcases h2 with h2 | h2
    · rw [forL_step h1 h2, h5]
    · rw [forL_step_ct h1 h2, h5]
theorem range2_nat {a b : Nat} (ha : a ≤ 1000000) (hb : b ≤ 1000000) : srcRange2 [natD a, natD b] = some (srcC ((List.range' a (b - a)).map natD)) := by
  have h1 : rngOk (a : Int) = true := rngOk_iff.mpr ⟨by omega, by omega⟩
  have h2 : rngOk (b : Int) = true := rngOk_iff.mpr ⟨by omega, by omega⟩
  unfold srcRange2 natD
  have : ((b : Int) - (a : Int)).toNat = b - a := by omega
  simp only [h1, h2, Bool.and_self, if_true, this]
  have e : rangeL (a : Int) (b - a) = (List.range' a (b - a)).map natD := by
    unfold rangeL
    rw [List.range'_eq_map_range, List.map_map]
    apply List.map_congr_left
    intro x _
    simp
  rw [e]
end Ib

set_option Elab.async false
set_option linter.all false
set_option maxRecDepth 100000
set_option maxHeartbeats 4000000
/-! k18: the pairs, evaluated in the kernel -/
namespace Ib
open PySem PySem.Spec PyProof.Rows L2
theorem ev1_0 (m1 : MO) : F__law_pair_right [.str [65], .str [66]] [m1] = .ok (.bl true) [m1] := by kernel_rfl
theorem ev1_1 (m1 : MO) : F__law_pair_right [.str [66], .str [65]] [m1] = .ok (.bl true) [m1] := by kernel_rfl
theorem ev1_2 (m1 : MO) : F__law_pair_right [.str [81], .str [90]] [m1] = .ok (.bl true) [m1] := by kernel_rfl
theorem ev1_3 (m1 : MO) : F__law_pair_right [.str [90], .str [67]] [m1] = .ok (.bl true) [m1] := by kernel_rfl
theorem ev2_0 (m1 m2 : MO) : F__law_pair_right [.str [65], .str [66]] [m1, m2] = .ok (.bl true) [m1, m2] := by kernel_rfl
theorem ev2_1 (m1 m2 : MO) : F__law_pair_right [.str [66], .str [65]] [m1, m2] = .ok (.bl true) [m1, m2] := by kernel_rfl
theorem ev2_2 (m1 m2 : MO) : F__law_pair_right [.str [81], .str [90]] [m1, m2] = .ok (.bl true) [m1, m2] := by kernel_rfl
theorem ev2_3 (m1 m2 : MO) : F__law_pair_right [.str [90], .str [67]] [m1, m2] = .ok (.bl true) [m1, m2] := by kernel_rfl
theorem ev3_0 (m1 m2 m3 : MO) : F__law_pair_right [.str [65], .str [66]] [m1, m2, m3] = .ok (.bl true) [m1, m2, m3] := by kernel_rfl
theorem ev3_1 (m1 m2 m3 : MO) : F__law_pair_right [.str [66], .str [65]] [m1, m2, m3] = .ok (.bl true) [m1, m2, m3] := by kernel_rfl
theorem ev3_2 (m1 m2 m3 : MO) : F__law_pair_right [.str [81], .str [90]] [m1, m2, m3] = .ok (.bl true) [m1, m2, m3] := by kernel_rfl
theorem ev3_3 (m1 m2 m3 : MO) : F__law_pair_right [.str [90], .str [67]] [m1, m2, m3] = .ok (.bl true) [m1, m2, m3] := by kernel_rfl
theorem ev4_0 (m1 m2 m3 m4 : MO) : F__law_pair_right [.str [65], .str [66]] [m1, m2, m3, m4] = .ok (.bl true) [m1, m2, m3, m4] := by kernel_rfl
theorem ev4_1 (m1 m2 m3 m4 : MO) : F__law_pair_right [.str [66], .str [65]] [m1, m2, m3, m4] = .ok (.bl true) [m1, m2, m3, m4] := by kernel_rfl
theorem ev4_2 (m1 m2 m3 m4 : MO) : F__law_pair_right [.str [81], .str [90]] [m1, m2, m3, m4] = .ok (.bl true) [m1, m2, m3, m4] := by kernel_rfl
theorem ev4_3 (m1 m2 m3 m4 : MO) : F__law_pair_right [.str [90], .str [67]] [m1, m2, m3, m4] = .ok (.bl true) [m1, m2, m3, m4] := by kernel_rfl
end Ib

set_option Elab.async false
set_option linter.all false
set_option maxRecDepth 100000
set_option maxHeartbeats 4000000
/-! k18: the law -/
namespace Ib
open PySem PySem.Spec PyProof.Rows L2
local macro_rules | `(tactic| walk_at "w1") => `(tactic| first
  | ((with_reducible refine id_WE ?_); first
    | with_reducible refine we_c ?_
    | with_reducible refine we_var (by with_unfolding_all exact rfl) ?_
    | with_reducible refine we_bin ?_
    | with_reducible refine we_cons ?_
    | with_reducible refine we_nil ?_
    | with_reducible refine we_fn ?_
    | with_reducible refine we_tOf ?_
    | with_reducible refine we_tNot ?_
    | with_reducible refine we_tAnd ?_
    | with_reducible refine we_tOr ?_
    | with_reducible refine we_call ?_
    | with_reducible refine we_if ?_
    | with_reducible refine we_and ?_
    | with_reducible refine we_or ?_
    | with_reducible refine we_not ?_
    | with_reducible refine we_un ?_
    | with_reducible refine we_sl ?_
    | with_reducible refine we_oNone ?_
    | with_reducible refine we_oSome ?_
    | with_reducible refine we_chain ?_
    | with_reducible refine we_tup ?_
    | with_reducible refine we_lst ?_
    | with_reducible refine we_lstC ?_
    | with_reducible refine we_meth0 ?_
    | with_reducible refine we_methR ?_
    | with_reducible refine we_iter ?_
    | with_reducible refine we_src ?_
    | with_reducible refine we_srcC ?_
    | with_reducible refine we_LR ?_
    | with_reducible refine we_rg1 ?_
    | with_reducible refine we_rg2 ?_
    | with_reducible refine we_lrTree ?_
    | with_reducible refine we_lrCell ?_
    | with_reducible refine we_trTree ?_)
  | ((with_reducible refine id_WS ?_); first
    | with_reducible refine ws_seq ?_
    | with_reducible refine ws_set ?_
    | with_reducible refine ws_if ?_
    | with_reducible refine ws_ret ?_
    | with_reducible refine ws_expr ?_
    | with_reducible refine ws_nil ?_
    | with_reducible refine ws_multi ?_
    | with_reducible refine ws_for ?_
    | with_reducible refine ws_retF ?_
    | with_reducible refine ws_retN ?_
    | with_reducible refine ws_break ?_
    | with_reducible refine ws_cont ?_
    | with_reducible refine ws_aug (by with_unfolding_all exact rfl) ?_)
  | ((with_reducible refine id_WSet ?_); first
    | with_reducible refine wset0 ?_
    | with_reducible refine wset1 ?_
    | with_reducible refine wset2 ?_
    | with_reducible refine wset3 ?_
    | with_reducible refine wset4 ?_
    | with_reducible refine wset5 ?_
    | with_reducible refine wset6 ?_
    | with_reducible refine wset7 ?_
    | with_reducible refine wset8 ?_
    | with_reducible refine wset9 ?_
    | with_reducible refine wset10 ?_
    | with_reducible refine wset11 ?_
    | with_reducible refine wset12 ?_
    | with_reducible refine wset13 ?_
    | with_reducible refine wset14 ?_
    | with_reducible refine wset15 ?_)
  | with_reducible refine wsets_cons ?_
  | with_reducible refine wsets_nil ?_
  | with_reducible refine wbl ?_
  | with_reducible refine wint ?_
  | with_reducible refine wif_T ?_
  | with_reducible refine wif_F ?_
  | with_reducible refine wif_nT ?_
  | with_reducible refine wif_nF ?_
  | ((with_reducible refine wtree ?_ ?_ ?_); exact rfl; exact rfl)
  | with_reducible refine wgw_n ?_
  | ((with_reducible refine wgw_t2 ?_ ?_); decide)
  | with_reducible refine wg_n ?_
  | ((with_reducible refine wg_t ?_ ?_); exact rfl)
  | with_reducible refine wsrc_str ?_
  | ((with_reducible refine wsrc_cells ?_ ?_); omega)
  | with_reducible refine wsrc_lst ?_
  | with_reducible refine wsrc_tup ?_
  | with_reducible refine wsrc_en_str ?_
  | with_reducible refine wsrc_en_lst ?_
  | with_reducible refine wsrc_zip_str ?_
  | ((with_reducible refine wsrc_r1 ?_ ?_); omega)
  | ((with_reducible refine wsrc_r1L ?_ ?_ ?_); omega; omega)
  | ((with_reducible refine wsrc_r2 ?_ ?_ ?_); omega; omega)
  | with_reducible refine wloop_C ?_
  | ((with_reducible refine wrg1 ?_ ?_); omega)
  | ((with_reducible refine And.intro ?_ ?_); (with_reducible (first | exact dty_str | exact dty_lst))))
local macro_rules | `(tactic| walk_at "wo") => `(tactic| ((with_reducible refine id_WO ?_); first
  | with_reducible refine wo_add_nat ?_
  | with_reducible refine wo_add_int ?_
  | ((with_reducible refine wo_add_str ?_ ?_); (first | omega | (simp; done) | (simp; omega)))
  | ((with_reducible refine wo_add_lst ?_ ?_); (first | omega | (simp; done) | (simp; omega)))
  | with_reducible refine wo_iadd_nat ?_
  | with_reducible refine wo_iadd_int ?_
  | with_reducible refine wo_sub ?_
  | with_reducible refine wo_neg ?_
  | with_reducible refine wo_eq_sg ?_
  | with_reducible refine wo_ne_sg ?_
  | with_reducible refine wo_eq_str ?_
  | with_reducible refine wo_ne_str ?_
  | with_reducible refine wo_eq_nat ?_
  | with_reducible refine wo_ne_nat ?_
  | with_reducible refine wo_eq_int ?_
  | with_reducible refine wo_ne_int ?_
  | with_reducible refine wo_eq_bl ?_
  | with_reducible refine wo_ne_bl ?_
  | with_reducible refine wo_in_sg ?_
  | with_reducible refine wo_notin_sg ?_
  | with_reducible refine wo_lt ?_
  | with_reducible refine wo_le ?_
  | with_reducible refine wo_gt ?_
  | with_reducible refine wo_ge ?_
  | with_reducible refine wo_ix_strN (by first | assumption | (simp; done)) ?_
  | with_reducible refine wo_ix_lstN (by first | assumption | (simp; done)) ?_
  | with_reducible refine wo_ix_tupN (by first | assumption | (simp; done)) ?_
  | with_reducible refine wo_ix_str (by first | assumption | with_unfolding_all exact rfl) ?_
  | with_reducible refine wo_ix_lst (by first | assumption | with_unfolding_all exact rfl) ?_
  | with_reducible refine wo_ix_tup (by first | assumption | with_unfolding_all exact rfl) ?_
  | with_reducible refine wo_sl_strT ?_
  | with_reducible refine wo_sl_strD1 ?_
  | with_reducible refine wo_sl_strD ?_
  | with_reducible refine wo_sl_str ?_
  | with_reducible refine wo_sl_lstT ?_
  | with_reducible refine wo_sl_lstD ?_
  | with_reducible refine wo_sl_lst ?_
  | with_reducible refine wo_sl_tup ?_
  | with_reducible refine wo_len_map ?_
  | with_reducible refine wo_len_str ?_
  | with_reducible refine wo_len_lst ?_
  | with_reducible refine wo_len_tup ?_
  | with_reducible refine wo_int_bl ?_
  | with_reducible refine wo_int_int ?_
  | with_reducible refine wo_up1 ?_
  | with_reducible refine wo_lo1 ?_
  | with_reducible refine wo_up ?_
  | with_reducible refine wo_lo ?_
  | with_reducible refine wo_islo ?_
  | with_reducible refine wo_isup ?_
  | with_reducible refine wo_all ?_
  | with_reducible refine wo_sum ?_
  | with_reducible refine wo_max2 ?_
  | with_reducible refine wo_min2 ?_
  | with_reducible refine wo_eq_nil ?_
  | with_reducible refine wo_ne_nil ?_
  | with_reducible refine wo_eq_nats ?_
  | with_reducible refine wo_ne_nats ?_
  | with_reducible refine wo_eq_strs ?_
  | with_reducible refine wo_ne_strs ?_
  | with_reducible refine wo_in_strs ?_
  | with_reducible refine wo_notin_strs ?_
  | with_reducible refine wo_in_nats ?_
  | with_reducible refine wo_notin_nats ?_
  | with_reducible refine wo_isnon_non ?_
  | with_reducible refine wo_isnon_int ?_
  | with_reducible refine wo_isnot_non ?_
  | with_reducible refine wo_isnot_int ?_
  | with_reducible refine wo_is_bl ?_
  | with_reducible refine wo_isnot_bl ?_))
local macro_rules | `(tactic| walk_at "wu") => `(tactic| fail)
local macro_rules | `(tactic| walk_at "w") => `(tactic| repeat (first | walk_at "wu" | walk_at "w1" | walk_at "wo"))
abbrev PRS : D := .lst [.str [65, 66], .str [66, 65], .str [81, 90], .str [90, 67]]
section
theorem ev_all {l : Cells} {m : MO} (hl : l.length ≤ 3) {a b : Nat} (h : (a, b) ∈ [(65, 66), (66, 65), (81, 90), (90, 67)]) : F__law_pair_right [sgD a, sgD b] (l ++ [m]) = .ok (.bl true) (l ++ [m]) := by
  simp only [List.mem_cons, Prod.mk.injEq, List.not_mem_nil, or_false] at h
  match l, hl with
  | [], _ =>
    rcases h with ⟨rfl, rfl⟩ | ⟨rfl, rfl⟩ | ⟨rfl, rfl⟩ | ⟨rfl, rfl⟩
    · exact ev1_0 m
    · exact ev1_1 m
    · exact ev1_2 m
    · exact ev1_3 m
  | [m1], _ =>
    rcases h with ⟨rfl, rfl⟩ | ⟨rfl, rfl⟩ | ⟨rfl, rfl⟩ | ⟨rfl, rfl⟩
    · exact ev2_0 m1 m
    · exact ev2_1 m1 m
    · exact ev2_2 m1 m
    · exact ev2_3 m1 m
  | [m1, m2], _ =>
    rcases h with ⟨rfl, rfl⟩ | ⟨rfl, rfl⟩ | ⟨rfl, rfl⟩ | ⟨rfl, rfl⟩
    · exact ev3_0 m1 m2 m
    · exact ev3_1 m1 m2 m
    · exact ev3_2 m1 m2 m
    · exact ev3_3 m1 m2 m
  | [m1, m2, m3], _ =>
    rcases h with ⟨rfl, rfl⟩ | ⟨rfl, rfl⟩ | ⟨rfl, rfl⟩ | ⟨rfl, rfl⟩
    · exact ev4_0 m1 m2 m3 m
    · exact ev4_1 m1 m2 m3 m
    · exact ev4_2 m1 m2 m3 m
    · exact ev4_3 m1 m2 m3 m
end
theorem f_law (ns : List Int) (hn : ns.length ≤ 1000) : ∃ ce, F_law [.lst (ns.map D.int)] [] = .ok (.bl true) ce := by
  have h : WE (F_law [.lst (ns.map D.int)] []) (fun d _ => d = .bl true) (fun _ _ => False) := by
    refine w_law ?_
    walk_at "w"
    with_reducible refine ws_loop (fun pre sl ce => ∃ y2 y3, sl = [some (.lst (ns.map D.int)), some PRS, y2, y3] ∧ ce.length = pre.length) ⟨_, _, rfl, rfl⟩ ?_ ?_
    · rintro pre c post sl ce0 hpre ⟨y2, y3, rfl, hl⟩
      have hp3 : pre.length ≤ 3 := by
        have := congrArg List.length hpre
        simp at this
        omega
      walk_at "w"
      obtain ⟨m, d1, d2⟩ := f_deck (c := c) (t := 18) ce0 (by omega)
      refine we_eq d1 ?_
      walk_at "w"
      obtain ⟨v, m1, p1, p2, p3, p4⟩ := f_pick (k := ce0.length) (ce := ce0 ++ [m]) (L := 4) (by simp) d2 (by omega) (by omega) (by omega)
      rw [app_set0] at p1
      refine we_eq p1 ?_
      have hv : v = 0 ∨ v = 1 ∨ v = 2 ∨ v = 3 := by omega
      rcases hv with rfl | rfl | rfl | rfl
      all_goals
        walk_at "w"
        refine we_eq (ev_all (by omega) (by decide)) ?_
        walk_at "w"
        exact ⟨_, _, rfl, by simp; omega⟩
    · rintro sl ce ⟨y2, y3, rfl, hl⟩
      have h14 : 1 ≤ ce.length ∧ ce.length ≤ 4 := by
        rw [hl]
        simp
        omega
      match ce, h14 with
      | [m1], _ => exact .rt (.bl true) [m1] (by kernel_rfl) (wfin_ok rfl rfl)
      | [m1, m2], _ => exact .rt (.bl true) [m1, m2] (by kernel_rfl) (wfin_ok rfl rfl)
      | [m1, m2, m3], _ => exact .rt (.bl true) [m1, m2, m3] (by kernel_rfl) (wfin_ok rfl rfl)
      | [m1, m2, m3, m4], _ => exact .rt (.bl true) [m1, m2, m3, m4] (by kernel_rfl) (wfin_ok rfl rfl)
  obtain ⟨d, ce, e, rfl⟩ := h.out
  exact ⟨ce, e⟩
end Ib

set_option Elab.async false
set_option linter.all false
set_option maxRecDepth 100000
set_option maxHeartbeats 4000000
namespace Ib
open PySem PySem.Spec PyProof.Rows L2
theorem cx_no {P : Program} {w : World} {H : Hp} {s s' : Shared} {u : Value} (h : L2N.CX P w [] H s (fun _ _ _ => False) u s') : False := by
  obtain ⟨a, B, H', cls, d, _, _, _, _, _, _, _, z⟩ := h
  exact z
theorem all_mk {l : PySem.W.OpenLaw} {w : World} {K : PySem.W.Frag} {h : Heap} {mg : Str → Option Value} {fa f1 f2 f3 f4 f5 f6 f7 f8 f9 f10 f11 f12 f13 f14 f15 f16 f17 f18 f19 f20 f21 f22 f23 f24 f25 f26 f27 f28 f29 f30 f31 f32 f33 f34 f35 f36 f37 f38 f39 f40 f41 f42 f43 f44 f45 f46 f47 f48 f49 f50 f51 f52 f53 f54 f55 f56 f57 : Addr} (X : K.In h) (G : h.Ns mainGlobals mg) (hfa : mg "law" = some (.ref fa))
    {od1 an1 od2 an2 od3 an3 od4 an4 od5 an5 od6 an6 od7 an7 od8 an8 od9 an9 od10 an10 od11 an11 od12 an12 od13 an13 od14 an14 od15 an15 od16 an16 od17 an17 od18 an18 od19 an19 od20 an20 od21 an21 od22 an22 od23 an23 od24 an24 od25 an25 od26 an26 od27 an27 od28 an28 od29 an29 od30 an30 od31 an31 od32 an32 od33 an33 od34 an34 od35 an35 od36 an36 od37 an37 od38 an38 od39 an39 od40 an40 od41 an41 od42 an42 od43 an43 od44 an44 od45 an45 od46 an46 od47 an47 od48 an48 od49 an49 od50 an50 od51 an51 od52 an52 od53 an53 od54 an54 od55 an55 od56 an56 od57 an57 : Option Addr} {sl1 sl2 sl3 sl4 sl5 sl6 sl7 sl8 sl9 sl10 sl11 sl12 sl13 sl14 sl15 sl16 sl17 sl18 sl19 sl20 sl21 sl22 sl23 sl24 sl25 sl26 sl27 sl28 sl29 sl30 sl31 sl32 sl33 sl34 sl35 sl36 sl37 sl38 sl39 sl40 sl41 sl42 sl43 sl44 sl45 sl46 sl47 sl48 sl49 sl50 sl51 sl52 sl53 sl54 sl55 sl56 sl57 : Array (Option Value)} {oc1 kV1 dc1 pm1 cd1 ct1 oc2 kV2 dc2 pm2 cd2 ct2 oc3 kV3 dc3 pm3 cd3 ct3 oc4 kV4 dc4 pm4 cd4 ct4 oc5 kV5 dc5 pm5 cd5 ct5 oc6 kV6 dc6 pm6 cd6 ct6 oc7 kV7 dc7 pm7 cd7 ct7 oc8 kV8 dc8 pm8 cd8 ct8 oc9 kV9 dc9 pm9 cd9 ct9 oc10 kV10 dc10 pm10 cd10 ct10 oc11 kV11 dc11 pm11 cd11 ct11 oc12 kV12 dc12 pm12 cd12 ct12 oc13 kV13 dc13 pm13 cd13 ct13 oc14 kV14 dc14 pm14 cd14 ct14 oc15 kV15 dc15 pm15 cd15 ct15 oc16 kV16 dc16 pm16 cd16 ct16 oc17 kV17 dc17 pm17 cd17 ct17 oc18 kV18 dc18 pm18 cd18 ct18 oc19 kV19 dc19 pm19 cd19 ct19 oc20 kV20 dc20 pm20 cd20 ct20 oc21 kV21 dc21 pm21 cd21 ct21 oc22 kV22 dc22 pm22 cd22 ct22 oc23 kV23 dc23 pm23 cd23 ct23 oc24 kV24 dc24 pm24 cd24 ct24 oc25 kV25 dc25 pm25 cd25 ct25 oc26 kV26 dc26 pm26 cd26 ct26 oc27 kV27 dc27 pm27 cd27 ct27 oc28 kV28 dc28 pm28 cd28 ct28 oc29 kV29 dc29 pm29 cd29 ct29 oc30 kV30 dc30 pm30 cd30 ct30 oc31 kV31 dc31 pm31 cd31 ct31 oc32 kV32 dc32 pm32 cd32 ct32 oc33 kV33 dc33 pm33 cd33 ct33 oc34 kV34 dc34 pm34 cd34 ct34 oc35 kV35 dc35 pm35 cd35 ct35 oc36 kV36 dc36 pm36 cd36 ct36 oc37 kV37 dc37 pm37 cd37 ct37 oc38 kV38 dc38 pm38 cd38 ct38 oc39 kV39 dc39 pm39 cd39 ct39 oc40 kV40 dc40 pm40 cd40 ct40 oc41 kV41 dc41 pm41 cd41 ct41 oc42 kV42 dc42 pm42 cd42 ct42 oc43 kV43 dc43 pm43 cd43 ct43 oc44 kV44 dc44 pm44 cd44 ct44 oc45 kV45 dc45 pm45 cd45 ct45 oc46 kV46 dc46 pm46 cd46 ct46 oc47 kV47 dc47 pm47 cd47 ct47 oc48 kV48 dc48 pm48 cd48 ct48 oc49 kV49 dc49 pm49 cd49 ct49 oc50 kV50 dc50 pm50 cd50 ct50 oc51 kV51 dc51 pm51 cd51 ct51 oc52 kV52 dc52 pm52 cd52 ct52 oc53 kV53 dc53 pm53 cd53 ct53 oc54 kV54 dc54 pm54 cd54 ct54 oc55 kV55 dc55 pm55 cd55 ct55 oc56 kV56 dc56 pm56 cd56 ct56 oc57 kV57 dc57 pm57 cd57 ct57 u_LETTERS u_MOST_NOTES : Value}
    (a1 : PySem.W.nsIn K mainGlobals "is_from" = some (some (.ref f1))) (l1 : K.lookup f1 = some ⟨oc1, od1, .func (PySem.W.fnOf "is_from" "is_from" (defArgs s_is_from) (defBody s_is_from) (defScope s_is_from) .none kV1 dc1 pm1 an1 cd1 ct1), sl1⟩) (c1 : PySem.W.codeIn K cd1 "is_from" = true) (k1 : PySem.W.keepIn K (.ref f1) = true)
    (a2 : PySem.W.nsIn K mainGlobals "is_sign" = some (some (.ref f2))) (l2 : K.lookup f2 = some ⟨oc2, od2, .func (PySem.W.fnOf "is_sign" "is_sign" (defArgs s_is_sign) (defBody s_is_sign) (defScope s_is_sign) .none kV2 dc2 pm2 an2 cd2 ct2), sl2⟩) (c2 : PySem.W.codeIn K cd2 "is_sign" = true) (k2 : PySem.W.keepIn K (.ref f2) = true)
    (a3 : PySem.W.nsIn K mainGlobals "is_row" = some (some (.ref f3))) (l3 : K.lookup f3 = some ⟨oc3, od3, .func (PySem.W.fnOf "is_row" "is_row" (defArgs s_is_row) (defBody s_is_row) (defScope s_is_row) .none kV3 dc3 pm3 an3 cd3 ct3), sl3⟩) (c3 : PySem.W.codeIn K cd3 "is_row" = true) (k3 : PySem.W.keepIn K (.ref f3) = true)
    (a4 : PySem.W.nsIn K mainGlobals "works_of" = some (some (.ref f4))) (l4 : K.lookup f4 = some ⟨oc4, od4, .func (PySem.W.fnOf "works_of" "works_of" (defArgs s_works_of) (defBody s_works_of) (defScope s_works_of) .none kV4 dc4 pm4 an4 cd4 ct4), sl4⟩) (c4 : PySem.W.codeIn K cd4 "works_of" = true) (k4 : PySem.W.keepIn K (.ref f4) = true)
    (a5 : PySem.W.nsIn K mainGlobals "faults" = some (some (.ref f5))) (l5 : K.lookup f5 = some ⟨oc5, od5, .func (PySem.W.fnOf "faults" "faults" (defArgs s_faults) (defBody s_faults) (defScope s_faults) .none kV5 dc5 pm5 an5 cd5 ct5), sl5⟩) (c5 : PySem.W.codeIn K cd5 "faults" = true) (k5 : PySem.W.keepIn K (.ref f5) = true)
    (a6 : PySem.W.nsIn K mainGlobals "need_row" = some (some (.ref f6))) (l6 : K.lookup f6 = some ⟨oc6, od6, .func (PySem.W.fnOf "need_row" "need_row" (defArgs s_need_row) (defBody s_need_row) (defScope s_need_row) .none kV6 dc6 pm6 an6 cd6 ct6), sl6⟩) (c6 : PySem.W.codeIn K cd6 "need_row" = true) (k6 : PySem.W.keepIn K (.ref f6) = true)
    (a7 : PySem.W.nsIn K mainGlobals "need_right" = some (some (.ref f7))) (l7 : K.lookup f7 = some ⟨oc7, od7, .func (PySem.W.fnOf "need_right" "need_right" (defArgs s_need_right) (defBody s_need_right) (defScope s_need_right) .none kV7 dc7 pm7 an7 cd7 ct7), sl7⟩) (c7 : PySem.W.codeIn K cd7 "need_right" = true) (k7 : PySem.W.keepIn K (.ref f7) = true)
    (a8 : PySem.W.nsIn K mainGlobals "first_wrong" = some (some (.ref f8))) (l8 : K.lookup f8 = some ⟨oc8, od8, .func (PySem.W.fnOf "first_wrong" "first_wrong" (defArgs s_first_wrong) (defBody s_first_wrong) (defScope s_first_wrong) .none kV8 dc8 pm8 an8 cd8 ct8), sl8⟩) (c8 : PySem.W.codeIn K cd8 "first_wrong" = true) (k8 : PySem.W.keepIn K (.ref f8) = true)
    (a9 : PySem.W.nsIn K mainGlobals "is_right" = some (some (.ref f9))) (l9 : K.lookup f9 = some ⟨oc9, od9, .func (PySem.W.fnOf "is_right" "is_right" (defArgs s_is_right) (defBody s_is_right) (defScope s_is_right) .none kV9 dc9 pm9 an9 cd9 ct9), sl9⟩) (c9 : PySem.W.codeIn K cd9 "is_right" = true) (k9 : PySem.W.keepIn K (.ref f9) = true)
    (a10 : PySem.W.nsIn K mainGlobals "read" = some (some (.ref f10))) (l10 : K.lookup f10 = some ⟨oc10, od10, .func (PySem.W.fnOf "read" "read" (defArgs s_read) (defBody s_read) (defScope s_read) .none kV10 dc10 pm10 an10 cd10 ct10), sl10⟩) (c10 : PySem.W.codeIn K cd10 "read" = true) (k10 : PySem.W.keepIn K (.ref f10) = true)
    (a11 : PySem.W.nsIn K mainGlobals "is_works" = some (some (.ref f11))) (l11 : K.lookup f11 = some ⟨oc11, od11, .func (PySem.W.fnOf "is_works" "is_works" (defArgs s_is_works) (defBody s_is_works) (defScope s_is_works) .none kV11 dc11 pm11 an11 cd11 ct11), sl11⟩) (c11 : PySem.W.codeIn K cd11 "is_works" = true) (k11 : PySem.W.keepIn K (.ref f11) = true)
    (a12 : PySem.W.nsIn K mainGlobals "need_works" = some (some (.ref f12))) (l12 : K.lookup f12 = some ⟨oc12, od12, .func (PySem.W.fnOf "need_works" "need_works" (defArgs s_need_works) (defBody s_need_works) (defScope s_need_works) .none kV12 dc12 pm12 an12 cd12 ct12), sl12⟩) (c12 : PySem.W.codeIn K cd12 "need_works" = true) (k12 : PySem.W.keepIn K (.ref f12) = true)
    (a13 : PySem.W.nsIn K mainGlobals "shortest_of" = some (some (.ref f13))) (l13 : K.lookup f13 = some ⟨oc13, od13, .func (PySem.W.fnOf "shortest_of" "shortest_of" (defArgs s_shortest_of) (defBody s_shortest_of) (defScope s_shortest_of) .none kV13 dc13 pm13 an13 cd13 ct13), sl13⟩) (c13 : PySem.W.codeIn K cd13 "shortest_of" = true) (k13 : PySem.W.keepIn K (.ref f13) = true)
    (a14 : PySem.W.nsIn K mainGlobals "shortest" = some (some (.ref f14))) (l14 : K.lookup f14 = some ⟨oc14, od14, .func (PySem.W.fnOf "shortest" "shortest" (defArgs s_shortest) (defBody s_shortest) (defScope s_shortest) .none kV14 dc14 pm14 an14 cd14 ct14), sl14⟩) (c14 : PySem.W.codeIn K cd14 "shortest" = true) (k14 : PySem.W.keepIn K (.ref f14) = true)
    (a15 : PySem.W.nsIn K mainGlobals "count_writings" = some (some (.ref f15))) (l15 : K.lookup f15 = some ⟨oc15, od15, .func (PySem.W.fnOf "count_writings" "count_writings" (defArgs s_count_writings) (defBody s_count_writings) (defScope s_count_writings) .none kV15 dc15 pm15 an15 cd15 ct15), sl15⟩) (c15 : PySem.W.codeIn K cd15 "count_writings" = true) (k15 : PySem.W.keepIn K (.ref f15) = true)
    (a16 : PySem.W.nsIn K mainGlobals "count_rows" = some (some (.ref f16))) (l16 : K.lookup f16 = some ⟨oc16, od16, .func (PySem.W.fnOf "count_rows" "count_rows" (defArgs s_count_rows) (defBody s_count_rows) (defScope s_count_rows) .none kV16 dc16 pm16 an16 cd16 ct16), sl16⟩) (c16 : PySem.W.codeIn K cd16 "count_rows" = true) (k16 : PySem.W.keepIn K (.ref f16) = true)
    (a17 : PySem.W.nsIn K mainGlobals "factorial" = some (some (.ref f17))) (l17 : K.lookup f17 = some ⟨oc17, od17, .func (PySem.W.fnOf "factorial" "factorial" (defArgs s_factorial) (defBody s_factorial) (defScope s_factorial) .none kV17 dc17 pm17 an17 cd17 ct17), sl17⟩) (c17 : PySem.W.codeIn K cd17 "factorial" = true) (k17 : PySem.W.keepIn K (.ref f17) = true)
    (a18 : PySem.W.nsIn K mainGlobals "ways" = some (some (.ref f18))) (l18 : K.lookup f18 = some ⟨oc18, od18, .func (PySem.W.fnOf "ways" "ways" (defArgs s_ways) (defBody s_ways) (defScope s_ways) .none kV18 dc18 pm18 an18 cd18 ct18), sl18⟩) (c18 : PySem.W.codeIn K cd18 "ways" = true) (k18 : PySem.W.keepIn K (.ref f18) = true)
    (a19 : PySem.W.nsIn K mainGlobals "moved" = some (some (.ref f19))) (l19 : K.lookup f19 = some ⟨oc19, od19, .func (PySem.W.fnOf "moved" "moved" (defArgs s_moved) (defBody s_moved) (defScope s_moved) .none kV19 dc19 pm19 an19 cd19 ct19), sl19⟩) (c19 : PySem.W.codeIn K cd19 "moved" = true) (k19 : PySem.W.keepIn K (.ref f19) = true)
    (a20 : PySem.W.nsIn K mainGlobals "good_order" = some (some (.ref f20))) (l20 : K.lookup f20 = some ⟨oc20, od20, .func (PySem.W.fnOf "good_order" "good_order" (defArgs s_good_order) (defBody s_good_order) (defScope s_good_order) .none kV20 dc20 pm20 an20 cd20 ct20), sl20⟩) (c20 : PySem.W.codeIn K cd20 "good_order" = true) (k20 : PySem.W.keepIn K (.ref f20) = true)
    (a21 : PySem.W.nsIn K mainGlobals "same_meaning" = some (some (.ref f21))) (l21 : K.lookup f21 = some ⟨oc21, od21, .func (PySem.W.fnOf "same_meaning" "same_meaning" (defArgs s_same_meaning) (defBody s_same_meaning) (defScope s_same_meaning) .none kV21 dc21 pm21 an21 cd21 ct21), sl21⟩) (c21 : PySem.W.codeIn K cd21 "same_meaning" = true) (k21 : PySem.W.keepIn K (.ref f21) = true)
    (a22 : PySem.W.nsIn K mainGlobals "keeps" = some (some (.ref f22))) (l22 : K.lookup f22 = some ⟨oc22, od22, .func (PySem.W.fnOf "keeps" "keeps" (defArgs s_keeps) (defBody s_keeps) (defScope s_keeps) .none kV22 dc22 pm22 an22 cd22 ct22), sl22⟩) (c22 : PySem.W.codeIn K cd22 "keeps" = true) (k22 : PySem.W.keepIn K (.ref f22) = true)
    (a23 : PySem.W.nsIn K mainGlobals "count_orders" = some (some (.ref f23))) (l23 : K.lookup f23 = some ⟨oc23, od23, .func (PySem.W.fnOf "count_orders" "count_orders" (defArgs s_count_orders) (defBody s_count_orders) (defScope s_count_orders) .none kV23 dc23 pm23 an23 cd23 ct23), sl23⟩) (c23 : PySem.W.codeIn K cd23 "count_orders" = true) (k23 : PySem.W.keepIn K (.ref f23) = true)
    (a24 : PySem.W.nsIn K mainGlobals "can_come" = some (some (.ref f24))) (l24 : K.lookup f24 = some ⟨oc24, od24, .func (PySem.W.fnOf "can_come" "can_come" (defArgs s_can_come) (defBody s_can_come) (defScope s_can_come) .none kV24 dc24 pm24 an24 cd24 ct24), sl24⟩) (c24 : PySem.W.codeIn K cd24 "can_come" = true) (k24 : PySem.W.keepIn K (.ref f24) = true)
    (a25 : PySem.W.nsIn K mainGlobals "order_at" = some (some (.ref f25))) (l25 : K.lookup f25 = some ⟨oc25, od25, .func (PySem.W.fnOf "order_at" "order_at" (defArgs s_order_at) (defBody s_order_at) (defScope s_order_at) .none kV25 dc25 pm25 an25 cd25 ct25), sl25⟩) (c25 : PySem.W.codeIn K cd25 "order_at" = true) (k25 : PySem.W.keepIn K (.ref f25) = true)
    (a26 : PySem.W.nsIn K mainGlobals "number_of" = some (some (.ref f26))) (l26 : K.lookup f26 = some ⟨oc26, od26, .func (PySem.W.fnOf "number_of" "number_of" (defArgs s_number_of) (defBody s_number_of) (defScope s_number_of) .none kV26 dc26 pm26 an26 cd26 ct26), sl26⟩) (c26 : PySem.W.codeIn K cd26 "number_of" = true) (k26 : PySem.W.keepIn K (.ref f26) = true)
    (a27 : PySem.W.nsIn K mainGlobals "need_index" = some (some (.ref f27))) (l27 : K.lookup f27 = some ⟨oc27, od27, .func (PySem.W.fnOf "need_index" "need_index" (defArgs s_need_index) (defBody s_need_index) (defScope s_need_index) .none kV27 dc27 pm27 an27 cd27 ct27), sl27⟩) (c27 : PySem.W.codeIn K cd27 "need_index" = true) (k27 : PySem.W.keepIn K (.ref f27) = true)
    (a28 : PySem.W.nsIn K mainGlobals "harmed_by" = some (some (.ref f28))) (l28 : K.lookup f28 = some ⟨oc28, od28, .func (PySem.W.fnOf "harmed_by" "harmed_by" (defArgs s_harmed_by) (defBody s_harmed_by) (defScope s_harmed_by) .none kV28 dc28 pm28 an28 cd28 ct28), sl28⟩) (c28 : PySem.W.codeIn K cd28 "harmed_by" = true) (k28 : PySem.W.keepIn K (.ref f28) = true)
    (a29 : PySem.W.nsIn K mainGlobals "harmed" = some (some (.ref f29))) (l29 : K.lookup f29 = some ⟨oc29, od29, .func (PySem.W.fnOf "harmed" "harmed" (defArgs s_harmed) (defBody s_harmed) (defScope s_harmed) .none kV29 dc29 pm29 an29 cd29 ct29), sl29⟩) (c29 : PySem.W.codeIn K cd29 "harmed" = true) (k29 : PySem.W.keepIn K (.ref f29) = true)
    (a30 : PySem.W.nsIn K mainGlobals "needless" = some (some (.ref f30))) (l30 : K.lookup f30 = some ⟨oc30, od30, .func (PySem.W.fnOf "needless" "needless" (defArgs s_needless) (defBody s_needless) (defScope s_needless) .none kV30 dc30 pm30 an30 cd30 ct30), sl30⟩) (c30 : PySem.W.codeIn K cd30 "needless" = true) (k30 : PySem.W.keepIn K (.ref f30) = true)
    (a31 : PySem.W.nsIn K mainGlobals "need_stretch" = some (some (.ref f31))) (l31 : K.lookup f31 = some ⟨oc31, od31, .func (PySem.W.fnOf "need_stretch" "need_stretch" (defArgs s_need_stretch) (defBody s_need_stretch) (defScope s_need_stretch) .none kV31 dc31 pm31 an31 cd31 ct31), sl31⟩) (c31 : PySem.W.codeIn K cd31 "need_stretch" = true) (k31 : PySem.W.keepIn K (.ref f31) = true)
    (a32 : PySem.W.nsIn K mainGlobals "order_of" = some (some (.ref f32))) (l32 : K.lookup f32 = some ⟨oc32, od32, .func (PySem.W.fnOf "order_of" "order_of" (defArgs s_order_of) (defBody s_order_of) (defScope s_order_of) .none kV32 dc32 pm32 an32 cd32 ct32), sl32⟩) (c32 : PySem.W.codeIn K cd32 "order_of" = true) (k32 : PySem.W.keepIn K (.ref f32) = true)
    (a33 : PySem.W.nsIn K mainGlobals "goals" = some (some (.ref f33))) (l33 : K.lookup f33 = some ⟨oc33, od33, .func (PySem.W.fnOf "goals" "goals" (defArgs s_goals) (defBody s_goals) (defScope s_goals) .none kV33 dc33 pm33 an33 cd33 ct33), sl33⟩) (c33 : PySem.W.codeIn K cd33 "goals" = true) (k33 : PySem.W.keepIn K (.ref f33) = true)
    (a34 : PySem.W.nsIn K mainGlobals "mended" = some (some (.ref f34))) (l34 : K.lookup f34 = some ⟨oc34, od34, .func (PySem.W.fnOf "mended" "mended" (defArgs s_mended) (defBody s_mended) (defScope s_mended) .none kV34 dc34 pm34 an34 cd34 ct34), sl34⟩) (c34 : PySem.W.codeIn K cd34 "mended" = true) (k34 : PySem.W.keepIn K (.ref f34) = true)
    (a35 : PySem.W.nsIn K mainGlobals "in_order" = some (some (.ref f35))) (l35 : K.lookup f35 = some ⟨oc35, od35, .func (PySem.W.fnOf "in_order" "in_order" (defArgs s_in_order) (defBody s_in_order) (defScope s_in_order) .none kV35 dc35 pm35 an35 cd35 ct35), sl35⟩) (c35 : PySem.W.codeIn K cd35 "in_order" = true) (k35 : PySem.W.keepIn K (.ref f35) = true)
    (a36 : PySem.W.nsIn K mainGlobals "need_order" = some (some (.ref f36))) (l36 : K.lookup f36 = some ⟨oc36, od36, .func (PySem.W.fnOf "need_order" "need_order" (defArgs s_need_order) (defBody s_need_order) (defScope s_need_order) .none kV36 dc36 pm36 an36 cd36 ct36), sl36⟩) (c36 : PySem.W.codeIn K cd36 "need_order" = true) (k36 : PySem.W.keepIn K (.ref f36) = true)
    (a37 : PySem.W.nsIn K mainGlobals "fewest_rewritten" = some (some (.ref f37))) (l37 : K.lookup f37 = some ⟨oc37, od37, .func (PySem.W.fnOf "fewest_rewritten" "fewest_rewritten" (defArgs s_fewest_rewritten) (defBody s_fewest_rewritten) (defScope s_fewest_rewritten) .none kV37 dc37 pm37 an37 cd37 ct37), sl37⟩) (c37 : PySem.W.codeIn K cd37 "fewest_rewritten" = true) (k37 : PySem.W.keepIn K (.ref f37) = true)
    (a38 : PySem.W.nsIn K mainGlobals "rewritten" = some (some (.ref f38))) (l38 : K.lookup f38 = some ⟨oc38, od38, .func (PySem.W.fnOf "rewritten" "rewritten" (defArgs s_rewritten) (defBody s_rewritten) (defScope s_rewritten) .none kV38 dc38 pm38 an38 cd38 ct38), sl38⟩) (c38 : PySem.W.codeIn K cd38 "rewritten" = true) (k38 : PySem.W.keepIn K (.ref f38) = true)
    (a39 : PySem.W.nsIn K mainGlobals "need_size" = some (some (.ref f39))) (l39 : K.lookup f39 = some ⟨oc39, od39, .func (PySem.W.fnOf "need_size" "need_size" (defArgs s_need_size) (defBody s_need_size) (defScope s_need_size) .none kV39 dc39 pm39 an39 cd39 ct39), sl39⟩) (c39 : PySem.W.codeIn K cd39 "need_size" = true) (k39 : PySem.W.keepIn K (.ref f39) = true)
    (a40 : PySem.W.nsIn K mainGlobals "page_counts" = some (some (.ref f40))) (l40 : K.lookup f40 = some ⟨oc40, od40, .func (PySem.W.fnOf "page_counts" "page_counts" (defArgs s_page_counts) (defBody s_page_counts) (defScope s_page_counts) .none kV40 dc40 pm40 an40 cd40 ct40), sl40⟩) (c40 : PySem.W.codeIn K cd40 "page_counts" = true) (k40 : PySem.W.keepIn K (.ref f40) = true)
    (a41 : PySem.W.nsIn K mainGlobals "count_pages" = some (some (.ref f41))) (l41 : K.lookup f41 = some ⟨oc41, od41, .func (PySem.W.fnOf "count_pages" "count_pages" (defArgs s_count_pages) (defBody s_count_pages) (defScope s_count_pages) .none kV41 dc41 pm41 an41 cd41 ct41), sl41⟩) (c41 : PySem.W.codeIn K cd41 "count_pages" = true) (k41 : PySem.W.keepIn K (.ref f41) = true)
    (a42 : PySem.W.nsIn K mainGlobals "page_starts" = some (some (.ref f42))) (l42 : K.lookup f42 = some ⟨oc42, od42, .func (PySem.W.fnOf "page_starts" "page_starts" (defArgs s_page_starts) (defBody s_page_starts) (defScope s_page_starts) .none kV42 dc42 pm42 an42 cd42 ct42), sl42⟩) (c42 : PySem.W.codeIn K cd42 "page_starts" = true) (k42 : PySem.W.keepIn K (.ref f42) = true)
    (a43 : PySem.W.nsIn K mainGlobals "is_pattern" = some (some (.ref f43))) (l43 : K.lookup f43 = some ⟨oc43, od43, .func (PySem.W.fnOf "is_pattern" "is_pattern" (defArgs s_is_pattern) (defBody s_is_pattern) (defScope s_is_pattern) .none kV43 dc43 pm43 an43 cd43 ct43), sl43⟩) (c43 : PySem.W.codeIn K cd43 "is_pattern" = true) (k43 : PySem.W.keepIn K (.ref f43) = true)
    (a44 : PySem.W.nsIn K mainGlobals "need_pattern" = some (some (.ref f44))) (l44 : K.lookup f44 = some ⟨oc44, od44, .func (PySem.W.fnOf "need_pattern" "need_pattern" (defArgs s_need_pattern) (defBody s_need_pattern) (defScope s_need_pattern) .none kV44 dc44 pm44 an44 cd44 ct44), sl44⟩) (c44 : PySem.W.codeIn K cd44 "need_pattern" = true) (k44 : PySem.W.keepIn K (.ref f44) = true)
    (a45 : PySem.W.nsIn K mainGlobals "signs_for" = some (some (.ref f45))) (l45 : K.lookup f45 = some ⟨oc45, od45, .func (PySem.W.fnOf "signs_for" "signs_for" (defArgs s_signs_for) (defBody s_signs_for) (defScope s_signs_for) .none kV45 dc45 pm45 an45 cd45 ct45), sl45⟩) (c45 : PySem.W.codeIn K cd45 "signs_for" = true) (k45 : PySem.W.keepIn K (.ref f45) = true)
    (a46 : PySem.W.nsIn K mainGlobals "step" = some (some (.ref f46))) (l46 : K.lookup f46 = some ⟨oc46, od46, .func (PySem.W.fnOf "step" "step" (defArgs s_step) (defBody s_step) (defScope s_step) .none kV46 dc46 pm46 an46 cd46 ct46), sl46⟩) (c46 : PySem.W.codeIn K cd46 "step" = true) (k46 : PySem.W.keepIn K (.ref f46) = true)
    (a47 : PySem.W.nsIn K mainGlobals "forward" = some (some (.ref f47))) (l47 : K.lookup f47 = some ⟨oc47, od47, .func (PySem.W.fnOf "forward" "forward" (defArgs s_forward) (defBody s_forward) (defScope s_forward) .none kV47 dc47 pm47 an47 cd47 ct47), sl47⟩) (c47 : PySem.W.codeIn K cd47 "forward" = true) (k47 : PySem.W.keepIn K (.ref f47) = true)
    (a48 : PySem.W.nsIn K mainGlobals "backward" = some (some (.ref f48))) (l48 : K.lookup f48 = some ⟨oc48, od48, .func (PySem.W.fnOf "backward" "backward" (defArgs s_backward) (defBody s_backward) (defScope s_backward) .none kV48 dc48 pm48 an48 cd48 ct48), sl48⟩) (c48 : PySem.W.codeIn K cd48 "backward" = true) (k48 : PySem.W.keepIn K (.ref f48) = true)
    (a49 : PySem.W.nsIn K mainGlobals "count_matches" = some (some (.ref f49))) (l49 : K.lookup f49 = some ⟨oc49, od49, .func (PySem.W.fnOf "count_matches" "count_matches" (defArgs s_count_matches) (defBody s_count_matches) (defScope s_count_matches) .none kV49 dc49 pm49 an49 cd49 ct49), sl49⟩) (c49 : PySem.W.codeIn K cd49 "count_matches" = true) (k49 : PySem.W.keepIn K (.ref f49) = true)
    (a50 : PySem.W.nsIn K mainGlobals "meanings" = some (some (.ref f50))) (l50 : K.lookup f50 = some ⟨oc50, od50, .func (PySem.W.fnOf "meanings" "meanings" (defArgs s_meanings) (defBody s_meanings) (defScope s_meanings) .none kV50 dc50 pm50 an50 cd50 ct50), sl50⟩) (c50 : PySem.W.codeIn K cd50 "meanings" = true) (k50 : PySem.W.keepIn K (.ref f50) = true)
    (a51 : PySem.W.nsIn K mainGlobals "_law_deck" = some (some (.ref f51))) (l51 : K.lookup f51 = some ⟨oc51, od51, .func (PySem.W.fnOf "_law_deck" "_law_deck" (defArgs s__law_deck) (defBody s__law_deck) (defScope s__law_deck) .none kV51 dc51 pm51 an51 cd51 ct51), sl51⟩) (c51 : PySem.W.codeIn K cd51 "_law_deck" = true) (k51 : PySem.W.keepIn K (.ref f51) = true)
    (a52 : PySem.W.nsIn K mainGlobals "_law_pick" = some (some (.ref f52))) (l52 : K.lookup f52 = some ⟨oc52, od52, .func (PySem.W.fnOf "_law_pick" "_law_pick" (defArgs s__law_pick) (defBody s__law_pick) (defScope s__law_pick) .none kV52 dc52 pm52 an52 cd52 ct52), sl52⟩) (c52 : PySem.W.codeIn K cd52 "_law_pick" = true) (k52 : PySem.W.keepIn K (.ref f52) = true)
    (a53 : PySem.W.nsIn K mainGlobals "_law_name_of" = some (some (.ref f53))) (l53 : K.lookup f53 = some ⟨oc53, od53, .func (PySem.W.fnOf "_law_name_of" "_law_name_of" (defArgs s__law_name_of) (defBody s__law_name_of) (defScope s__law_name_of) .none kV53 dc53 pm53 an53 cd53 ct53), sl53⟩) (c53 : PySem.W.codeIn K cd53 "_law_name_of" = true) (k53 : PySem.W.keepIn K (.ref f53) = true)
    (a54 : PySem.W.nsIn K mainGlobals "_law_try" = some (some (.ref f54))) (l54 : K.lookup f54 = some ⟨oc54, od54, .func (PySem.W.fnOf "_law_try" "_law_try" (defArgs s__law_try) (defBody s__law_try) (defScope s__law_try) .none kV54 dc54 pm54 an54 cd54 ct54), sl54⟩) (c54 : PySem.W.codeIn K cd54 "_law_try" = true) (k54 : PySem.W.keepIn K (.ref f54) = true)
    (a55 : PySem.W.nsIn K mainGlobals "_law_for" = some (some (.ref f55))) (l55 : K.lookup f55 = some ⟨oc55, od55, .func (PySem.W.fnOf "_law_for" "_law_for" (defArgs s__law_for) (defBody s__law_for) (defScope s__law_for) .none kV55 dc55 pm55 an55 cd55 ct55), sl55⟩) (c55 : PySem.W.codeIn K cd55 "_law_for" = true) (k55 : PySem.W.keepIn K (.ref f55) = true)
    (a56 : PySem.W.nsIn K mainGlobals "_law_pair_right" = some (some (.ref f56))) (l56 : K.lookup f56 = some ⟨oc56, od56, .func (PySem.W.fnOf "_law_pair_right" "_law_pair_right" (defArgs s__law_pair_right) (defBody s__law_pair_right) (defScope s__law_pair_right) .none kV56 dc56 pm56 an56 cd56 ct56), sl56⟩) (c56 : PySem.W.codeIn K cd56 "_law_pair_right" = true) (k56 : PySem.W.keepIn K (.ref f56) = true)
    (a57 : PySem.W.nsIn K mainGlobals "law" = some (some (.ref f57))) (l57 : K.lookup f57 = some ⟨oc57, od57, .func (PySem.W.fnOf "law" "law" (defArgs s_law) (defBody s_law) (defScope s_law) .none kV57 dc57 pm57 an57 cd57 ct57), sl57⟩) (c57 : PySem.W.codeIn K cd57 "law" = true) (k57 : PySem.W.keepIn K (.ref f57) = true)
    (z_ValueError : PySem.W.nsIn K mainGlobals "ValueError" = some none)
    (z_all : PySem.W.nsIn K mainGlobals "all" = some none)
    (z_bool : PySem.W.nsIn K mainGlobals "bool" = some none)
    (z_enumerate : PySem.W.nsIn K mainGlobals "enumerate" = some none)
    (z_int : PySem.W.nsIn K mainGlobals "int" = some none)
    (z_isinstance : PySem.W.nsIn K mainGlobals "isinstance" = some none)
    (z_len : PySem.W.nsIn K mainGlobals "len" = some none)
    (z_list : PySem.W.nsIn K mainGlobals "list" = some none)
    (z_max : PySem.W.nsIn K mainGlobals "max" = some none)
    (z_min : PySem.W.nsIn K mainGlobals "min" = some none)
    (z_range : PySem.W.nsIn K mainGlobals "range" = some none)
    (z_set : PySem.W.nsIn K mainGlobals "set" = some none)
    (z_sorted : PySem.W.nsIn K mainGlobals "sorted" = some none)
    (z_str : PySem.W.nsIn K mainGlobals "str" = some none)
    (z_sum : PySem.W.nsIn K mainGlobals "sum" = some none)
    (z_tuple : PySem.W.nsIn K mainGlobals "tuple" = some none)
    (z_zip : PySem.W.nsIn K mainGlobals "zip" = some none)
    (n_LETTERS : PySem.W.nsIn K mainGlobals "LETTERS" = some (some u_LETTERS)) (r_LETTERS : RelV (.str "ABCDEFGHIJKLMNOPQRSTUVWXYZ") u_LETTERS)
    (n_MOST_NOTES : PySem.W.nsIn K mainGlobals "MOST_NOTES" = some (some u_MOST_NOTES)) (r_MOST_NOTES : RelV (.int 30) u_MOST_NOTES)
    {C_InvalidOrder : Addr} (n_InvalidOrder : PySem.W.nsIn K mainGlobals "InvalidOrder" = some (some (.ref C_InvalidOrder)))
    {C_InvalidWorks : Addr} (n_InvalidWorks : PySem.W.nsIn K mainGlobals "InvalidWorks" = some (some (.ref C_InvalidWorks)))
    {C_InvalidRow : Addr} (n_InvalidRow : PySem.W.nsIn K mainGlobals "InvalidRow" = some (some (.ref C_InvalidRow)))
    {C_InvalidStretch : Addr} (n_InvalidStretch : PySem.W.nsIn K mainGlobals "InvalidStretch" = some (some (.ref C_InvalidStretch)))
    {C_InvalidIndex : Addr} (n_InvalidIndex : PySem.W.nsIn K mainGlobals "InvalidIndex" = some (some (.ref C_InvalidIndex)))
    {C_InvalidNumber : Addr} (n_InvalidNumber : PySem.W.nsIn K mainGlobals "InvalidNumber" = some (some (.ref C_InvalidNumber)))
    {C_NotRight : Addr} (n_NotRight : PySem.W.nsIn K mainGlobals "NotRight" = some (some (.ref C_NotRight)))
    {C_InvalidPattern : Addr} (n_InvalidPattern : PySem.W.nsIn K mainGlobals "InvalidPattern" = some (some (.ref C_InvalidPattern)))
    {C_InvalidSign : Addr} (n_InvalidSign : PySem.W.nsIn K mainGlobals "InvalidSign" = some (some (.ref C_InvalidSign)))
    {C_NothingToUndo : Addr} (n_NothingToUndo : PySem.W.nsIn K mainGlobals "NothingToUndo" = some (some (.ref C_NothingToUndo)))
    {C_NotPossible : Addr} (n_NotPossible : PySem.W.nsIn K mainGlobals "NotPossible" = some (some (.ref C_NotPossible)))
    {C_NoteError : Addr} (n_NoteError : PySem.W.nsIn K mainGlobals "NoteError" = some (some (.ref C_NoteError)))
    (q_NotPossible : PySem.W.excIn K C_NotPossible [.type "ValueError", .type "Exception", .type "BaseException", .type "object"] "ValueError.__new__" = true) (kk_NotPossible : PySem.W.keepIn K (.ref C_NotPossible) = true) (s_NotPossible : PySem.W.subIn K (.ref C_NotPossible) (.type "BaseException") = some true) (t_NotPossible : PySem.W.typeIn K (.ref C_NotPossible) = some (.type "type"))
    (x_NotPossible : ExcC K C_NotPossible) (y_NotPossible : PySem.W.exmOne K (.ref C_NotPossible) (.ref C_NoteError) = some true)
    (e_NotPossible_InvalidOrder : PySem.W.kitOne K (.ref C_NotPossible) (.ref C_InvalidOrder) = some false)
    (e_NotPossible_InvalidWorks : PySem.W.kitOne K (.ref C_NotPossible) (.ref C_InvalidWorks) = some false)
    (e_NotPossible_InvalidRow : PySem.W.kitOne K (.ref C_NotPossible) (.ref C_InvalidRow) = some false)
    (e_NotPossible_InvalidStretch : PySem.W.kitOne K (.ref C_NotPossible) (.ref C_InvalidStretch) = some false)
    (e_NotPossible_InvalidIndex : PySem.W.kitOne K (.ref C_NotPossible) (.ref C_InvalidIndex) = some false)
    (e_NotPossible_InvalidNumber : PySem.W.kitOne K (.ref C_NotPossible) (.ref C_InvalidNumber) = some false)
    (e_NotPossible_NotRight : PySem.W.kitOne K (.ref C_NotPossible) (.ref C_NotRight) = some false)
    (e_NotPossible_InvalidPattern : PySem.W.kitOne K (.ref C_NotPossible) (.ref C_InvalidPattern) = some false)
    (e_NotPossible_InvalidSign : PySem.W.kitOne K (.ref C_NotPossible) (.ref C_InvalidSign) = some false)
    (e_NotPossible_NothingToUndo : PySem.W.kitOne K (.ref C_NotPossible) (.ref C_NothingToUndo) = some false)
    (e_NotPossible_NotPossible : PySem.W.kitOne K (.ref C_NotPossible) (.ref C_NotPossible) = some true)
    (e_NotPossible_ValueError : PySem.W.kitOne K (.ref C_NotPossible) (.type "ValueError") = some true)
    {cL_law PL_law : Addr} {ocL_law : Value} {odL_law : Option Addr} {vsL_law : Array Value} {slL_law : Array (Option Value)} (tc_law : cd57 = .ref cL_law) (tl_law : K.lookup cL_law = some ⟨ocL_law, odL_law, .fields vsL_law, slL_law⟩) (tv_law : vsL_law[11]? = some (.ref PL_law))
    (tu : tbU K = true)
    : ∃ fd : FuncData, (∀ (s : Shared) (v : Value), BindsTo s fd ⟨[v], []⟩ [("_law_script", v)]) ∧ ∀ base : Heap, K.In base → base.Ns mainGlobals mg → (∀ p ∈ csK K, LamX.TabB base mg p.1 p.2) → FnOk l.prog w K mg base (L2N.CX l.prog w) 13 fa fd ["_law_script"] (spG ⟨l.prog, w, K, mg⟩ 1 F_law) := by
  have e := hfa.symm.trans (PySem.W.mg_of X G a57)
  cases e
  have F1 := fun_mk (st := s_is_from) l1 c1 k1
  have m1 := PySem.W.mg_of X G a1
  have F2 := fun_mk (st := s_is_sign) l2 c2 k2
  have m2 := PySem.W.mg_of X G a2
  have F3 := fun_mk (st := s_is_row) l3 c3 k3
  have m3 := PySem.W.mg_of X G a3
  have F4 := fun_mk (st := s_works_of) l4 c4 k4
  have m4 := PySem.W.mg_of X G a4
  have F5 := fun_mk (st := s_faults) l5 c5 k5
  have m5 := PySem.W.mg_of X G a5
  have F6 := fun_mk (st := s_need_row) l6 c6 k6
  have m6 := PySem.W.mg_of X G a6
  have F7 := fun_mk (st := s_need_right) l7 c7 k7
  have m7 := PySem.W.mg_of X G a7
  have F8 := fun_mk (st := s_first_wrong) l8 c8 k8
  have m8 := PySem.W.mg_of X G a8
  have F9 := fun_mk (st := s_is_right) l9 c9 k9
  have m9 := PySem.W.mg_of X G a9
  have F10 := fun_mk (st := s_read) l10 c10 k10
  have m10 := PySem.W.mg_of X G a10
  have F11 := fun_mk (st := s_is_works) l11 c11 k11
  have m11 := PySem.W.mg_of X G a11
  have F12 := fun_mk (st := s_need_works) l12 c12 k12
  have m12 := PySem.W.mg_of X G a12
  have F13 := fun_mk (st := s_shortest_of) l13 c13 k13
  have m13 := PySem.W.mg_of X G a13
  have F14 := fun_mk (st := s_shortest) l14 c14 k14
  have m14 := PySem.W.mg_of X G a14
  have F15 := fun_mk (st := s_count_writings) l15 c15 k15
  have m15 := PySem.W.mg_of X G a15
  have F16 := fun_mk (st := s_count_rows) l16 c16 k16
  have m16 := PySem.W.mg_of X G a16
  have F17 := fun_mk (st := s_factorial) l17 c17 k17
  have m17 := PySem.W.mg_of X G a17
  have F18 := fun_mk (st := s_ways) l18 c18 k18
  have m18 := PySem.W.mg_of X G a18
  have F19 := fun_mk (st := s_moved) l19 c19 k19
  have m19 := PySem.W.mg_of X G a19
  have F20 := fun_mk (st := s_good_order) l20 c20 k20
  have m20 := PySem.W.mg_of X G a20
  have F21 := fun_mk (st := s_same_meaning) l21 c21 k21
  have m21 := PySem.W.mg_of X G a21
  have F22 := fun_mk (st := s_keeps) l22 c22 k22
  have m22 := PySem.W.mg_of X G a22
  have F23 := fun_mk (st := s_count_orders) l23 c23 k23
  have m23 := PySem.W.mg_of X G a23
  have F24 := fun_mk (st := s_can_come) l24 c24 k24
  have m24 := PySem.W.mg_of X G a24
  have F25 := fun_mk (st := s_order_at) l25 c25 k25
  have m25 := PySem.W.mg_of X G a25
  have F26 := fun_mk (st := s_number_of) l26 c26 k26
  have m26 := PySem.W.mg_of X G a26
  have F27 := fun_mk (st := s_need_index) l27 c27 k27
  have m27 := PySem.W.mg_of X G a27
  have F28 := fun_mk (st := s_harmed_by) l28 c28 k28
  have m28 := PySem.W.mg_of X G a28
  have F29 := fun_mk (st := s_harmed) l29 c29 k29
  have m29 := PySem.W.mg_of X G a29
  have F30 := fun_mk (st := s_needless) l30 c30 k30
  have m30 := PySem.W.mg_of X G a30
  have F31 := fun_mk (st := s_need_stretch) l31 c31 k31
  have m31 := PySem.W.mg_of X G a31
  have F32 := fun_mk (st := s_order_of) l32 c32 k32
  have m32 := PySem.W.mg_of X G a32
  have F33 := fun_mk (st := s_goals) l33 c33 k33
  have m33 := PySem.W.mg_of X G a33
  have F34 := fun_mk (st := s_mended) l34 c34 k34
  have m34 := PySem.W.mg_of X G a34
  have F35 := fun_mk (st := s_in_order) l35 c35 k35
  have m35 := PySem.W.mg_of X G a35
  have F36 := fun_mk (st := s_need_order) l36 c36 k36
  have m36 := PySem.W.mg_of X G a36
  have F37 := fun_mk (st := s_fewest_rewritten) l37 c37 k37
  have m37 := PySem.W.mg_of X G a37
  have F38 := fun_mk (st := s_rewritten) l38 c38 k38
  have m38 := PySem.W.mg_of X G a38
  have F39 := fun_mk (st := s_need_size) l39 c39 k39
  have m39 := PySem.W.mg_of X G a39
  have F40 := fun_mk (st := s_page_counts) l40 c40 k40
  have m40 := PySem.W.mg_of X G a40
  have F41 := fun_mk (st := s_count_pages) l41 c41 k41
  have m41 := PySem.W.mg_of X G a41
  have F42 := fun_mk (st := s_page_starts) l42 c42 k42
  have m42 := PySem.W.mg_of X G a42
  have F43 := fun_mk (st := s_is_pattern) l43 c43 k43
  have m43 := PySem.W.mg_of X G a43
  have F44 := fun_mk (st := s_need_pattern) l44 c44 k44
  have m44 := PySem.W.mg_of X G a44
  have F45 := fun_mk (st := s_signs_for) l45 c45 k45
  have m45 := PySem.W.mg_of X G a45
  have F46 := fun_mk (st := s_step) l46 c46 k46
  have m46 := PySem.W.mg_of X G a46
  have F47 := fun_mk (st := s_forward) l47 c47 k47
  have m47 := PySem.W.mg_of X G a47
  have F48 := fun_mk (st := s_backward) l48 c48 k48
  have m48 := PySem.W.mg_of X G a48
  have F49 := fun_mk (st := s_count_matches) l49 c49 k49
  have m49 := PySem.W.mg_of X G a49
  have F50 := fun_mk (st := s_meanings) l50 c50 k50
  have m50 := PySem.W.mg_of X G a50
  have F51 := fun_mk (st := s__law_deck) l51 c51 k51
  have m51 := PySem.W.mg_of X G a51
  have F52 := fun_mk (st := s__law_pick) l52 c52 k52
  have m52 := PySem.W.mg_of X G a52
  have F53 := fun_mk (st := s__law_name_of) l53 c53 k53
  have m53 := PySem.W.mg_of X G a53
  have F54 := fun_mk (st := s__law_try) l54 c54 k54
  have m54 := PySem.W.mg_of X G a54
  have F55 := fun_mk (st := s__law_for) l55 c55 k55
  have m55 := PySem.W.mg_of X G a55
  have F56 := fun_mk (st := s__law_pair_right) l56 c56 k56
  have m56 := PySem.W.mg_of X G a56
  have F57 := fun_mk (st := s_law) l57 c57 k57
  have m57 := PySem.W.mg_of X G a57
  have y_ValueError := PySem.W.mg_none_of X G z_ValueError
  have y_all := PySem.W.mg_none_of X G z_all
  have y_bool := PySem.W.mg_none_of X G z_bool
  have y_enumerate := PySem.W.mg_none_of X G z_enumerate
  have y_int := PySem.W.mg_none_of X G z_int
  have y_isinstance := PySem.W.mg_none_of X G z_isinstance
  have y_len := PySem.W.mg_none_of X G z_len
  have y_list := PySem.W.mg_none_of X G z_list
  have y_max := PySem.W.mg_none_of X G z_max
  have y_min := PySem.W.mg_none_of X G z_min
  have y_range := PySem.W.mg_none_of X G z_range
  have y_set := PySem.W.mg_none_of X G z_set
  have y_sorted := PySem.W.mg_none_of X G z_sorted
  have y_str := PySem.W.mg_none_of X G z_str
  have y_sum := PySem.W.mg_none_of X G z_sum
  have y_tuple := PySem.W.mg_none_of X G z_tuple
  have y_zip := PySem.W.mg_none_of X G z_zip
  have m_LETTERS := PySem.W.mg_of X G n_LETTERS
  have m_MOST_NOTES := PySem.W.mg_of X G n_MOST_NOTES
  have m_InvalidOrder := PySem.W.mg_of X G n_InvalidOrder
  have m_InvalidWorks := PySem.W.mg_of X G n_InvalidWorks
  have m_InvalidRow := PySem.W.mg_of X G n_InvalidRow
  have m_InvalidStretch := PySem.W.mg_of X G n_InvalidStretch
  have m_InvalidIndex := PySem.W.mg_of X G n_InvalidIndex
  have m_InvalidNumber := PySem.W.mg_of X G n_InvalidNumber
  have m_NotRight := PySem.W.mg_of X G n_NotRight
  have m_InvalidPattern := PySem.W.mg_of X G n_InvalidPattern
  have m_InvalidSign := PySem.W.mg_of X G n_InvalidSign
  have m_NothingToUndo := PySem.W.mg_of X G n_NothingToUndo
  have m_NotPossible := PySem.W.mg_of X G n_NotPossible
  have m_NoteError := PySem.W.mg_of X G n_NoteError
  have r_NotPossible : ClsR K mg "NotPossible" C_NotPossible := ⟨q_NotPossible, m_NotPossible, kk_NotPossible, s_NotPossible, t_NotPossible⟩
  refine ⟨PySem.W.fnOf "law" "law" (defArgs s_law) (defBody s_law) (defScope s_law) .none kV57 dc57 pm57 an57 cd57 ct57, fun s v => .of_eq rfl, fun base _ _ TB => ?_⟩
  have B_try := tryf_mk (P := l.prog) (w := w) (base := base) F54 m54 F53 m53 m_NoteError y_ValueError y_isinstance y_zip m_InvalidOrder m_InvalidWorks m_InvalidRow m_InvalidStretch m_InvalidIndex m_InvalidNumber m_NotRight m_InvalidPattern m_InvalidSign m_NothingToUndo m_NotPossible x_NotPossible y_NotPossible e_NotPossible_InvalidOrder e_NotPossible_InvalidWorks e_NotPossible_InvalidRow e_NotPossible_InvalidStretch e_NotPossible_InvalidIndex e_NotPossible_InvalidNumber e_NotPossible_NotRight e_NotPossible_InvalidPattern e_NotPossible_InvalidSign e_NotPossible_NothingToUndo e_NotPossible_NotPossible e_NotPossible_ValueError
  have C_is_from := cal_is_from (P := l.prog) (w := w) (base := base) F1 m1 y_bool y_int y_isinstance
  have C_is_sign := cal_is_sign (P := l.prog) (w := w) (base := base) F2 m2 y_isinstance y_len y_str m_LETTERS r_LETTERS
  have C_is_row := cal_is_row (P := l.prog) (w := w) (base := base) F3 m3 y_all y_isinstance y_len y_str m_MOST_NOTES r_MOST_NOTES C_is_sign
  have C_works_of := cal_works_of (P := l.prog) (w := w) (base := base) F4 m4
  have C_faults := cal_faults (P := l.prog) (w := w) (base := base) F5 m5 y_enumerate y_len y_range C_works_of
  have C_need_row := cal_need_row (P := l.prog) (w := w) (base := base) F6 m6 C_is_row
  have C_need_right := cal_need_right (P := l.prog) (w := w) (base := base) F7 m7 C_is_row C_faults
  have C_first_wrong := cal_first_wrong (P := l.prog) (w := w) (base := base) F8 m8 C_need_row C_faults
  have C_is_right := cal_is_right (P := l.prog) (w := w) (base := base) F9 m9 C_need_row C_faults
  have C_read := cal_read (P := l.prog) (w := w) (base := base) F10 m10 C_need_right C_works_of
  have C_is_works := cal_is_works (P := l.prog) (w := w) (base := base) F11 m11 y_all y_isinstance y_len y_str m_LETTERS r_LETTERS m_MOST_NOTES r_MOST_NOTES
  have C_need_works := cal_need_works (P := l.prog) (w := w) (base := base) F12 m12 C_is_works
  have C_shortest_of := cal_shortest_of (P := l.prog) (w := w) (base := base) F13 m13 y_enumerate
  have C_shortest := cal_shortest (P := l.prog) (w := w) (base := base) F14 m14 C_need_works C_shortest_of
  have C_count_writings := cal_count_writings (P := l.prog) (w := w) (base := base) F15 m15 y_enumerate C_need_works
  have C_count_rows := cal_count_rows (P := l.prog) (w := w) (base := base) F16 m16 y_int y_len y_range y_sorted y_sum m_LETTERS r_LETTERS m_MOST_NOTES r_MOST_NOTES C_is_from
  have C_factorial := cal_factorial (P := l.prog) (w := w) (base := base) F17 m17 y_range
  have C_ways := cal_ways (P := l.prog) (w := w) (base := base) F18 m18 y_int y_len y_range y_set y_sorted C_factorial
  have C_moved := cal_moved (P := l.prog) (w := w) (base := base) F19 m19
  have C_good_order := cal_good_order (P := l.prog) (w := w) (base := base) F20 m20 y_all y_isinstance y_len y_list y_range y_sorted y_tuple C_is_from
  have C_same_meaning := cal_same_meaning (P := l.prog) (w := w) (base := base) F21 m21 C_moved C_works_of C_faults
  have C_keeps := cal_keeps (P := l.prog) (w := w) (base := base) F22 m22 C_need_right C_good_order C_same_meaning
  have C_count_orders := cal_count_orders (P := l.prog) (w := w) (base := base) F23 m23 y_len y_list y_range C_need_right C_ways C_works_of
  have C_can_come := cal_can_come (P := l.prog) (w := w) (base := base) F24 m24 y_len y_range
  have C_order_at := cal_order_at (P := l.prog) (w := w) (base := base) F25 m25 y_len y_list y_range y_tuple C_need_right C_works_of C_is_from C_ways C_can_come
  have C_number_of := cal_number_of (P := l.prog) (w := w) (base := base) F26 m26 y_len y_list y_range C_need_right C_good_order C_same_meaning C_works_of C_can_come C_ways
  have C_need_index := cal_need_index (P := l.prog) (w := w) (base := base) F27 m27 y_len C_is_from
  have C_harmed_by := cal_harmed_by (P := l.prog) (w := w) (base := base) F28 m28 y_enumerate y_len y_range C_works_of C_faults
  have C_harmed := cal_harmed (P := l.prog) (w := w) (base := base) F29 m29 C_need_right C_need_index C_harmed_by
  have C_needless := cal_needless (P := l.prog) (w := w) (base := base) F30 m30 y_len y_range C_need_right C_harmed_by
  have C_need_stretch := cal_need_stretch (P := l.prog) (w := w) (base := base) F31 m31 y_len C_is_from
  have C_order_of := cal_order_of (P := l.prog) (w := w) (base := base) F32 m32 y_len y_list y_range y_tuple
  have C_goals := cal_goals (P := l.prog) (w := w) (base := base) F33 m33 y_len y_list y_range C_need_right C_need_stretch C_same_meaning C_order_of
  have C_mended := cal_mended (P := l.prog) (w := w) (base := base) F34 m34 y_enumerate y_int
  have C_in_order := cal_in_order (P := l.prog) (w := w) (base := base) F35 m35 C_works_of C_moved
  have C_need_order := cal_need_order (P := l.prog) (w := w) (base := base) F36 m36 C_need_right C_good_order
  have C_fewest_rewritten := cal_fewest_rewritten (P := l.prog) (w := w) (base := base) F37 m37 C_need_order C_in_order C_mended
  have C_rewritten := cal_rewritten (P := l.prog) (w := w) (base := base) F38 m38 C_need_order C_in_order C_mended
  have C_need_size := cal_need_size (P := l.prog) (w := w) (base := base) F39 m39 m_MOST_NOTES r_MOST_NOTES C_need_right C_is_from
  have C_page_counts := cal_page_counts (P := l.prog) (w := w) (base := base) F40 m40 y_len y_min y_range
  have C_count_pages := cal_count_pages (P := l.prog) (w := w) (base := base) F41 m41 C_need_size C_page_counts
  have C_page_starts := cal_page_starts (P := l.prog) (w := w) (base := base) F42 m42 y_len y_list y_max y_min y_range r_NotPossible C_need_size C_page_counts
  have C_is_pattern := cal_is_pattern (P := l.prog) (w := w) (base := base) F43 m43 y_all y_isinstance y_len y_str C_is_sign
  have C_need_pattern := cal_need_pattern (P := l.prog) (w := w) (base := base) F44 m44 y_all y_isinstance y_len y_str y_zip m_LETTERS r_LETTERS C_is_pattern
  have C_signs_for := cal_signs_for (P := l.prog) (w := w) (base := base) F45 m45 y_list
  have C_step := cal_step (P := l.prog) (w := w) (base := base) F46 m46 y_set y_sorted
  have C_forward := cal_forward (P := l.prog) (w := w) (base := base) F47 m47 y_sorted C_signs_for C_step
  have C_backward := cal_backward (P := l.prog) (w := w) (base := base) F48 m48 y_len y_range y_sum C_signs_for C_step
  have C_count_matches := cal_count_matches (P := l.prog) (w := w) (base := base) F49 m49 y_sorted y_sum C_need_pattern C_forward
  have C_meanings := cal_meanings (P := l.prog) (w := w) (base := base) F50 m50 y_len y_set y_sorted C_need_pattern C_is_from C_forward C_backward
  have C__law_deck := cal__law_deck (P := l.prog) (w := w) (base := base) F51 m51
  have C__law_pick := cal__law_pick (P := l.prog) (w := w) (base := base) F52 m52
  have C__law_for := cal__law_for (P := l.prog) (w := w) (base := base) F55 m55
  have C__law_pair_right := cal__law_pair_right (P := l.prog) (w := w) (base := base) F56 m56 y_sorted C__law_for C_read C_shortest C_count_writings C_count_orders C_needless C_harmed C_goals C_fewest_rewritten C_rewritten C_count_pages C_page_starts C_count_matches C_meanings
  exact fnok_law (P := l.prog) (w := w) (base := base) F57 m57 tc_law (TB _ (cs_mem (by decide) (tab_mk a57 l57 tc_law tl_law tv_law))) (tb_mem (by decide) (tab_mk a57 l57 tc_law tl_law tv_law)) tu B_try C__law_pick C__law_deck C__law_pair_right C_first_wrong C_is_right C_order_at C_page_starts C_count_rows C_number_of C_count_orders C_keeps
end Ib

open PySem PySem.W PyProof.Rows in
set_option maxRecDepth 100000 in
set_option maxHeartbeats 0 in
theorem PySem.Challenge.cw_ibidnotes_k18_whole_written_notes_holds : PySem.Challenge.rw_ibidnotes_k18_whole_written_notes.Holds := by
  w_on; o_law; k_head; (case hw => w_witness2)
  k_fill
  refine Ib.walk_T (l := PySem.Challenge.rw_ibidnotes_k18_whole_written_notes) (n := 63) (k := 13) (x := "_law_script") (CX := fun w => L2N.CX PySem.Challenge.rw_ibidnotes_k18_whole_written_notes.prog w) rfl (by decide) rfl ⟨rfl, by decide, by decide⟩ (fun w h Y => PySem.W.km_in_of Y) ?F (fun _ _ _ _ _ => Ib.cx_no)
  case F =>
    intro w s0 mg mb fa h KX T hmg
    refine Ib.law_at T KX ?hN ?hR (fun ns h => Ib.f_law ns h) ?hA
    case hN => kernel_rfl
    case hR => exact by decide +kernel
    case hA =>
      refine' Ib.all_mk KX T.g hmg ?a1 ?l1 ?c1 ?k1 ?a2 ?l2 ?c2 ?k2 ?a3 ?l3 ?c3 ?k3 ?a4 ?l4 ?c4 ?k4 ?a5 ?l5 ?c5 ?k5 ?a6 ?l6 ?c6 ?k6 ?a7 ?l7 ?c7 ?k7 ?a8 ?l8 ?c8 ?k8 ?a9 ?l9 ?c9 ?k9 ?a10 ?l10 ?c10 ?k10 ?a11 ?l11 ?c11 ?k11 ?a12 ?l12 ?c12 ?k12 ?a13 ?l13 ?c13 ?k13 ?a14 ?l14 ?c14 ?k14 ?a15 ?l15 ?c15 ?k15 ?a16 ?l16 ?c16 ?k16 ?a17 ?l17 ?c17 ?k17 ?a18 ?l18 ?c18 ?k18 ?a19 ?l19 ?c19 ?k19 ?a20 ?l20 ?c20 ?k20 ?a21 ?l21 ?c21 ?k21 ?a22 ?l22 ?c22 ?k22 ?a23 ?l23 ?c23 ?k23 ?a24 ?l24 ?c24 ?k24 ?a25 ?l25 ?c25 ?k25 ?a26 ?l26 ?c26 ?k26 ?a27 ?l27 ?c27 ?k27 ?a28 ?l28 ?c28 ?k28 ?a29 ?l29 ?c29 ?k29 ?a30 ?l30 ?c30 ?k30 ?a31 ?l31 ?c31 ?k31 ?a32 ?l32 ?c32 ?k32 ?a33 ?l33 ?c33 ?k33 ?a34 ?l34 ?c34 ?k34 ?a35 ?l35 ?c35 ?k35 ?a36 ?l36 ?c36 ?k36 ?a37 ?l37 ?c37 ?k37 ?a38 ?l38 ?c38 ?k38 ?a39 ?l39 ?c39 ?k39 ?a40 ?l40 ?c40 ?k40 ?a41 ?l41 ?c41 ?k41 ?a42 ?l42 ?c42 ?k42 ?a43 ?l43 ?c43 ?k43 ?a44 ?l44 ?c44 ?k44 ?a45 ?l45 ?c45 ?k45 ?a46 ?l46 ?c46 ?k46 ?a47 ?l47 ?c47 ?k47 ?a48 ?l48 ?c48 ?k48 ?a49 ?l49 ?c49 ?k49 ?a50 ?l50 ?c50 ?k50 ?a51 ?l51 ?c51 ?k51 ?a52 ?l52 ?c52 ?k52 ?a53 ?l53 ?c53 ?k53 ?a54 ?l54 ?c54 ?k54 ?a55 ?l55 ?c55 ?k55 ?a56 ?l56 ?c56 ?k56 ?a57 ?l57 ?c57 ?k57 ?z_ValueError ?z_all ?z_bool ?z_enumerate ?z_int ?z_isinstance ?z_len ?z_list ?z_max ?z_min ?z_range ?z_set ?z_sorted ?z_str ?z_sum ?z_tuple ?z_zip ?n_LETTERS ?r_LETTERS ?n_MOST_NOTES ?r_MOST_NOTES ?n_InvalidOrder ?n_InvalidWorks ?n_InvalidRow ?n_InvalidStretch ?n_InvalidIndex ?n_InvalidNumber ?n_NotRight ?n_InvalidPattern ?n_InvalidSign ?n_NothingToUndo ?n_NotPossible ?n_NoteError ?q_NotPossible ?kk_NotPossible ?s_NotPossible ?t_NotPossible ?x_NotPossible ?y_NotPossible ?e_NotPossible_InvalidOrder ?e_NotPossible_InvalidWorks ?e_NotPossible_InvalidRow ?e_NotPossible_InvalidStretch ?e_NotPossible_InvalidIndex ?e_NotPossible_InvalidNumber ?e_NotPossible_NotRight ?e_NotPossible_InvalidPattern ?e_NotPossible_InvalidSign ?e_NotPossible_NothingToUndo ?e_NotPossible_NotPossible ?e_NotPossible_ValueError ?tc_law ?tl_law ?tv_law ?tu
      (case a1 => k_is)
      (case l1 => k_is)
      (case c1 => k_is)
      (case k1 => k_is)
      (case a2 => k_is)
      (case l2 => k_is)
      (case c2 => k_is)
      (case k2 => k_is)
      (case a3 => k_is)
      (case l3 => k_is)
      (case c3 => k_is)
      (case k3 => k_is)
      (case a4 => k_is)
      (case l4 => k_is)
      (case c4 => k_is)
      (case k4 => k_is)
      (case a5 => k_is)
      (case l5 => k_is)
      (case c5 => k_is)
      (case k5 => k_is)
      (case a6 => k_is)
      (case l6 => k_is)
      (case c6 => k_is)
      (case k6 => k_is)
      (case a7 => k_is)
      (case l7 => k_is)
      (case c7 => k_is)
      (case k7 => k_is)
      (case a8 => k_is)
      (case l8 => k_is)
      (case c8 => k_is)
      (case k8 => k_is)
      (case a9 => k_is)
      (case l9 => k_is)
      (case c9 => k_is)
      (case k9 => k_is)
      (case a10 => k_is)
      (case l10 => k_is)
      (case c10 => k_is)
      (case k10 => k_is)
      (case a11 => k_is)
      (case l11 => k_is)
      (case c11 => k_is)
      (case k11 => k_is)
      (case a12 => k_is)
      (case l12 => k_is)
      (case c12 => k_is)
      (case k12 => k_is)
      (case a13 => k_is)
      (case l13 => k_is)
      (case c13 => k_is)
      (case k13 => k_is)
      (case a14 => k_is)
      (case l14 => k_is)
      (case c14 => k_is)
      (case k14 => k_is)
      (case a15 => k_is)
      (case l15 => k_is)
      (case c15 => k_is)
      (case k15 => k_is)
      (case a16 => k_is)
      (case l16 => k_is)
      (case c16 => k_is)
      (case k16 => k_is)
      (case a17 => k_is)
      (case l17 => k_is)
      (case c17 => k_is)
      (case k17 => k_is)
      (case a18 => k_is)
      (case l18 => k_is)
      (case c18 => k_is)
      (case k18 => k_is)
      (case a19 => k_is)
      (case l19 => k_is)
      (case c19 => k_is)
      (case k19 => k_is)
      (case a20 => k_is)
      (case l20 => k_is)
      (case c20 => k_is)
      (case k20 => k_is)
      (case a21 => k_is)
      (case l21 => k_is)
      (case c21 => k_is)
      (case k21 => k_is)
      (case a22 => k_is)
      (case l22 => k_is)
      (case c22 => k_is)
      (case k22 => k_is)
      (case a23 => k_is)
      (case l23 => k_is)
      (case c23 => k_is)
      (case k23 => k_is)
      (case a24 => k_is)
      (case l24 => k_is)
      (case c24 => k_is)
      (case k24 => k_is)
      (case a25 => k_is)
      (case l25 => k_is)
      (case c25 => k_is)
      (case k25 => k_is)
      (case a26 => k_is)
      (case l26 => k_is)
      (case c26 => k_is)
      (case k26 => k_is)
      (case a27 => k_is)
      (case l27 => k_is)
      (case c27 => k_is)
      (case k27 => k_is)
      (case a28 => k_is)
      (case l28 => k_is)
      (case c28 => k_is)
      (case k28 => k_is)
      (case a29 => k_is)
      (case l29 => k_is)
      (case c29 => k_is)
      (case k29 => k_is)
      (case a30 => k_is)
      (case l30 => k_is)
      (case c30 => k_is)
      (case k30 => k_is)
      (case a31 => k_is)
      (case l31 => k_is)
      (case c31 => k_is)
      (case k31 => k_is)
      (case a32 => k_is)
      (case l32 => k_is)
      (case c32 => k_is)
      (case k32 => k_is)
      (case a33 => k_is)
      (case l33 => k_is)
      (case c33 => k_is)
      (case k33 => k_is)
      (case a34 => k_is)
      (case l34 => k_is)
      (case c34 => k_is)
      (case k34 => k_is)
      (case a35 => k_is)
      (case l35 => k_is)
      (case c35 => k_is)
      (case k35 => k_is)
      (case a36 => k_is)
      (case l36 => k_is)
      (case c36 => k_is)
      (case k36 => k_is)
      (case a37 => k_is)
      (case l37 => k_is)
      (case c37 => k_is)
      (case k37 => k_is)
      (case a38 => k_is)
      (case l38 => k_is)
      (case c38 => k_is)
      (case k38 => k_is)
      (case a39 => k_is)
      (case l39 => k_is)
      (case c39 => k_is)
      (case k39 => k_is)
      (case a40 => k_is)
      (case l40 => k_is)
      (case c40 => k_is)
      (case k40 => k_is)
      (case a41 => k_is)
      (case l41 => k_is)
      (case c41 => k_is)
      (case k41 => k_is)
      (case a42 => k_is)
      (case l42 => k_is)
      (case c42 => k_is)
      (case k42 => k_is)
      (case a43 => k_is)
      (case l43 => k_is)
      (case c43 => k_is)
      (case k43 => k_is)
      (case a44 => k_is)
      (case l44 => k_is)
      (case c44 => k_is)
      (case k44 => k_is)
      (case a45 => k_is)
      (case l45 => k_is)
      (case c45 => k_is)
      (case k45 => k_is)
      (case a46 => k_is)
      (case l46 => k_is)
      (case c46 => k_is)
      (case k46 => k_is)
      (case a47 => k_is)
      (case l47 => k_is)
      (case c47 => k_is)
      (case k47 => k_is)
      (case a48 => k_is)
      (case l48 => k_is)
      (case c48 => k_is)
      (case k48 => k_is)
      (case a49 => k_is)
      (case l49 => k_is)
      (case c49 => k_is)
      (case k49 => k_is)
      (case a50 => k_is)
      (case l50 => k_is)
      (case c50 => k_is)
      (case k50 => k_is)
      (case a51 => k_is)
      (case l51 => k_is)
      (case c51 => k_is)
      (case k51 => k_is)
      (case a52 => k_is)
      (case l52 => k_is)
      (case c52 => k_is)
      (case k52 => k_is)
      (case a53 => k_is)
      (case l53 => k_is)
      (case c53 => k_is)
      (case k53 => k_is)
      (case a54 => k_is)
      (case l54 => k_is)
      (case c54 => k_is)
      (case k54 => k_is)
      (case a55 => k_is)
      (case l55 => k_is)
      (case c55 => k_is)
      (case k55 => k_is)
      (case a56 => k_is)
      (case l56 => k_is)
      (case c56 => k_is)
      (case k56 => k_is)
      (case a57 => k_is)
      (case l57 => k_is)
      (case c57 => k_is)
      (case k57 => k_is)
      (case z_ValueError => k_is)
      (case z_all => k_is)
      (case z_bool => k_is)
      (case z_enumerate => k_is)
      (case z_int => k_is)
      (case z_isinstance => k_is)
      (case z_len => k_is)
      (case z_list => k_is)
      (case z_max => k_is)
      (case z_min => k_is)
      (case z_range => k_is)
      (case z_set => k_is)
      (case z_sorted => k_is)
      (case z_str => k_is)
      (case z_sum => k_is)
      (case z_tuple => k_is)
      (case z_zip => k_is)
      (case n_LETTERS => k_is)
      (case r_LETTERS => exact ⟨_, rfl⟩)
      (case n_MOST_NOTES => k_is)
      (case r_MOST_NOTES => exact ⟨_, rfl⟩)
      (case n_InvalidOrder => k_is)
      (case n_InvalidWorks => k_is)
      (case n_InvalidRow => k_is)
      (case n_InvalidStretch => k_is)
      (case n_InvalidIndex => k_is)
      (case n_InvalidNumber => k_is)
      (case n_NotRight => k_is)
      (case n_InvalidPattern => k_is)
      (case n_InvalidSign => k_is)
      (case n_NothingToUndo => k_is)
      (case n_NotPossible => k_is)
      (case n_NoteError => k_is)
      (case q_NotPossible => kernel_rfl)
      (case kk_NotPossible => k_is)
      (case s_NotPossible => k_is)
      (case t_NotPossible => k_is)
      (case x_NotPossible => (refine' ⟨?a1, ?a2, ?a3, ?a4, ?a5, ?a6, ?a7, ?a8⟩; (case a1 => k_is); (case a2 => k_is); (case a3 => k_is); (case a4 => k_is); (case a5 => k_is); (case a6 => k_is); (case a7 => k_is); (case a8 => k_is)))
      (case y_NotPossible => kernel_rfl)
      (case e_NotPossible_InvalidOrder => kernel_rfl)
      (case e_NotPossible_InvalidWorks => kernel_rfl)
      (case e_NotPossible_InvalidRow => kernel_rfl)
      (case e_NotPossible_InvalidStretch => kernel_rfl)
      (case e_NotPossible_InvalidIndex => kernel_rfl)
      (case e_NotPossible_InvalidNumber => kernel_rfl)
      (case e_NotPossible_NotRight => kernel_rfl)
      (case e_NotPossible_InvalidPattern => kernel_rfl)
      (case e_NotPossible_InvalidSign => kernel_rfl)
      (case e_NotPossible_NothingToUndo => kernel_rfl)
      (case e_NotPossible_NotPossible => kernel_rfl)
      (case e_NotPossible_ValueError => kernel_rfl)
      (case tc_law => rfl)
      (case tl_law => k_is)
      (case tv_law => rfl)
      (case tu => kernel_rfl)

