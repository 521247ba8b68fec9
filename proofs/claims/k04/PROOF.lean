import PyProof.Rows.All
import PySem.Challenge.RW_depthmarks_k04_whole_events_and_back
import HandS.Set
import HandS.More
import HandS.SetFor
import HandS.Strs
import HandS.ForMost
import HandS.ForExc
import HandS.Slots
import KE.KeyNested
import HandS.Lambda
import HandS.IsInst
import HandS.Flow
import HandS.TupAny
import HandS.TupMul
import HandS.Wide
import HandS.Style
import HandS.TupLe
import PyProof.CallFns
import PyProof.ReprRoads
import HandS.TryMany
import HandS.ExcField
import HandS.ExcOwn
import HandS.Defaults
import HandS.SlotsOwn
import HandS.ClsMeth
import PyProof.ExcBaseAll.ValueError
import KE.GoesEnum
import HandS.Zip
import HandS.CallSlots
import HandS.CallLocal
import HandS.Star
import HandS.EndTab
import HandS.HeadWalk
import HandS.NestedK
import HandS.HeadHook4
import HandS.Head0
import HandS.Head1
import HandS.Head2
import HandS.HeadEnd
import HandS.HeadHook1
import HandS.HeadHook2
import HandS.HeadNt
section
set_option Elab.async false
set_option linter.all false
set_option maxRecDepth 100000
set_option maxHeartbeats 2000000
/-! ZedS: sets of texts. -/
namespace Zed
open PySem PySem.Spec PyProof.Rows L2
/-- the text of an entry -/
def txT (e : Int × Value) : Str := match e.2 with
  | .str k _ => k
  | _ => Str.empty
def TxE (w : World) (e : Int × Value) : Prop := ∃ k tk, e.2 = Value.str k tk ∧ e.1 = hashStr w k
/-- a set of texts: ks in the order of its table -/
structure TxD (w : World) (es : Array (Int × Value)) (t : SetTable) (ks : List Str) : Prop where
  ent : ∀ e ∈ es.toList, TxE w e
  key : es.toList.map txT = ks
  nod : ks.Nodup
  few : es.size < scanBound
  fit : t.fits es.size = true
  ris : Ris t.place.toList
  led : w.params.followText "set-order" = true ∨ t.led = true
def TxS (w : World) (h : Heap) (a : Addr) (ks : List Str) : Prop :=
  ∃ o es ep t, h.get? a = some o ∧ o.ExactSet ∧ o.data = .set es ep t ∧ TxD w es t ks
section
variable {P : Program} {w : World} {h h' : Heap} {a : Addr} {ks : List Str}
theorem TxS.at (T : TxS w h a ks) (q : ∀ o, h.get? a = some o → h'.get? a = some o) : TxS w h' a ks := by
  obtain ⟨o, es, ep, t, h1, h2⟩ := T
  exact ⟨o, es, ep, t, q o h1, h2⟩
theorem TxD.len {es : Array (Int × Value)} {t : SetTable} (T : TxD w es t ks) : es.size = ks.length := by
  rw [← T.key, List.length_map, Array.length_toList]
theorem txE_is {e : Int × Value} (g : TxE w e) (k : Str) : (strKind P w).is k e.2 = true ↔ txT e = k := by
  obtain ⟨k0, tk, h1, _⟩ := g
  unfold txT
  rw [h1]
  constructor
  · intro z
    obtain ⟨t, z⟩ := Value.isStrOf_shape (show Value.isStrOf k (.str k0 tk) = true from z)
    cases z; rfl
  · intro z
    cases z
    exact strKind_is P w _ _
theorem txE_el {l : List (Int × Value)} (g : ∀ e ∈ l, TxE w e) : ElemsOf (strKind P w) l := fun e he => by
  obtain ⟨k, tk, h1, h2⟩ := g e he
  refine ⟨⟨k, ?_, h2⟩, ?_⟩
  · rw [h1]; exact strKind_is P w k tk
  · rw [h1]; rfl
theorem txE_mem {l : List (Int × Value)} (g : ∀ e ∈ l, TxE w e) (k : Str) : k ∈ l.map txT ↔ ∃ e ∈ l, (strKind P w).is k e.2 = true := by
  refine ⟨fun z => ?_, fun ⟨e, he, q⟩ => List.mem_map.mpr ⟨e, he, (txE_is (g e he) k).mp q⟩⟩
  obtain ⟨e, he, q⟩ := List.mem_map.mp z
  exact ⟨e, he, (txE_is (g e he) k).mpr q⟩
theorem txE_strs : ∀ {l : List (Int × Value)}, (∀ e ∈ l, TxE w e) → StrsAre (l.map (·.2)) (l.map txT)
  | [], _ => .nil
  | e :: l, g => by
    obtain ⟨k, tk, h1, _⟩ := g e List.mem_cons_self
    have e1 : txT e = k := by unfold txT; rw [h1]
    show StrsAre (e.2 :: l.map (·.2)) (txT e :: l.map txT)
    rw [h1, e1]
    exact .cons k tk (txE_strs fun x hx => g x (List.mem_cons_of_mem _ hx))
end
section
variable {P : Program} {w : World} {A : Around} {E : Value → Shared → Prop} {s : Shared} {a : Addr} {ks : List Str}
/-- a table that was stored; it may be laid anew -/
theorem tx_tail {g : Bool → Sem Unit} (hg : ∀ (b : Bool) (s₁ : Shared) (Q' : Unit → Shared → Prop), Q' () s₁ → wpAny (model P w) A (g b) Q' E s₁)
    {o : Obj} {es0 es : Array (Int × Value)} {ep : Nat} {t0 t : SetTable} (ho : s.heap.get? a = some o) (hx : o.ExactSet) (hd : o.data = .set es0 ep t0) (T : TxD w es t ks) {wd : Bool} {R : Option Bool → Shared → Prop}
    (hR : ∀ h' ks', Heap.SameBut a s.heap h' → TxS w h' a ks' → ks'.Perm ks → R (some true) { s with heap := h' }) :
    wpAny (model P w) A (do
        storeSet a es t
        if (!wd && t.tooFull) = true then do
            g (relayAll t es (SetTable.grown es.size)).2.2; storeSet a (relayAll t es (SetTable.grown es.size)).1 (relayAll t es (SetTable.grown es.size)).2.1; pure (some true)
          else pure (some true)) R E s := by
  refine wpAny_bind (wpAny_storeSet_of ho hd ?_ (fits_of_scanBound T.few))
  have o1 := store_at (es' := es) (t' := t) ho hd
  have sb := Heap.SameBut.update s.heap a (Obj.putSet es t)
  split
  · have p1 := relayAll_perm t es (SetTable.grown es.size)
    have p2 := relayAll_fits t es (SetTable.grown es.size)
    have p3 := relayAll_ris t es (SetTable.grown es.size)
    have p4 := relayAll_led t es (SetTable.grown es.size)
    generalize relayAll t es (SetTable.grown es.size) = Z at p1 p2 p3 p4 ⊢
    obtain ⟨es2, t2, gv⟩ := Z
    dsimp only at p1 p2 p3 p4 ⊢
    have z2 : es2.size = es.size := by
      have := p1.length_eq
      rwa [Array.length_toList, Array.length_toList] at this
    have T2 : TxD w es2 t2 (es2.toList.map txT) := ⟨fun e he => T.ent e (p1.mem_iff.mp he), rfl, (p1.map txT).nodup_iff.mpr (by rw [T.key]; exact T.nod), by rw [z2]; exact T.few, p2, p3, T.led.imp id fun q => by rw [p4]; exact q⟩
    refine wpAny_bind (hg _ _ _ (wpAny_bind (wpAny_storeSet_of o1 rfl ?_ (fits_of_scanBound T2.few))))
    have o2 := store_at (es' := es2) (t' := t2) o1 rfl
    refine wpAny_pure (hR _ _ (sb.trans (Heap.SameBut.update _ a _)) ⟨_, es2, _, t2, o2, hx, rfl, T2⟩ ?_)
    have := p1.map txT
    rwa [T.key] at this
  · exact wpAny_pure (hR _ ks sb ⟨_, es, _, t, o1, hx, rfl, T⟩ (List.Perm.refl _))
/-- one text more -/
theorem tx_add {k : Str} {tk : Tok} {Q : Bool → Shared → Prop} (R : TxS w s.heap a ks) (room : ks.length + 1 < scanBound)
    (hQ : ∀ h' ks', Heap.SameBut a s.heap h' → TxS w h' a ks' → ks'.Perm (if k ∈ ks then ks else ks ++ [k]) → Q (!decide (k ∈ ks)) { s with heap := h' }) :
    wpAny (model P w) A (setAddHashed a (.str k tk) ((strKind P w).hash k)) Q E s := by
  obtain ⟨o, es, ep, t, ho, hx, hd, T⟩ := R
  have c1 : (strKind P w).is k (.str k tk) = true := strKind_is P w k tk
  have c2 : (Value.str k tk).scannable = true := rfl
  have c3 : ElemsOf (strKind P w) es.toList := txE_el T.ent
  have c4 := txE_mem (P := P) T.ent k
  rw [T.key] at c4
  unfold setAddHashed setAddHashedIn
  refine wpAny_holding ?_
  refine wpAny_bind (wpAny_setState_of ho hd T.fit ?_)
  dsimp only
  rw [byScan_of c2 T.few c3]
  simp only [↓reduceIte]
  unfold setAddByScan
  refine wpAny_bind (wpAny_bind (wpAny_rule (wpAny_bind (wpAny_setScan_of c1 ho hd T.fit c3 ?_))))
  cases hf : List.findIdx? (fun e => (strKind P w).is k e.2) es.toList with
  | some j =>
    dsimp only
    obtain ⟨j1, j2, _⟩ := List.findIdx?_eq_some_iff_getElem.mp hf
    have hk : k ∈ ks := c4.mpr ⟨_, List.getElem_mem j1, j2⟩
    have q := hQ s.heap ks (Heap.SameBut.refl a s.heap) ⟨o, es, ep, t, ho, hx, hd, T⟩ (by rw [if_pos hk])
    rw [decide_eq_true hk] at q
    exact wpAny_pure (wpAny_pure q)
  | none =>
    dsimp only
    have hk : k ∉ ks := fun z => by
      obtain ⟨e, he, q⟩ := c4.mp z
      have := List.findIdx?_eq_none_iff.mp hf e he
      rw [q] at this; cases this
    have p1 := layNew_perm t es ((strKind P w).hash k) (.str k tk)
    have p2 := layNew_fits t es ((strKind P w).hash k) (.str k tk)
    have p3 := layNew_ris t es ((strKind P w).hash k) (.str k tk) T.ris
    have p4 := layNew_led t es ((strKind P w).hash k) (.str k tk)
    generalize layNew t es ((strKind P w).hash k) (.str k tk) = Z at p1 p2 p3 p4 ⊢
    obtain ⟨es1, t1, wd, gv⟩ := Z
    dsimp only at p1 p2 p3 p4 ⊢
    rw [Array.toList_push] at p1
    have pk : (es1.toList.map txT).Perm (ks ++ [k]) := by
      have := p1.map txT
      rw [List.map_append, T.key] at this
      exact this
    have z1 : es1.size = ks.length + 1 := by
      have := pk.length_eq
      rwa [List.length_map, Array.length_toList, List.length_append] at this
    have T1 : ∀ t', t'.fits es1.size = true → Ris t'.place.toList → t'.led = t1.led → TxD w es1 t' (es1.toList.map txT) := fun t' f1 f2 f3 => by
      refine ⟨fun e he => ?_, rfl, pk.nodup_iff.mpr ?_, by rw [z1]; exact room, f1, f2, T.led.imp id fun q => by rw [f3, p4]; exact q⟩
      · rcases List.mem_append.mp (p1.mem_iff.mp he) with z | z
        · exact T.ent e z
        · rw [List.mem_singleton.mp z]; exact ⟨k, tk, rfl, rfl⟩
      · exact List.nodup_append.mpr ⟨T.nod, List.nodup_cons.mpr ⟨List.not_mem_nil, List.nodup_nil⟩, fun x hx y hy => by rw [List.mem_singleton.mp hy]; exact fun z => hk (z ▸ hx)⟩
    have fin : ∀ h' ks', Heap.SameBut a s.heap h' → TxS w h' a ks' → ks'.Perm (es1.toList.map txT) → Q true { s with heap := h' } := fun h' ks' sb r pr => by
      have q := hQ h' ks' sb r (by rw [if_neg hk]; exact pr.trans pk)
      rw [decide_eq_false hk] at q
      exact q
    have gw : ∀ (b : Bool) (s₁ : Shared) (Q' : Unit → Shared → Prop), Q' () s₁ → wpAny (model P w) A (match b with | true => rule "set.scan.the-table-gave-way" | false => pure ()) Q' E s₁ := fun b s₁ Q' q => by
      cases b
      · exact wpAny_pure q
      · exact wpAny_rule q
    refine wpAny_bind (gw _ _ _ ?_)
    split
    · refine wpAny_bind ?_
      rw [hashByValue_scannable 8 c2]
      refine wpAny_pure (tx_tail (ks := es1.toList.map txT) ?_ ho hx hd ?_ ?_)
      · intro b s₁ Q' q
        cases b <;> first | exact wpAny_pure q | exact wpAny_rule q
      · split
        · exact T1 _ p2 p3 rfl
        · exact T1 _ (SetTable.fits_plain_off p2) p3 rfl
      · intro h' ks' sb r pr
        exact wpAny_pure (fin h' ks' sb r pr)
    · refine wpAny_bind (wpAny_pure ?_)
      simp only [↓reduceIte]
      refine tx_tail (ks := es1.toList.map txT) ?_ ho hx hd (T1 _ p2 p3 rfl) ?_
      · intro b s₁ Q' q
        cases b <;> first | exact wpAny_pure q | exact wpAny_rule q
      · intro h' ks' sb r pr
        exact wpAny_pure (fin h' ks' sb r pr)

def stepD (acc : List Str) (k : Str) : List Str := if k ∈ acc then acc else acc ++ [k]
def dedS (xs : List Str) : List Str := xs.foldl stepD []
theorem dedS_snoc (xs : List Str) (k : Str) : dedS (xs ++ [k]) = stepD (dedS xs) k := by
  unfold dedS
  rw [List.foldl_append]; rfl
theorem stepD_len (acc : List Str) (k : Str) : (stepD acc k).length ≤ acc.length + 1 := by
  unfold stepD
  split
  · omega
  · rw [List.length_append]; exact Nat.le_refl _
theorem dedS_len (xs : List Str) : (dedS xs).length ≤ xs.length := by
  have : ∀ (xs acc : List Str), (xs.foldl stepD acc).length ≤ acc.length + xs.length := fun xs => by
    induction xs with
    | nil => intro acc; exact Nat.le_refl _
    | cons x r ih =>
      intro acc
      have h1 := ih (stepD acc x)
      have h2 := stepD_len acc x
      show (r.foldl stepD (stepD acc x)).length ≤ _
      rw [List.length_cons]; omega
  have h := this xs []
  unfold dedS
  simpa using h
theorem stepD_perm {ks acc : List Str} {k : Str} (p : ks.Perm acc) : (if k ∈ ks then ks else ks ++ [k]).Perm (stepD acc k) := by
  unfold stepD
  by_cases z : k ∈ ks
  · rw [if_pos z, if_pos (p.mem_iff.mp z)]; exact p
  · rw [if_neg z, if_neg fun q => z (p.mem_iff.mpr q)]; exact p.append_right _
/-- the loop of set(xs) -/
theorem tx_loop {I : Addr} {fp wr : List Addr} {Gn : Array GenState → Array GenState → Prop} {n : Nat} {Pv : Nat → Value → Prop} {St : Nat → Shared → Prop} {R : Result → Shared → Prop}
    (W : WalksS P w A.in1 I fp wr Gn n Pv St) (S : Addr) (hSf : S ∉ fp) (xs : List Str) (hn : n = xs.length) (hfew : xs.length + 1 < scanBound) (hval : ∀ i v, Pv i v → ∃ t, v = .str (xs.getD i Str.empty) t) :
    ∀ (m i : Nat) (s : Shared), n - i = m → i ≤ n → St i s → (∃ ks, TxS w s.heap S ks ∧ ks.Perm (dedS (xs.take i))) →
      (∀ s' ks, Moved (S :: wr) Gn s s' → TxS w s'.heap S ks → ks.Perm (dedS xs) → R (.ok (.ret .none)) s') → codeAny (model P w) A (.builtin "set.update.loop" ⟨[.ref S, .ref I], []⟩) R s := by
  have nw : S ∉ wr := fun z => hSf (W.sub _ z)
  have sub : ∀ b ∈ wr, b ∈ S :: wr := fun b z => List.mem_cons_of_mem _ z
  intro m
  induction m with
  | zero =>
    intro i s hm hi st ⟨ks, T, pk⟩ hR
    obtain rfl : i = n := by omega
    refine codeAny_builtin PyProof.Rows.F.entry_set_update_loop ?_; rw [Around.under_plainId PyProof.Rows.F.plain_set_update_loop _]; show wpAny _ A.in1 (pyNext (.ref I) >>= _) _ _ s
    refine wpAny_bind (W.done s _ _ st fun s' mv => ?_); show wpAny _ A.in1 (ret Value.none) _ _ s'
    refine wpAny_pure (hR s' ks (mv.mono sub) (T.at fun o q => mv.heap S o nw q) ?_)
    rw [hn, List.take_length] at pk
    exact pk
  | succ m ih =>
    intro i s hm hi st ⟨ks, T, pk⟩ hR
    have lt : i < n := by omega
    refine codeAny_builtin PyProof.Rows.F.entry_set_update_loop ?_; rw [Around.under_plainId PyProof.Rows.F.plain_set_update_loop _]; show wpAny _ A.in1 (pyNext (.ref I) >>= _) _ _ s
    refine wpAny_bind (W.item i s _ _ lt st fun v s' pv st' mv => ?_)
    obtain ⟨t, rfl⟩ := hval i v pv
    show wpAny _ A.in1 (holding [Value.str (xs.getD i Str.empty) t] (setAdd S (.str (xs.getD i Str.empty) t)) >>= _) _ _ s'
    refine wpAny_bind (wpAny_holding ?_); unfold setAdd; refine wpAny_holding (wpAny_bind ((strKind P w).pyHash (k := xs.getD i Str.empty) (strKind_is _ _ _ _) ?_))
    have l1 : ks.length ≤ i := by
      have h1 := pk.length_eq
      have h2 := dedS_len (xs.take i)
      have h3 := List.length_take_le i xs
      omega
    refine tx_add (s := { s' with toks := s'.toks + 1 }) (T.at fun o q => mv.heap S o nw q) (by omega) fun h' ks' sb T' pk' => ?_
    have e1 : xs.take (i + 1) = xs.take i ++ [xs.getD i Str.empty] := by
      have hi' : i < xs.length := by omega
      rw [List.take_succ, List.getElem?_eq_getElem hi', List.getD_eq_getElem?_getD, List.getElem?_eq_getElem hi']; rfl
    have pk2 : ks'.Perm (dedS (xs.take (i + 1))) := by
      rw [e1, dedS_snoc]
      exact pk'.trans (stepD_perm pk)
    refine wpAny_pure ⟨plainId_quiet PyProof.Rows.F.plain_set_update_loop _, ih (i + 1) _ (by omega) lt (W.frame _ s' _ _ st' (Nat.le_succ _) fun b hb o q => ?_) ⟨ks', T', pk2⟩ fun s2 ks2 mv2 T2 p2 => hR s2 ks2 (Moved.trans W.gtrans ((mv.mono sub).then_heap (Nat.le_succ _) fun b o hb q => ?_) mv2) T2 p2⟩
    · exact (sb.2 b fun z => hSf (z ▸ hb)).trans q
    · exact (sb.2 b fun z => hb (z ▸ List.mem_cons_self)).trans q

abbrev newS (w : World) : Obj := { cls := .type "set", dict := none, data := .set #[] 0 (.fresh 0 0 (!w.params.followText "set-order")) }
theorem tx_fresh {h : Heap} {a : Addr} (ho : h.get? a = some (newS w)) : TxS w h a [] := by
  refine ⟨_, #[], 0, _, ho, ⟨rfl, rfl, rfl⟩, rfl, ⟨fun e he => by simp at he, rfl, List.nodup_nil, by decide, rfl, List.Pairwise.nil, ?_⟩⟩
  show _ ∨ (!w.params.followText "set-order") = true
  cases w.params.followText "set-order" <;> simp
set_option maxHeartbeats 4000000 in
/-- set(xs), xs a list of texts -/
theorem tx_call {l : Addr} {its : Array Value} (xs : List Str) {Q : Value → Shared → Prop} (hh : A.handled = none) (hl : s.heap.IsList l its) (hit : StrsAre its.toList xs) (hfew : xs.length + 1 < scanBound)
    (h : ∀ (h' : Heap) (tk : Nat) ks, TxS w h' s.heap.objs.size ks → ks.Perm (dedS xs) → (∀ b o, s.heap.get? b = some o → h'.get? b = some o) → Q (.ref s.heap.objs.size) { s with heap := h', toks := tk }) :
    wpAny (model P w) A (call (.type "set") [.ref l]) Q E s := by
  have hsz : its.size = xs.length := by
    have := StrsAre.length hit
    rwa [Array.length_toList] at this
  obtain ⟨c, tl, m0⟩ := PySem.F.called_set.mro
  have m1 := PySem.F.called_set.made
  have m2 := PySem.F.called_set.sub
  have m3 := PySem.F.called_set.notType
  have m4 := PySem.F.called_set.canCreate
  have m5 := PySem.F.typeCall_set_1 (.ref l)
  refine wpAny_call (codeAny_of_tree ?_); show wpAny _ _ (callAny (.type "set") _) _ _ _
  refine wpAny_pure ⟨Code.quiet_builtin _ (by decide +kernel), codeAny_builtin PySem.F.entry_type_call ?_⟩; rw [Around.under_plain (weight_type_call_type "set" [.ref l] []) rfl]
  repeat (any_goals (first | assumption | wp_step))
  refine codeAny_mono (code_set_led1 (.ref l) (E := E) (Q₁ := fun v s₁ => v = .ref s.heap.objs.size ∧ s₁ = { s with heap := s.heap.push (newS w) }) ⟨rfl, rfl⟩) fun r s₁ hr => ?_
  rcases r with e | fl
  · exact hr
  rcases fl with _ | _ | obj | _ <;> try exact hr.elim
  all_goals obtain ⟨rfl, rfl⟩ := hr
  have n0 : (s.heap.push (newS w)).get? s.heap.objs.size = some (newS w) := Heap.get?_push_size _ rfl
  have n1 : Shared.TypeIs { s with heap := s.heap.push (newS w) } (.ref s.heap.objs.size) "set" := ⟨_, n0, rfl⟩
  have n2 := PySem.F.called_set.init.lookup
  have n3 := PySem.F.called_set.init.bind (.ref s.heap.objs.size)
  repeat (any_goals (first | assumption | wp_step))
  refine codeAny_mono (codeAny_call_builtin (R := wants (fun v s₂ => v = .none ∧ ∃ h' tk ks, s₂ = { s with heap := h', toks := tk } ∧ TxS w h' s.heap.objs.size ks ∧ ks.Perm (dedS xs) ∧ ∀ b o, s.heap.get? b = some o → h'.get? b = some o) E) PySem.F.called_set.init.plain PySem.F.entry_set_init (check_set_init_1 n1 ?_)) fun r₂ s₂ hr₂ => ?_
  · obtain ⟨⟨ocls, odict, odata, oslots⟩, hol, hcl, nl, hdl⟩ := hl
    simp only at hcl hdl
    subst hcl hdl
    have q0 : (s.heap.push (newS w)).get? l = some { cls := .type "list", dict := odict, data := .seq its nl, slots := oslots } := Heap.get?_push_of_some _ hol
    have q1 := PySem.F.sub_list_set
    have q2 := PySem.F.sub_list_frozenset
    have q3 : (Value.type "list" == Value.type "dict") = false := by decide
    have q4 : (s.heap.push (newS w)).IsList l its := ⟨_, q0, rfl, nl, rfl⟩
    unfold Builtin.«set.__init__» noKeywords Builtin.Frozenset.updateFrom
    generalize hPI : pyIter = PI
    wp_walk
    subst hPI
    refine wpAny_pyIter_list q4 (wpAny_bind (wpAny_runValue ?_))
    have lt : l < s.heap.objs.size := Heap.lt_size hol
    have h3 : A.in1.in1.in1.handled = none := by simp [hh]
    have sz : (s.heap.push (newS w)).objs.size = s.heap.objs.size + 1 := Heap.size_push ..
    have ne : l ≠ (s.heap.push (newS w)).objs.size := by rw [sz]; exact Nat.ne_of_lt (Nat.lt_succ_of_lt lt)
    have nf : s.heap.objs.size ∉ [(s.heap.push (newS w)).objs.size, l] := by
      rw [sz]
      intro z
      rcases List.mem_cons.mp z with z | z
      · exact Nat.lt_irrefl _ (Nat.lt_of_lt_of_eq (Nat.lt_succ_self _) z.symm)
      · exact Nat.lt_irrefl _ (Nat.lt_of_le_of_lt (Nat.le_of_eq (List.mem_singleton.mp z)) lt)
    have g0 : ((s.heap.push (newS w)).push { cls := .type "list_iterator", data := .fields #[.ref l, .int 0 0] }).get? s.heap.objs.size = some (newS w) := Heap.get?_push_of_some _ n0
    refine tx_loop ((Walks.list h3 _ l ne its).toS) s.heap.objs.size nf xs hsz hfew (fun i v hv => SS.strs_at hit i v (by rw [Array.getElem?_toList]; exact hv)) (its.size - 0) 0 _ rfl (Nat.zero_le _) ⟨⟨_, Heap.get?_push_size _ rfl, rfl, rfl⟩, q4.push _⟩ ⟨[], tx_fresh g0, List.Perm.refl _⟩ fun s' ks mv T pk => ?_
    obtain ⟨h', g', d', tk', os'⟩ := s'
    obtain rfl : g' = s.gens := mv.gens
    obtain rfl : d' = s.drawn := mv.drawn
    obtain rfl : os' = s.os := mv.os
    show wpAny _ _ _ _ _ _
    refine wpAny_pure ?_; show wpAny _ _ (ret Value.none) _ _ _
    refine wpAny_pure ⟨rfl, h', tk', ks, rfl, T, pk, fun b o e => mv.heap b o (fun z => ?_) (Heap.get?_push_of_some _ (Heap.get?_push_of_some _ e))⟩
    have lb := Heap.lt_size e
    rcases List.mem_cons.mp z with z | z
    · exact Nat.lt_irrefl _ (Nat.lt_of_le_of_lt (Nat.le_of_eq z.symm) lb)
    · have z2 := (List.mem_singleton.mp z).trans sz
      exact Nat.lt_irrefl _ (Nat.lt_trans (Nat.lt_succ_self _) (Nat.lt_of_le_of_lt (Nat.le_of_eq z2.symm) lb))
  · rcases r₂ with e | fl₂
    · exact hr₂
    rcases fl₂ with _ | _ | v | _ <;> try exact hr₂.elim
    all_goals obtain ⟨rfl, h', tk, ks, rfl, T, pk, k⟩ := hr₂
    repeat (any_goals (first | assumption | wp_step))
    exact h _ _ _ T pk k
end
end Zed
end
section
set_option Elab.async false
set_option linter.all false
set_option maxRecDepth 100000
set_option maxHeartbeats 2000000
namespace Zed
open PySem PySem.Spec PyProof.Rows L2
section
variable {P : Program} {w : World} {A : Around} {E : Value → Shared → Prop} {s : Shared} {a : Addr} {ks : List Str}
theorem strs_perm {vs us : List Value} (p : vs.Perm us) : ∀ {ks : List Str}, StrsAre us ks → ∃ ks', StrsAre vs ks' ∧ ks'.Perm ks := by
  induction p with
  | nil => intro ks h; exact ⟨ks, h, .refl _⟩
  | cons x _ ih =>
    intro ks h
    cases h with
    | cons y t r =>
      obtain ⟨z, z1, z2⟩ := ih r
      exact ⟨y :: z, .cons y t z1, z2.cons y⟩
  | swap x y l =>
    intro ks h
    cases h with
    | cons a t r => cases r with
      | cons b u r => exact ⟨_, .cons b u (.cons a t r), .swap _ _ _⟩
  | trans _ _ i1 i2 =>
    intro ks h
    obtain ⟨k2, a1, a2⟩ := i2 h
    obtain ⟨k1, b1, b2⟩ := i1 a1
    exact ⟨k1, b1, b2.trans a2⟩
/-- sorted(a set of texts) -/
theorem tx_sorted {Q : Value → Shared → Prop} (R : TxS w s.heap a ks) (hh : A.handled = none) (h64 : ks.length < 64)
    (hQ : ∀ s' p (out : Array Value) (c : Nat) (ys : List Str), (∀ b o, s.heap.get? b = some o → s'.heap.get? b = some o) → s'.gens = s.gens → s'.os = s.os → s.heap.objs.size ≤ p →
      s'.heap.get? p = some (seqObj "list" out c) → StrsAre out.toList ys → ys.Perm ks → sortedS ys = true → Q (.ref p) s') : wpAny (model P w) A (call (.builtin "sorted") [.ref a]) Q E s := by
  obtain ⟨o, es, ep, t, ho, hx, hd, T⟩ := R
  refine Calls.call_function_entry kind_sorted plain_sorted entry_sorted (args_sorted1 _) ?_; unfold Builtin.«sorted»
  refine wpAny_bind (m := checkCount "sorted" 1 1 _) (wpAny_pure (wpAny_bind (collect_set (A := A.in1) hh ⟨o, ho, hx.1, hd⟩ T.fit T.few T.ris T.led fun s1 vs k1 hz g1 o1 pm => ?_)))
  have st := txE_strs T.ent
  rw [T.key] at st
  obtain ⟨zs, z1, z2⟩ := strs_perm pm st
  have hl : vs.length < 64 := by rw [StrsAre.length z1, z2.length_eq]; exact h64
  refine wpAny_bind (wpAny_newList ?_ (by rw [sizeLine_eq]; omega))
  have n0 : (s1.heap.push (seqObj "list" vs.toArray 0)).get? s1.heap.objs.size = some (seqObj "list" vs.toArray 0) := Heap.get?_push_size _ rfl
  refine wpAny_bind (wpAny_holding (wpAny_call_entry slot_list_sort ⟨_, n0, rfl⟩ entry_list_sort (list_sort_treeK strKind_oneLt n0 z1.keysOf (fun v₁ v₂ rest e => keyKind_strs (by rw [← e]; exact z1)) hl fun st' hp hs => ⟨_, rfl, ?_⟩) (args_list_sort _)))
  obtain ⟨ys, y1, y2, y3⟩ := sorted_out_str z1 hp hs
  obtain ⟨c, hc⟩ := sortedHeap_at (vs := vs) (out := (arrOf st').map (·.2)) n0
  refine wpAny_pure ⟨_, rfl, hQ _ s1.heap.objs.size _ c ys (fun b u e => ?_) g1 o1 hz hc y1 (y2.trans z2) y3⟩
  have q := k1 b u e
  have lt := Heap.lt_size q
  show (sortedHeap (s1.heap.push (seqObj "list" vs.toArray 0)) s1.heap.objs.size vs _).get? b = some u
  rw [sortedHeap_old (Nat.ne_of_lt lt) (by rw [size_push']; exact Nat.lt_succ_of_lt lt)]; exact Heap.get?_push_of_some _ q
end
/-- a set of texts in the heap -/
def TxO (w : World) (a : Addr) (ks : List Str) : HO := .ext fun h => TxS w h a ks
section
variable {X : Cx}
theorem txO_new {w : World} {P : Program} {H : Hp} {h : Heap} {a : Addr} {ks : List Str} (R : TxS w h a ks) : ObjOk P w H h a (TxO w a ks) := by
  have ⟨o, _, _, _, ho, _⟩ := R
  exact ⟨R, ⟨o, ho⟩, fun h1 h2 p k => TxS.at p k⟩
theorem txO_get {pins : List (Addr × Obj)} {σ : L2.St} {H : Hp} {s : Shared} {a : Addr} {ks : List Str} (I : Inv X pins σ H s) (ha : Rd H a (TxO X.w a ks)) : TxS X.w s.heap a ks := (ha.ok I.hok).1
/-- set(xs) -/
def rTxSet (K : PySem.W.Frag) (w : World) : List V → Hp → VK → Prop := fun vs H Q => ∃ (l : Addr) (xs : List Str), vs = [V.ref l] ∧ SqL K H l (xs.map V.str) ∧ xs.length < 64 ∧ ∀ ks p, ks.Perm (dedS xs) → H p = none → Q (.ref p) (upd H p (TxO w p ks))
theorem cr_txSet (hc : X.calm = true) : CallR X (.type "set") (rTxSet X.K X.w) := by
  intro pins s σ H vs us Q I r h
  obtain ⟨l, xs, rfl, hs, hf, q⟩ := h
  obtain ⟨its, rv, pl, _⟩ := I.list hs
  rw [Vals.ref1 r]
  have hn : H s.heap.objs.size = none := I.hok.fresh (Nat.le_refl _)
  refine tx_call (P := X.prog) (w := X.w) xs (I.ok.hd hc) pl.isList (by simpa using rv.strs) (by unfold scanBound; omega) fun h' tk ks T pk k => ?_
  exact ⟨.ref _, upd H s.heap.objs.size (TxO X.w s.heap.objs.size ks), I.laid (t' := tk) k (Nat.le_refl _) (txO_new T), rfl, q ks _ pk hn⟩
/-- sorted(found) -/
def rTxSort (w : World) : List V → Hp → VK → Prop := fun vs H Q => ∃ (a : Addr) (ks : List Str), vs = [V.ref a] ∧ Rd H a (TxO w a ks) ∧ ks.length < 64 ∧ ∀ ys p, ys.Perm ks → sortedS ys = true → H p = none → Q (.ref p) (upd H p (.lst (ys.map V.str)))
theorem cr_txSort (hc : X.calm = true) : CallR X (.builtin "sorted") (rTxSort X.w) := by
  intro pins s σ H vs us Q I r h
  obtain ⟨a, ks, rfl, ha, h64, q⟩ := h
  rw [Vals.ref1 r]
  refine tx_sorted (txO_get I ha) (I.ok.hd hc) h64 fun s' p out c ys k g o hp hg y1 y2 y3 => ?_
  have len : (ys.map V.str).length ≤ sizeLine := by rw [List.length_map, y2.length_eq, sizeLine_eq]; omega
  have hn : H p = none := I.hok.fresh hp
  have J : Inv X pins σ (upd H p (.lst (ys.map V.str))) { s with heap := s'.heap, gens := s'.gens, drawn := s'.drawn, toks := s'.toks } := I.call (ch := []) (Un.laid k hp hn) (I.hok.laid k hp ⟨len, out.toList, c, vals_of_strs y1, hg⟩) (by rw [g]; exact I.bare) (fun _ z => nomatch z)
  have e : s' = { s with heap := s'.heap, gens := s'.gens, drawn := s'.drawn, toks := s'.toks } := by
    cases s'; cases s; cases o; rfl
  rw [e]
  exact ⟨.ref p, _, J, rfl, q ys p y2 y3 hn⟩
end
/-! ### the one sorted row -/
def LeT (x y : Str) : Prop := x.cps.toList ≤ y.cps.toList
theorem leT_of {x y : Str} (h : ltCps y.cps.toList x.cps.toList = false) : LeT x y := by
  rw [ltCps_eq] at h
  exact of_decide_eq_false h
theorem LeT.tot (x y : Str) (h : ltCps y.cps.toList x.cps.toList = true) : LeT y x := by
  rw [ltCps_eq] at h
  rcases List.le_total x.cps.toList y.cps.toList with z | z
  · exact absurd (of_decide_eq_true h) z
  · exact z
theorem LeT.anti {x y : Str} (h1 : LeT x y) (h2 : LeT y x) : x = y := by
  have := List.le_antisymm h1 h2
  obtain ⟨⟨a⟩⟩ := x
  obtain ⟨⟨b⟩⟩ := y
  simp only at this
  rw [this]
theorem rising_pw : ∀ (r : List Str) (p : Str), risingS p r = true → (p :: r).Pairwise LeT
  | [], p, _ => List.pairwise_singleton _ _
  | x :: r, p, h => by
    unfold risingS at h
    rw [Bool.and_eq_true, Bool.not_eq_true'] at h
    have ih := rising_pw r x h.2
    have h1 := leT_of h.1
    refine List.pairwise_cons.mpr ⟨fun y hy => ?_, ih⟩
    rcases List.mem_cons.mp hy with rfl | hy
    · exact h1
    · exact List.le_trans h1 ((List.pairwise_cons.mp ih).1 y hy)
theorem sorted_pw : ∀ (l : List Str), sortedS l = true → l.Pairwise LeT
  | [], _ => .nil
  | x :: r, h => rising_pw r x h
def insS (x : Str) : List Str → List Str
  | [] => [x]
  | y :: r => if ltCps y.cps.toList x.cps.toList = true then y :: insS x r else x :: y :: r
def sortS (xs : List Str) : List Str := xs.foldr insS []
theorem insS_perm (x : Str) : ∀ l, (insS x l).Perm (x :: l)
  | [] => .refl _
  | y :: r => by
    unfold insS
    split
    · exact ((insS_perm x r).cons y).trans (.swap _ _ _)
    · exact .refl _
theorem insS_pw (x : Str) : ∀ l : List Str, l.Pairwise LeT → (insS x l).Pairwise LeT
  | [], _ => List.pairwise_singleton _ _
  | y :: r, h => by
    obtain ⟨h1, h2⟩ := List.pairwise_cons.mp h
    unfold insS
    split
    · rename_i z
      refine List.pairwise_cons.mpr ⟨fun u hu => ?_, insS_pw x r h2⟩
      rcases List.mem_cons.mp ((insS_perm x r).mem_iff.mp hu) with rfl | hu
      · exact LeT.tot _ _ z
      · exact h1 u hu
    · rename_i z
      have z1 : LeT x y := leT_of (by simpa using z)
      refine List.pairwise_cons.mpr ⟨fun u hu => ?_, h⟩
      rcases List.mem_cons.mp hu with rfl | hu
      · exact z1
      · exact List.le_trans z1 (h1 u hu)
theorem sortS_perm : ∀ l, (sortS l).Perm l
  | [] => .refl _
  | x :: r => (insS_perm x (sortS r)).trans ((sortS_perm r).cons x)
theorem sortS_pw : ∀ l, (sortS l).Pairwise LeT
  | [] => .nil
  | x :: r => insS_pw x _ (sortS_pw r)
theorem sortS_one {ys xs : List Str} (p : ys.Perm xs) (h : sortedS ys = true) : ys = sortS xs :=
  List.Perm.eq_of_pairwise (le := LeT) (fun _ _ _ _ a b => a.anti b) (sorted_pw ys h) (sortS_pw xs) (p.trans (sortS_perm xs).symm)
end Zed
end
section
set_option Elab.async false
set_option linter.all false
set_option maxRecDepth 100000
namespace Zed
open PySem L2

mutual
/-- values: tuples are deep; what changes is a place in the heap (ref); what nobody changes any more is a value itself (fz) -/
inductive PV where
  | non | bl (b : Bool) | int (i : Int) | str (x : Str) | tup (ds : List PV) | fz (o : PObj) | ref (i : Nat) | ty (n : String) | gl (k : Nat) | scr (ns : List Int)
inductive PObj where
  | lst (ds : List PV)
  | dic (kvs : List (PV × PV))
  | set (ds : List PV)
  | ins (c : Nat) (fs : List (Nat × PV))
end
abbrev PV.fl (ds : List PV) : PV := .fz (.lst ds)
abbrev PHeap := List PObj
inductive R (α : Type) where
  | ok (a : α) (h : PHeap)
  | exc (c : PV) (fs : List (Nat × PV)) (h : PHeap)
  | stuck
def R.bind {α β : Type} (m : R α) (k : α → PHeap → R β) : R β :=
  match m with
  | .ok a h => k a h
  | .exc c fs h => .exc c fs h
  | .stuck => .stuck
@[simp] theorem R.bind_ok {α β : Type} (a : α) (h : PHeap) (k : α → PHeap → R β) : (R.ok a h).bind k = k a h := rfl
@[simp] theorem R.bind_exc {α β : Type} (c : PV) (fs : List (Nat × PV)) (h : PHeap) (k : α → PHeap → R β) : (R.exc c fs h : R α).bind k = .exc c fs h := rfl
@[simp] theorem R.bind_stuck {α β : Type} (k : α → PHeap → R β) : (R.stuck : R α).bind k = .stuck := rfl

/-! ### how abstract things lie in the abstract heap of HandS -/
/-- a list that nobody changes -/
def FzL (K : PySem.W.Frag) (H : Hp) (a : Addr) (xs : List V) : Prop := ∃ o, H a = some (.frz o (.lst xs))
/-- the script: a list of numbers, locked or written -/
def FzK (K : PySem.W.Frag) (H : Hp) (a : Addr) (xs : List V) : Prop := FzL K H a xs ∨
    ∃ (o : Obj) (its : Array Value) (n : Nat), K.lookup a = some o ∧ o.cls = .type "list" ∧ o.dict = none ∧ o.data = .seq its n ∧ its.size ≤ sizeLine ∧ Vals xs its.toList
theorem FzL.sq {K : PySem.W.Frag} {H : Hp} {a : Addr} {xs : List V} (h : FzL K H a xs) : SqL K H a xs := .inl (.inr h)
theorem FzK.sq {K : PySem.W.Frag} {H : Hp} {a : Addr} {xs : List V} (h : FzK K H a xs) : SqL K H a xs := h.elim (fun h => h.sq) .inr
theorem FzL.rd {K : PySem.W.Frag} {H : Hp} {a : Addr} {xs : List V} (h : FzL K H a xs) : Rd H a (.lst xs) := .inr h

/-- the written part, the module's names -/
structure Gc where
  K : PySem.W.Frag
  mg : Str → Option Value
  /-- the names' numbers: the module's names, the attributes -/
  nm : Nat → Str
  P : Program
  w : World
  /-- classes with slots: a class's attribute's place -/
  isSl : Nat → Bool
  slot : Nat → Nat → Option Nat
  fld : Nat → Nat → Bool
  /-- tables of code objects: the table's place, the lambda's qualified name -/
  T : List (Addr × Str)

mutual
/-- a value as a key of a dict -/
def nkOf : PV → Option NestedKey
  | .non => some .none
  | .bl b => some (.num (if b = true then 1 else 0))
  | .int i => some (.num i)
  | .str x => some (.text x)
  | .tup ds => (nkOfs ds).map .tup
  | _ => none
def nkOfs : List PV → Option (List NestedKey)
  | [] => some []
  | d :: ds => match nkOf d, nkOfs ds with
    | some k, some ks => some (k :: ks)
    | _, _ => none
end
def keyOf : PV → Option Key
  | .int i => some (.inl i)
  | .str x => some (.inr x)
  | _ => none
/-- a dict whose keys are tuples -/
def NdO (P : Program) (w : World) (a : Addr) (xs : List (NestedKey × Addr × Value)) : HO := .ext fun h => ∃ o es ep, h.get? a = some o ∧ o.ExactDict ∧ o.data = .dict es ep ∧ es.toList = xs.map (entryOfKey (nestedKind P w))
/-- an instance with slots: where its own dict may stand -/
def SlW (H : Hp) (a dx : Addr) : Prop := dx ≠ a ∧ (H dx = some (.own a) ∨ H dx = some (.xd []))

mutual
inductive RepV (G : Gc) (φ : List Addr) (H : Hp) : PV → V → Prop
  | non : RepV G φ H .non .non
  | bl (b : Bool) : RepV G φ H (.bl b) (.bl b)
  | int (i : Int) : RepV G φ H (.int i) (.int i)
  | str (x : Str) : RepV G φ H (.str x) (.str x)
  | ty (n : String) : RepV G φ H (.ty n) (.ty n)
  | tup {a : Addr} {vs : List V} {ds : List PV} : SqT G.K H a vs → RepVs G φ H ds vs → RepV G φ H (.tup ds) (.ref a)
  | fl {a : Addr} {vs : List V} {ds : List PV} : FzL G.K H a vs → RepVs G φ H ds vs → RepV G φ H (.fz (.lst ds)) (.ref a)
  | fdK {a : Addr} {ob : Obj} {kvs : List (PV × PV)} {ks : List (Key × V)} : kvs.length ≤ sizeLine → H a = some (.frz ob (.dK ks)) → RepKs G φ H kvs ks → RepV G φ H (.fz (.dic kvs)) (.ref a)
  | fdN {a : Addr} {ob : Obj} {kvs : List (PV × PV)} {xs : List (NestedKey × Addr × Value)} : kvs.length ≤ sizeLine → kvs ≠ [] → H a = some (.frz ob (NdO G.P G.w a xs)) → (a == sysModules) = false → (xs.map (·.1)).Nodup → RepEs G φ H kvs xs → RepV G φ H (.fz (.dic kvs)) (.ref a)
  | fset {a : Addr} {ob : Obj} {ds : List PV} {xs ks : List Str} : ds = xs.map PV.str → H a = some (.frz ob (TxO G.w a ks)) → ks.Perm xs → xs.length < 64 → RepV G φ H (.fz (.set ds)) (.ref a)
  | fiP {a C dx : Addr} {c : Nat} {fs : List (Nat × PV)} {fs' : List (Str × V)} (vs : Nat → V) : (fs.map (·.1)).Nodup → a ∉ φ → G.mg (G.nm c) = some (.ref C) → G.isSl c = false → H a = some (.ins C dx fs') → fs'.length ≤ fs.length →
      (∀ f d, fs.lookup f = some d → G.fld c f = true ∧ fs'.lookup (G.nm f) = some (vs f)) → (∀ f d, fs.lookup f = some d → RepV G φ H d (vs f)) → (∀ x v, fs'.lookup x = some v → ∃ f, G.nm f = x ∧ (fs.lookup f).isSome = true) → RepV G φ H (.fz (.ins c fs)) (.ref a)
  | fiS {a C dx : Addr} {c : Nat} {fs : List (Nat × PV)} {ws : List (Option V)} (vs : Nat → V) : (fs.map (·.1)).Nodup → a ∉ φ → G.mg (G.nm c) = some (.ref C) → G.isSl c = true → SlX.Slt H a C dx ws → SlW H a dx →
      (∀ f d, fs.lookup f = some d → ∃ i, G.slot c f = some i ∧ ws[i]? = some (some (vs f))) → (∀ f d, fs.lookup f = some d → RepV G φ H d (vs f)) → RepV G φ H (.fz (.ins c fs)) (.ref a)
  | scr {a : Addr} {ns : List Int} : FzK G.K H a (ns.map V.int) → RepV G φ H (.scr ns) (.ref a)
  | ref {i : Nat} {a : Addr} : φ[i]? = some a → RepV G φ H (.ref i) (.ref a)
  | gl {k : Nat} {a : Addr} : G.mg (G.nm k) = some (.ref a) → RepV G φ H (.gl k) (.ref a)
inductive RepVs (G : Gc) (φ : List Addr) (H : Hp) : List PV → List V → Prop
  | nil : RepVs G φ H [] []
  | cons {d : PV} {v : V} {ds : List PV} {vs : List V} : RepV G φ H d v → RepVs G φ H ds vs → RepVs G φ H (d :: ds) (v :: vs)
/-- the pairs of a dict: keys that are numbers and texts -/
inductive RepKs (G : Gc) (φ : List Addr) (H : Hp) : List (PV × PV) → List (Key × V) → Prop
  | nil : RepKs G φ H [] []
  | cons {p : PV × PV} {q : Key × V} {l : List (PV × PV)} {m : List (Key × V)} : keyOf p.1 = some q.1 → RepV G φ H p.2 q.2 → RepKs G φ H l m → RepKs G φ H (p :: l) (q :: m)
/-- .. keys that are tuples -/
inductive RepEs (G : Gc) (φ : List Addr) (H : Hp) : List (PV × PV) → List (NestedKey × Addr × Value) → Prop
  | nil : RepEs G φ H [] []
  | cons {p : PV × PV} {x : NestedKey × Addr × Value} {v : V} {l : List (PV × PV)} {m : List (NestedKey × Addr × Value)} : nkOf p.1 = some x.1 → x.1.depth ≤ 8 → RepV G φ H p.1 (.ref x.2.1) → RelV v x.2.2 → RepV G φ H p.2 v → RepEs G φ H l m → RepEs G φ H (p :: l) (x :: m)
end
def RepE (G : Gc) (φ : List Addr) (H : Hp) (p : PV × PV) (x : NestedKey × Addr × Value) : Prop :=
  nkOf p.1 = some x.1 ∧ x.1.depth ≤ 8 ∧ RepV G φ H p.1 (.ref x.2.1) ∧ ∃ v, RelV v x.2.2 ∧ RepV G φ H p.2 v
def RepK (G : Gc) (φ : List Addr) (H : Hp) (p : PV × PV) (q : Key × V) : Prop := keyOf p.1 = some q.1 ∧ RepV G φ H p.2 q.2
theorem RepKs.pd {G : Gc} {φ : List Addr} {H : Hp} : ∀ {l : List (PV × PV)} {m : List (Key × V)}, RepKs G φ H l m → Paired (RepK G φ H) l m
  | _, _, .nil => .nil
  | _, _, .cons a b c => .cons ⟨a, b⟩ c.pd
theorem RepKs.of {G : Gc} {φ : List Addr} {H : Hp} : ∀ {l : List (PV × PV)} {m : List (Key × V)}, Paired (RepK G φ H) l m → RepKs G φ H l m
  | _, _, .nil => .nil
  | _, _, .cons a c => .cons a.1 a.2 (RepKs.of c)
theorem RepEs.pd {G : Gc} {φ : List Addr} {H : Hp} : ∀ {l : List (PV × PV)} {m : List (NestedKey × Addr × Value)}, RepEs G φ H l m → Paired (RepE G φ H) l m
  | _, _, .nil => .nil
  | _, _, .cons a b c d e f => .cons ⟨a, b, c, _, d, e⟩ f.pd
theorem RepEs.of {G : Gc} {φ : List Addr} {H : Hp} : ∀ {l : List (PV × PV)} {m : List (NestedKey × Addr × Value)}, Paired (RepE G φ H) l m → RepEs G φ H l m
  | _, _, .nil => .nil
  | _, _, .cons ⟨a, b, c, _, d, e⟩ f => .cons a b c d e (RepEs.of f)
def RepO (G : Gc) (φ : List Addr) (H : Hp) (a : Addr) : PObj → Prop
  | .lst ds => ∃ vs, H a = some (.lst vs) ∧ RepVs G φ H ds vs
  | .dic kvs => kvs.length ≤ sizeLine ∧ ((∃ kvs', H a = some (.dK kvs') ∧ Paired (RepK G φ H) kvs kvs') ∨
      ∃ xs, kvs ≠ [] ∧ H a = some (NdO G.P G.w a xs) ∧ (a == sysModules) = false ∧ (xs.map (·.1)).Nodup ∧ Paired (RepE G φ H) kvs xs)
  | .set ds => ∃ xs ks : List Str, ds = xs.map PV.str ∧ H a = some (TxO G.w a ks) ∧ ks.Perm xs ∧ xs.length < 64
  | .ins c fs => (fs.map (·.1)).Nodup ∧ ∃ C dx, G.mg (G.nm c) = some (.ref C) ∧
      ((G.isSl c = false ∧ ∃ fs', H a = some (.ins C dx fs') ∧ fs'.length ≤ fs.length ∧ (∀ f d, fs.lookup f = some d → G.fld c f = true ∧ ∃ v, fs'.lookup (G.nm f) = some v ∧ RepV G φ H d v) ∧ ∀ x v, fs'.lookup x = some v → ∃ f, G.nm f = x ∧ (fs.lookup f).isSome = true) ∨
       (G.isSl c = true ∧ ∃ vs, SlX.Slt H a C dx vs ∧ SlW H a dx ∧ ∀ f d, fs.lookup f = some d → ∃ i v, G.slot c f = some i ∧ vs[i]? = some (some v) ∧ RepV G φ H d v))
/-- a table of code objects, none of them an object of ours -/
def TabZ (φ : List Addr) (H : Hp) (P : Addr) (q : Str) : Prop :=
  ∃ ps : Array Value, H P = some (.tbl ps) ∧ TriplesOk ps.toList ∧ ∀ (pos : Pos) (cv : Value), codeAmong pos ps.toList = some cv → ∃ c, cv = .ref c ∧ c ∉ φ ∧ H c = some (LamX.CodeO c q)
structure RelH (G : Gc) (φ : List Addr) (h : PHeap) (H : Hp) : Prop where
  tab : ∀ p ∈ G.T, TabZ φ H p.1 p.2
  len : φ.length = h.length
  nd : φ.Nodup
  obj : ∀ (i : Nat) (o : PObj) (a : Addr), h[i]? = some o → φ[i]? = some a → RepO G φ H a o
/-- from φ, H on to φ', H': new places were free, what lies outside φ is kept (an instance's own dict may turn) -/
def Stays : HO → Prop
  | .own _ => False
  | .tbl _ => False
  | _ => True
structure Ext (φ : List Addr) (H : Hp) (φ' : List Addr) (H' : Hp) : Prop where
  pre : φ <+: φ'
  new : ∀ a, a ∈ φ' → a ∉ φ → ∀ o, H a = some o → (∀ ps, o ≠ .tbl ps) → False
  keep : ∀ a o, H a = some o → a ∉ φ → Stays o → H' a = some o
  own : ∀ a x, H a = some (.own x) → a ∉ φ → H' a = some (.own x) ∨ H' a = some (.xd [])
theorem Stays.nt {o : HO} (s : Stays o) : ∀ ps, o ≠ .tbl ps := fun ps e => by subst e; exact s
theorem Ext.refl {φ : List Addr} {H : Hp} : Ext φ H φ H := ⟨List.prefix_refl _, fun _ h n => absurd h n, fun _ _ h _ _ => h, fun _ _ h _ => .inl h⟩
theorem Ext.live {φ φ' : List Addr} {H H' : Hp} (x : Ext φ H φ' H') : ∀ a o, H a = some o → (∀ ps, o ≠ .tbl ps) → a ∉ φ → ∃ o', H' a = some o' ∧ ∀ ps, o' ≠ .tbl ps := fun a o h nt n => by
  cases o with
  | own y =>
    rcases x.own a y h n with e | e
    · exact ⟨_, e, fun _ z => nomatch z⟩
    · exact ⟨_, e, fun _ z => nomatch z⟩
  | tbl ps => exact absurd rfl (nt ps)
  | _ => exact ⟨_, x.keep a _ h n trivial, nt⟩
theorem Ext.trans {φ φ1 φ2 : List Addr} {H H1 H2 : Hp} (a : Ext φ H φ1 H1) (b : Ext φ1 H1 φ2 H2) : Ext φ H φ2 H2 where
  pre := a.pre.trans b.pre
  new := fun x h n o e nt => by
    by_cases q : x ∈ φ1
    · exact a.new x q n o e nt
    · obtain ⟨o', e', nt'⟩ := a.live x o e nt n
      exact b.new x h q o' e' nt'
  keep := fun x o h n no => b.keep x o (a.keep x o h n no) (fun q => a.new x q n o h no.nt) no
  own := fun x y h n => by
    have nx : x ∉ φ1 := fun q => a.new x q n _ h fun _ z => nomatch z
    rcases a.own x y h n with e | e
    · exact b.own x y e nx
    · exact .inr (b.keep x _ e nx trivial)
/-- kept outside of φ: all -/
theorem Ext.of {φ φ' : List Addr} {H H' : Hp} (pre : φ <+: φ') (new : ∀ a, a ∈ φ' → a ∉ φ → H a = none) (keep : ∀ a o, H a = some o → a ∉ φ → H' a = some o) : Ext φ H φ' H' :=
  ⟨pre, fun a h n o e _ => (nomatch (new a h n).symm.trans e), fun a o h n _ => keep a o h n, fun a x h n => .inl (keep a _ h n)⟩
/-- a table stays, where all outside of φ stays -/
theorem TabZ.stay {φ φ' : List Addr} {H H' : Hp} {P : Addr} {q : Str} (t : TabZ φ H P q) (nP : P ∉ φ) (new : ∀ a, a ∈ φ' → a ∉ φ → ∀ o, H a = some o → (∀ ps, o ≠ .tbl ps) → False) (keep : ∀ a o, H a = some o → a ∉ φ → (∀ x, o ≠ .own x) → (∀ xs, o ≠ .lst xs) → H' a = some o) : TabZ φ' H' P q := by
  obtain ⟨ps, e, k, f⟩ := t
  refine ⟨ps, keep _ _ e nP (fun _ z => (nomatch z)) (fun _ z => (nomatch z)), k, fun pos cv hc => ?_⟩
  obtain ⟨c, e1, n, e2⟩ := f pos cv hc
  refine ⟨c, e1, fun hm => ?_, keep _ _ e2 n (fun _ z => (nomatch z)) (fun _ z => (nomatch z))⟩
  exact new c hm n _ e2 fun _ z => nomatch z
theorem pre_get {φ φ' : List Addr} (h : φ <+: φ') {i : Nat} {a : Addr} (e : φ[i]? = some a) : φ'[i]? = some a := by
  obtain ⟨t, rfl⟩ := h
  obtain ⟨hi, _⟩ := List.getElem?_eq_some_iff.mp e
  rw [List.getElem?_append_left hi]; exact e
theorem RepO.some {G : Gc} {φ : List Addr} {H : Hp} {a : Addr} {o : PObj} (h : RepO G φ H a o) : ∃ u, H a = some u ∧ (∀ xs, u ≠ .tup xs) ∧ (∀ ob q, u ≠ .frz ob q) ∧ (∀ x, u ≠ .own x) ∧ (∀ fs, u ≠ .xd fs) ∧ ∀ ps, u ≠ .tbl ps := by
  cases o with
  | lst ds => obtain ⟨vs, e, _⟩ := h; exact ⟨_, e, fun _ q => (nomatch q), fun _ _ q => (nomatch q), fun _ q => (nomatch q), fun _ q => (nomatch q), fun _ q => (nomatch q)⟩
  | dic kvs =>
    obtain ⟨_, ⟨_, e, _⟩ | ⟨_, _, e, _⟩⟩ := h
    · exact ⟨_, e, fun _ q => (nomatch q), fun _ _ q => (nomatch q), fun _ q => (nomatch q), fun _ q => (nomatch q), fun _ q => (nomatch q)⟩
    · exact ⟨_, e, fun _ q => (nomatch q), fun _ _ q => (nomatch q), fun _ q => (nomatch q), fun _ q => (nomatch q), fun _ q => (nomatch q)⟩
  | set => obtain ⟨_, _, _, e, _⟩ := h; exact ⟨_, e, fun _ q => (nomatch q), fun _ _ q => (nomatch q), fun _ q => (nomatch q), fun _ q => (nomatch q), fun _ q => (nomatch q)⟩
  | ins c fs =>
    obtain ⟨_, C, dx, _, ⟨_, _, e, _⟩ | ⟨_, _, ⟨e, _⟩ | ⟨e, _⟩, _⟩⟩ := h
    · exact ⟨_, e, fun _ q => (nomatch q), fun _ _ q => (nomatch q), fun _ q => (nomatch q), fun _ q => (nomatch q), fun _ q => (nomatch q)⟩
    · exact ⟨_, e, fun _ q => (nomatch q), fun _ _ q => (nomatch q), fun _ q => (nomatch q), fun _ q => (nomatch q), fun _ q => (nomatch q)⟩
    · exact ⟨_, e, fun _ q => (nomatch q), fun _ _ q => (nomatch q), fun _ q => (nomatch q), fun _ q => (nomatch q), fun _ q => (nomatch q)⟩
section
variable {G : Gc} {φ φ' : List Addr} {h h' : PHeap} {H H' : Hp} {a : Addr} {d : PV} {v : V} {ds : List PV} {vs : List V} {l : List (Option PV)} {σ : St}
theorem RelH.at (r : RelH G φ h H) (hm : a ∈ φ) : ∃ (i : Nat) (o : PObj), φ[i]? = some a ∧ h[i]? = some o ∧ RepO G φ H a o := by
  obtain ⟨i, hi, e⟩ := List.mem_iff_getElem.mp hm
  have hi' : i < h.length := by rw [← r.len]; exact hi
  have e1 : φ[i]? = some a := by rw [List.getElem?_eq_getElem hi, e]
  exact ⟨i, h[i], e1, List.getElem?_eq_getElem hi', r.obj i _ a (List.getElem?_eq_getElem hi') e1⟩
theorem RelH.notTup (r : RelH G φ h H) {xs : List V} (e : H a = some (.tup xs)) : a ∉ φ := fun hm => by
  obtain ⟨i, o, _, _, ro⟩ := r.at hm
  obtain ⟨u, eu, n, _⟩ := ro.some
  rw [eu] at e; cases e; exact n _ rfl
theorem RelH.notFrz (r : RelH G φ h H) {o : Obj} {q : HO} (e : H a = some (.frz o q)) : a ∉ φ := fun hm => by
  obtain ⟨i, _, _, _, ro⟩ := r.at hm
  obtain ⟨u, eu, _, n, _⟩ := ro.some
  rw [eu] at e; cases e; exact n _ _ rfl
theorem RelH.notXd (r : RelH G φ h H) {fs : List (Str × V)} (e : H a = some (.xd fs)) : a ∉ φ := fun hm => by
  obtain ⟨i, _, _, _, ro⟩ := r.at hm
  obtain ⟨u, eu, _, _, _, n, _⟩ := ro.some
  rw [eu] at e; cases e; exact n _ rfl
theorem RelH.notOwn (r : RelH G φ h H) {x : Addr} (e : H a = some (.own x)) : a ∉ φ := fun hm => by
  obtain ⟨i, _, _, _, ro⟩ := r.at hm
  obtain ⟨u, eu, _, _, n, _⟩ := ro.some
  rw [eu] at e; cases e; exact n _ rfl
theorem RelH.notTbl (r : RelH G φ h H) {ps : Array Value} (e : H a = some (.tbl ps)) : a ∉ φ := fun hm => by
  obtain ⟨i, _, _, _, ro⟩ := r.at hm
  obtain ⟨u, eu, _, _, _, _, n⟩ := ro.some
  rw [eu] at e; cases e; exact n _ rfl
theorem RelH.tabs (r : RelH G φ h H) (new : ∀ a, a ∈ φ' → a ∉ φ → ∀ o, H a = some o → (∀ ps, o ≠ .tbl ps) → False) (keep : ∀ a o, H a = some o → a ∉ φ → (∀ x, o ≠ .own x) → (∀ xs, o ≠ .lst xs) → H' a = some o) : ∀ p ∈ G.T, TabZ φ' H' p.1 p.2 := fun p hp => by
  have t := r.tab p hp
  obtain ⟨ps, e, _⟩ := id t
  exact t.stay (r.notTbl e) new keep
theorem RelH.free (r : RelH G φ h H) {p : Addr} (e : H p = none) : p ∉ φ := fun hm => by
  obtain ⟨i, _, _, _, ro⟩ := r.at hm
  obtain ⟨u, eu, _⟩ := ro.some
  rw [eu] at e; cases e
theorem sqT_ext (r : RelH G φ h H) (x : Ext φ H φ' H') (s : SqT G.K H a vs) : SqT G.K H' a vs := by
  rcases s with (s | ⟨o, s⟩) | s
  · exact .inl (.inl (x.keep _ _ s (r.notTup s) trivial))
  · exact .inl (.inr ⟨o, x.keep _ _ s (r.notFrz s) trivial⟩)
  · exact .inr s
theorem fzL_ext (r : RelH G φ h H) (x : Ext φ H φ' H') (s : FzL G.K H a vs) : FzL G.K H' a vs := by
  obtain ⟨o, s⟩ := s
  exact ⟨o, x.keep _ _ s (r.notFrz s) trivial⟩
theorem fzK_ext (r : RelH G φ h H) (x : Ext φ H φ' H') (s : FzK G.K H a vs) : FzK G.K H' a vs := s.imp (fzL_ext r x) id
theorem Ext.nin (x : Ext φ H φ' H') {o : HO} (e : H a = some o) (n : a ∉ φ) (nt : ∀ ps, o ≠ .tbl ps) : a ∉ φ' := fun h => x.new a h n o e nt
theorem SlW.ext (r : RelH G φ h H) (x : Ext φ H φ' H') {dx : Addr} (s : SlW H a dx) : SlW H' a dx :=
  ⟨s.1, s.2.elim (fun q => x.own _ _ q (r.notOwn q)) fun q => .inr (x.keep _ _ q (r.notXd q) trivial)⟩
theorem Slt.ext (r : RelH G φ h H) (x : Ext φ H φ' H') (n : a ∉ φ) {C dx : Addr} {ws : List (Option V)} (s : SlX.Slt H a C dx ws) : SlX.Slt H' a C dx ws := by
  rcases s with ⟨h1, h2⟩ | ⟨h1, h2⟩
  · exact .inl ⟨x.keep _ _ h1 n trivial, h2⟩
  · exact .inr ⟨x.keep _ _ h1 n trivial, x.keep _ _ h2 (r.notXd h2) trivial⟩
theorem Slt.some {C dx : Addr} {ws : List (Option V)} (s : SlX.Slt H a C dx ws) : ∃ o, H a = .some o ∧ ∀ ps, o ≠ .tbl ps := by
  rcases s with ⟨h1, _⟩ | ⟨h1, _⟩ <;> exact ⟨_, h1, fun _ z => nomatch z⟩
mutual
theorem repV_ext (r : RelH G φ h H) (x : Ext φ H φ' H') : ∀ {d : PV} {v : V}, RepV G φ H d v → RepV G φ' H' d v
  | _, _, .non => .non
  | _, _, .bl b => .bl b
  | _, _, .int i => .int i
  | _, _, .str s => .str s
  | _, _, .ty n => .ty n
  | _, _, .tup s q => .tup (sqT_ext r x s) (repVs_ext r x q)
  | _, _, .fl s q => .fl (fzL_ext r x s) (repVs_ext r x q)
  | _, _, .fdK z e q => .fdK z (x.keep _ _ e (r.notFrz e) trivial) (repKs_ext r x q)
  | _, _, .fdN z ne e m nd q => .fdN z ne (x.keep _ _ e (r.notFrz e) trivial) m nd (repEs_ext r x q)
  | _, _, .fset z e p l => .fset z (x.keep _ _ e (r.notFrz e) trivial) p l
  | _, _, .fiP vs u n c s e l k q w => .fiP vs u (x.nin e n fun _ z => nomatch z) c s (x.keep _ _ e n trivial) l k (fun f d hf => repV_ext r x (q f d hf)) w
  | _, _, .fiS vs u n c s e l k q => .fiS vs u (let ⟨_, e1, nt⟩ := Slt.some e; x.nin e1 n nt) c s (Slt.ext r x n e) (l.ext r x) k (fun f d hf => repV_ext r x (q f d hf))
  | _, _, .scr e => .scr (fzK_ext r x e)
  | _, _, .ref e => .ref (pre_get x.pre e)
  | _, _, .gl e => .gl e
theorem repVs_ext (r : RelH G φ h H) (x : Ext φ H φ' H') : ∀ {ds : List PV} {vs : List V}, RepVs G φ H ds vs → RepVs G φ' H' ds vs
  | _, _, .nil => .nil
  | _, _, .cons a b => .cons (repV_ext r x a) (repVs_ext r x b)
theorem repKs_ext (r : RelH G φ h H) (x : Ext φ H φ' H') : ∀ {l : List (PV × PV)} {m : List (Key × V)}, RepKs G φ H l m → RepKs G φ' H' l m
  | _, _, .nil => .nil
  | _, _, .cons a b c => .cons a (repV_ext r x b) (repKs_ext r x c)
theorem repEs_ext (r : RelH G φ h H) (x : Ext φ H φ' H') : ∀ {l : List (PV × PV)} {m : List (NestedKey × Addr × Value)}, RepEs G φ H l m → RepEs G φ' H' l m
  | _, _, .nil => .nil
  | _, _, .cons a b c d e f => .cons a b (repV_ext r x c) d (repV_ext r x e) (repEs_ext r x f)
end
theorem RepVs.length : ∀ {ds : List PV} {vs : List V}, RepVs G φ H ds vs → ds.length = vs.length
  | _, _, .nil => rfl
  | _, _, .cons _ b => by simp [RepVs.length b]
theorem RepVs.append : ∀ {ds es : List PV} {vs ws : List V}, RepVs G φ H ds vs → RepVs G φ H es ws → RepVs G φ H (ds ++ es) (vs ++ ws)
  | _, _, _, _, .nil, q => q
  | _, _, _, _, .cons a b, q => .cons a (b.append q)
theorem RepVs.get : ∀ {ds : List PV} {vs : List V} {i : Nat} {d : PV}, RepVs G φ H ds vs → ds[i]? = some d → ∃ v, vs[i]? = some v ∧ RepV G φ H d v
  | _, _, _, _, .nil, e => by simp at e
  | _, _, 0, _, .cons a b, e => by simp at e; subst e; exact ⟨_, rfl, a⟩
  | _, _, i + 1, _, .cons a b, e => by simpa using b.get (i := i) (by simpa using e)
/-- the slots -/
def RepL (G : Gc) (φ : List Addr) (H : Hp) (l : List (Option PV)) (σ : St) : Prop :=
  l.length = σ.length ∧ ∀ (i : Nat) (d : PV), l[i]? = some (some d) → ∃ v, σ[i]? = some (some v) ∧ RepV G φ H d v
theorem repL_ext (r : RelH G φ h H) (x : Ext φ H φ' H') (q : RepL G φ H l σ) : RepL G φ' H' l σ := ⟨q.1, fun i d e => by
  obtain ⟨v, e1, e2⟩ := q.2 i d e
  exact ⟨v, e1, repV_ext r x e2⟩⟩
theorem RepL.set (q : RepL G φ H l σ) {i : Nat} (rv : RepV G φ H d v) : RepL G φ H (l.set i (some d)) (σ.set i (some v)) := by
  refine ⟨by simpa using q.1, fun j e hj => ?_⟩
  by_cases z : j = i
  · subst z
    have hl : j < l.length := by
      have := (List.getElem?_eq_some_iff.mp hj).1
      simpa using this
    rw [List.getElem?_set_self hl] at hj
    cases hj
    exact ⟨v, List.getElem?_set_self (by rw [← q.1]; exact hl), rv⟩
  · rw [List.getElem?_set_ne (Ne.symm z)] at hj ⊢
    exact q.2 j e hj
end

/-! ### readings by functions -/
/-- an exception: its class, its own dict -/
def RepX (G : Gc) (φ : List Addr) (H : Hp) (c : PV) (fs : List (Nat × PV)) (cls : Value) (d : Option Addr) : Prop :=
  ((∃ x a, c = .gl x ∧ G.mg (G.nm x) = some (.ref a) ∧ cls = .ref a) ∨ ∃ n, c = .ty n ∧ cls = .type n) ∧
  (fs = [] ∨ ∃ dd ws, d = some dd ∧ H dd = some (.xd ws) ∧ ∀ f e, fs.lookup f = some e → ∃ w, ws.lookup (G.nm f) = some w ∧ RepV G φ H e w)

/-- what is wanted of an answer -/
def Post (G : Gc) (φ : List Addr) (H : Hp) (r : R PV) (Q : VK) (E : XK) : Prop :=
  match r with
  | .ok d h' => ∀ φ' H' v, Ext φ H φ' H' → RelH G φ' h' H' → RepV G φ' H' d v → Q v H'
  | .exc c fs h' => ∀ φ' H' cls dd, Ext φ H φ' H' → RelH G φ' h' H' → RepX G φ' H' c fs cls dd → E cls dd H'
  | .stuck => False
/-- a function of values and heap: the reading of a call, an operator -/
def rF (G : Gc) (F : List PV → PHeap → R PV) (vs : List V) (H : Hp) (Q : VK) (E : XK) : Prop :=
  ∃ φ h ds, RelH G φ h H ∧ RepVs G φ H ds vs ∧ Post G φ H (F ds h) Q E
abbrev Loc := List (Option PV)
/-- an expression's reading -/
def tEv (G : Gc) (W : WX) (f : Loc → PHeap → R PV) : TE := fun σ H Q =>
  ∃ φ l h, RelH G φ h H ∧ RepL G φ H l σ ∧ Post G φ H (f l h) Q (fun c d H' => W c d σ H')
/-- an argument list's -/
def PostA (G : Gc) (φ : List Addr) (H : Hp) (r : R (List PV)) (Q : List V → Hp → Prop) (E : XK) : Prop :=
  match r with
  | .ok ds h' => ∀ φ' H' vs, Ext φ H φ' H' → RelH G φ' h' H' → RepVs G φ' H' ds vs → Q vs H'
  | .exc c fs h' => ∀ φ' H' cls dd, Ext φ H φ' H' → RelH G φ' h' H' → RepX G φ' H' c fs cls dd → E cls dd H'
  | .stuck => False
def tEvA (G : Gc) (W : WX) (f : Loc → PHeap → R (List PV)) : TA := fun σ H Q =>
  ∃ φ l h, RelH G φ h H ∧ RepL G φ H l σ ∧ PostA G φ H (f l h) Q (fun c d H' => W c d σ H')
/-- a test's -/
def PostT (G : Gc) (φ : List Addr) (H : Hp) (r : R Bool) (Q : Bool → Hp → Prop) (E : XK) : Prop :=
  match r with
  | .ok b h' => ∀ φ' H', Ext φ H φ' H' → RelH G φ' h' H' → Q b H'
  | .exc c fs h' => ∀ φ' H' cls dd, Ext φ H φ' H' → RelH G φ' h' H' → RepX G φ' H' c fs cls dd → E cls dd H'
  | .stuck => False
def tEvT (G : Gc) (W : WX) (f : Loc → PHeap → R Bool) : TT := fun σ H Q =>
  ∃ φ l h, RelH G φ h H ∧ RepL G φ H l σ ∧ PostT G φ H (f l h) Q (fun c d H' => W c d σ H')

section
variable {G : Gc} {φ : List Addr} {h : PHeap} {H : Hp} {W : WX} {l : Loc} {σ : St}
theorem Post.bind {r : R PV} {k : PV → PHeap → R PV} {Q : VK} {E : XK} (p : Post G φ H (r.bind k) Q E) :
    Post G φ H r (fun v H1 => ∃ φ1 h1 d1, Ext φ H φ1 H1 ∧ RelH G φ1 h1 H1 ∧ RepV G φ1 H1 d1 v ∧ Post G φ H (k d1 h1) Q E) E := by
  cases r with
  | ok d h' => exact fun φ' H' v x rh rv => ⟨φ', h', d, x, rh, rv, p⟩
  | exc c fs h' => exact p
  | stuck => exact p
theorem Post.ext {φ1 : List Addr} {H1 : Hp} {r : R PV} {Q : VK} {E : XK} (x : Ext φ H φ1 H1) (p : Post G φ H r Q E) : Post G φ1 H1 r Q E := by
  cases r with
  | ok d h' => exact fun φ' H' v x1 rh rv => p φ' H' v (x.trans x1) rh rv
  | exc c fs h' => exact fun φ' H' cls dd x1 rh rx => p φ' H' cls dd (x.trans x1) rh rx
  | stuck => exact p
theorem PostA.ext {φ1 : List Addr} {H1 : Hp} {r : R (List PV)} {Q : List V → Hp → Prop} {E : XK} (x : Ext φ H φ1 H1) (p : PostA G φ H r Q E) : PostA G φ1 H1 r Q E := by
  cases r with
  | ok d h' => exact fun φ' H' v x1 rh rv => p φ' H' v (x.trans x1) rh rv
  | exc c fs h' => exact fun φ' H' cls dd x1 rh rx => p φ' H' cls dd (x.trans x1) rh rx
  | stuck => exact p
theorem PostT.ext {φ1 : List Addr} {H1 : Hp} {r : R Bool} {Q : Bool → Hp → Prop} {E : XK} (x : Ext φ H φ1 H1) (p : PostT G φ H r Q E) : PostT G φ1 H1 r Q E := by
  cases r with
  | ok d h' => exact fun φ' H' x1 rh => p φ' H' (x.trans x1) rh
  | exc c fs h' => exact fun φ' H' cls dd x1 rh rx => p φ' H' cls dd (x.trans x1) rh rx
  | stuck => exact p
theorem Post.mono {r : R PV} {Q Q' : VK} {E : XK} (p : Post G φ H r Q E) (hq : ∀ v H', Q v H' → Q' v H') : Post G φ H r Q' E := by
  cases r with
  | ok d h' => exact fun φ' H' v x1 rh rv => hq _ _ (p φ' H' v x1 rh rv)
  | exc c fs h' => exact p
  | stuck => exact p
end
/-- weaken a reading -/
theorem pe_imp {X : Cx} {e : Expr} {t t' : TE} (h : PE X e t) (i : ∀ σ H Q, t' σ H Q → t σ H Q) : PE X e t' := ⟨fun pins s σ H Q I q => h.run pins s σ H Q I (i _ _ _ q)⟩
theorem pt_imp {X : Cx} {e : Expr} {t t' : TT} (h : PT X e t) (i : ∀ σ H Q, t' σ H Q → t σ H Q) : PT X e t' := ⟨fun pins s σ H Q I q => h.run pins s σ H Q I (i _ _ _ q)⟩
theorem pa_imp {X : Cx} {e : List Expr} {t t' : TA} (h : PA X e t) (i : ∀ σ H Q, t' σ H Q → t σ H Q) : PA X e t' := ⟨fun pos pins s σ H Q I q => h.run pos pins s σ H Q I (i _ _ _ q)⟩
theorem ps_imp {X : Cx} {e : Stmt} {t t' : TS} (h : PS X e t) (i : ∀ D σ H, t' D σ H → t D σ H) : PS X e t' := ⟨fun pins s σ H D I q => h.run pins s σ H D I (i _ _ _ q)⟩
theorem pss_imp {X : Cx} {e : List Stmt} {t t' : TS} (h : PSs X e t) (i : ∀ D σ H, t' D σ H → t D σ H) : PSs X e t' := ⟨fun pins s σ H D I q => h.run pins s σ H D I (i _ _ _ q)⟩

/-- a built-in's work: a value and the heap behind it, or nothing -/
abbrev Pf := List PV → PHeap → Option (PV × PHeap)
def liftP : Option (PV × PHeap) → R PV
  | some (d, h) => .ok d h
  | none => .stuck
def rP (G : Gc) (F : Pf) (vs : List V) (H : Hp) (Q : VK) : Prop :=
  ∃ φ h ds d h', RelH G φ h H ∧ RepVs G φ H ds vs ∧ F ds h = some (d, h') ∧ ∀ φ' H' v, Ext φ H φ' H' → RelH G φ' h' H' → RepV G φ' H' d v → Q v H'
theorem Post.lift {G : Gc} {φ : List Addr} {H : Hp} {r : Option (PV × PHeap)} {Q : VK} {E : XK} (p : Post G φ H (liftP r) Q E) :
    ∃ d h', r = some (d, h') ∧ ∀ φ' H' v, Ext φ H φ' H' → RelH G φ' h' H' → RepV G φ' H' d v → Q v H' := by
  match r, p with
  | some (d, h'), p => exact ⟨d, h', rfl, p⟩
section
variable {G : Gc} {W : WX} {φ : List Addr} {h : PHeap} {H : Hp} {l : Loc} {σ : St}
theorem PostA.bind {r : R (List PV)} {k : List PV → PHeap → R PV} {Q : VK} {E : XK} (p : Post G φ H (r.bind k) Q E) :
    PostA G φ H r (fun v H1 => ∃ φ1 h1 d1, Ext φ H φ1 H1 ∧ RelH G φ1 h1 H1 ∧ RepVs G φ1 H1 d1 v ∧ Post G φ H (k d1 h1) Q E) E := by
  cases r with
  | ok d h' => exact fun φ' H' v x rh rv => ⟨φ', h', d, x, rh, rv, p⟩
  | exc c fs h' => exact p
  | stuck => exact p
theorem PostT.bind {r : R Bool} {k : Bool → PHeap → R PV} {Q : VK} {E : XK} (p : Post G φ H (r.bind k) Q E) :
    PostT G φ H r (fun b H1 => ∃ φ1 h1, Ext φ H φ1 H1 ∧ RelH G φ1 h1 H1 ∧ Post G φ H (k b h1) Q E) E := by
  cases r with
  | ok d h' => exact fun φ' H' x rh => ⟨φ', h', x, rh, p⟩
  | exc c fs h' => exact p
  | stuck => exact p
theorem Post.bindA {r : R PV} {k : PV → PHeap → R (List PV)} {Q : List V → Hp → Prop} {E : XK} (p : PostA G φ H (r.bind k) Q E) :
    Post G φ H r (fun v H1 => ∃ φ1 h1 d1, Ext φ H φ1 H1 ∧ RelH G φ1 h1 H1 ∧ RepV G φ1 H1 d1 v ∧ PostA G φ H (k d1 h1) Q E) E := by
  cases r with
  | ok d h' => exact fun φ' H' v x rh rv => ⟨φ', h', d, x, rh, rv, p⟩
  | exc c fs h' => exact p
  | stuck => exact p
theorem PostA.bindA {r : R (List PV)} {k : List PV → PHeap → R (List PV)} {Q : List V → Hp → Prop} {E : XK} (p : PostA G φ H (r.bind k) Q E) :
    PostA G φ H r (fun v H1 => ∃ φ1 h1 d1, Ext φ H φ1 H1 ∧ RelH G φ1 h1 H1 ∧ RepVs G φ1 H1 d1 v ∧ PostA G φ H (k d1 h1) Q E) E := by
  cases r with
  | ok d h' => exact fun φ' H' v x rh rv => ⟨φ', h', d, x, rh, rv, p⟩
  | exc c fs h' => exact p
  | stuck => exact p
theorem Post.bindT {r : R PV} {k : PV → PHeap → R Bool} {Q : Bool → Hp → Prop} {E : XK} (p : PostT G φ H (r.bind k) Q E) :
    Post G φ H r (fun v H1 => ∃ φ1 h1 d1, Ext φ H φ1 H1 ∧ RelH G φ1 h1 H1 ∧ RepV G φ1 H1 d1 v ∧ PostT G φ H (k d1 h1) Q E) E := by
  cases r with
  | ok d h' => exact fun φ' H' v x rh rv => ⟨φ', h', d, x, rh, rv, p⟩
  | exc c fs h' => exact p
  | stuck => exact p
theorem PostT.bindT {r : R Bool} {k : Bool → PHeap → R Bool} {Q : Bool → Hp → Prop} {E : XK} (p : PostT G φ H (r.bind k) Q E) :
    PostT G φ H r (fun b H1 => ∃ φ1 h1, Ext φ H φ1 H1 ∧ RelH G φ1 h1 H1 ∧ PostT G φ H (k b h1) Q E) E := by
  cases r with
  | ok d h' => exact fun φ' H' x rh => ⟨φ', h', x, rh, p⟩
  | exc c fs h' => exact p
  | stuck => exact p
theorem PostA.mono {r : R (List PV)} {Q Q' : List V → Hp → Prop} {E : XK} (p : PostA G φ H r Q E) (hq : ∀ v H', Q v H' → Q' v H') : PostA G φ H r Q' E := by
  cases r with
  | ok d h' => exact fun φ' H' v x1 rh rv => hq _ _ (p φ' H' v x1 rh rv)
  | exc c fs h' => exact p
  | stuck => exact p
theorem PostT.mono {r : R Bool} {Q Q' : Bool → Hp → Prop} {E : XK} (p : PostT G φ H r Q E) (hq : ∀ v H', Q v H' → Q' v H') : PostT G φ H r Q' E := by
  cases r with
  | ok d h' => exact fun φ' H' x1 rh => hq _ _ (p φ' H' x1 rh)
  | exc c fs h' => exact p
  | stuck => exact p

/-- two expressions, then an operator -/
def ev2 (fa fb : Loc → PHeap → R PV) (F : Pf) : Loc → PHeap → R PV := fun l h => (fa l h).bind fun x h1 => (fb l h1).bind fun y h2 => liftP (F [x, y] h2)
def ev1 (fa : Loc → PHeap → R PV) (F : Pf) : Loc → PHeap → R PV := fun l h => (fa l h).bind fun x h1 => liftP (F [x] h1)
def evN (fa : Loc → PHeap → R (List PV)) (F : Pf) : Loc → PHeap → R PV := fun l h => (fa l h).bind fun x h1 => liftP (F x h1)
def r2 (G : Gc) (F : Pf) : R2 := fun x y H Q => rP G F [x, y] H Q
theorem tOp_ev {fa fb : Loc → PHeap → R PV} {F : Pf} (σ : St) (H : Hp) (Q : VK) (t : tEv G W (ev2 fa fb F) σ H Q) :
    tOp (r2 G F) (tEv G W fa) (tEv G W fb) σ H Q := by
  obtain ⟨φ, l, h, rh, rl, p⟩ := t
  refine ⟨φ, l, h, rh, rl, Post.mono (Post.bind p) fun v H1 ⟨φ1, h1, d1, x1, rh1, rv1, p1⟩ => ?_⟩
  refine ⟨φ1, l, h1, rh1, repL_ext rh x1 rl, Post.mono (Post.bind (p1.ext x1)) fun w H2 ⟨φ2, h2, d2, x2, rh2, rv2, p2⟩ => ?_⟩
  obtain ⟨d, h', e, q⟩ := Post.lift (p2.ext x2)
  exact ⟨φ2, h2, [d1, d2], d, h', rh2, .cons (repV_ext rh1 x2 rv1) (.cons rv2 .nil), e, q⟩
theorem tCB_ev {fa : Loc → PHeap → R (List PV)} {F : Pf} (σ : St) (H : Hp) (Q : VK) (t : tEv G W (evN fa F) σ H Q) :
    tCB (rP G F) (tEvA G W fa) σ H Q := by
  obtain ⟨φ, l, h, rh, rl, p⟩ := t
  refine ⟨φ, l, h, rh, rl, PostA.mono (PostA.bind p) fun v H1 ⟨φ1, h1, d1, x1, rh1, rv1, p1⟩ => ?_⟩
  obtain ⟨d, h', e, q⟩ := Post.lift (p1.ext x1)
  exact ⟨φ1, h1, d1, d, h', rh1, rv1, e, q⟩
/-- argument lists -/
def evNil : Loc → PHeap → R (List PV) := fun _ h => .ok [] h
def evCons (fa : Loc → PHeap → R PV) (fr : Loc → PHeap → R (List PV)) : Loc → PHeap → R (List PV) := fun l h => (fa l h).bind fun x h1 => (fr l h1).bind fun xs h2 => .ok (x :: xs) h2
theorem tNil_ev (σ : St) (H : Hp) (Q : List V → Hp → Prop) (t : tEvA G W evNil σ H Q) : tNil σ H Q := by
  obtain ⟨φ, l, h, rh, rl, p⟩ := t
  exact p φ H [] .refl rh .nil
theorem tCons_ev {fa : Loc → PHeap → R PV} {fr : Loc → PHeap → R (List PV)} (σ : St) (H : Hp) (Q : List V → Hp → Prop) (t : tEvA G W (evCons fa fr) σ H Q) : tCons (tEv G W fa) (tEvA G W fr) σ H Q := by
  obtain ⟨φ, l, h, rh, rl, p⟩ := t
  refine ⟨φ, l, h, rh, rl, Post.mono (Post.bindA p) fun v H1 ⟨φ1, h1, d1, x1, rh1, rv1, p1⟩ => ?_⟩
  refine ⟨φ1, l, h1, rh1, repL_ext rh x1 rl, PostA.mono (PostA.bindA (p1.ext x1)) fun w H2 ⟨φ2, h2, d2, x2, rh2, rv2, p2⟩ => ?_⟩
  exact (p2.ext x2) φ2 H2 (v :: w) .refl rh2 (.cons (repV_ext rh1 x2 rv1) rv2)
end
end Zed
end
section
set_option Elab.async false
set_option linter.all false
set_option maxRecDepth 100000
namespace Zed
open PySem L2

/-! ### the small language -/
inductive Bop where | add | sub | mul | fdiv | mod | pow
  deriving DecidableEq
inductive Cop where | lt | le | gt | ge | eq | ne | isin | notin | is | isnot
  deriving DecidableEq
inductive Bi where | len | isinstance | all | abs | int | max | min | tuple | list | listm | sorted | set | repr | reprc
  deriving DecidableEq
inductive Mi where | append | extend | pop
  deriving DecidableEq
mutual
inductive Tg where
  | nm (i : Nat)
  | tp (ts : Tgs)
inductive Tgs where
  | nil
  | cons (t : Tg) (ts : Tgs)
end
mutual
inductive Ex where
  | loc (i : Nat)
  | con (d : PV)
  | bin (op : Bop) (a b : Ex)
  | neg (a : Ex)
  | not (a : Ex)
  | cmp (op : Cop) (a b : Ex)
  | chn (op op' : Cop) (a b c : Ex)
  | and (a b : Ex)
  | or (a b : Ex)
  | ite (c a b : Ex)
  | tup (es : Exs)
  | lst (z : Bool) (es : Exs)
  | call (f : Nat) (es : Exs)
  | make (c f : Nat) (es : Exs)
  | blt (b : Bi) (es : Exs)
  | meth (m : Mi) (o : Ex) (es : Exs)
  | sub (o i : Ex)
  | slc (o : Ex) (lo hi : Op)
  | attr (o : Ex) (f : Nat)
  | lc (z : Bool) (elt : Ex) (tg : Tg) (it : Itr) (ifs : Op) (own : List Nat)
  | dic0 (z : Bool)
  /-- a call of a def that calls a lambda and tells how it ended -/
  | met (m : Nat) (e : Ex)
  /-- l.pop() -/
  | pop (o : Ex)
  /-- l[::-1] -/
  | rev (z : Bool) (o : Ex)
  /-- a method of an own class, with arguments; without -/
  | mcl (m : Nat) (o : Ex) (es : Exs)
  | mc0 (m : Nat) (o : Ex)
  /-- isinstance of an own class -/
  | isi (es : Exs)
  /-- ==, != of two instances by an own __eq__ -/
  | oeq (ne : Bool) (a b : Ex)
  /-- C.m(..), a classmethod -/
  | cmt (c m : Nat) (es : Exs)
  /-- cls(..): an instance is made, the class in a slot -/
  | mkl (i c f : Nat) (es : Exs)
inductive Exs where
  | nil
  | cons (e : Ex) (es : Exs)
  | star (e : Ex) (es : Exs)
inductive Op where
  | no
  | yes (e : Ex)
inductive Itr where
  | val (e : Ex)
  | rng1 (e : Ex)
  | rng2 (a b : Ex)
  | enm (e : Ex)
  | zp (a b : Ex)
end
mutual
inductive Sx where
  | ex (e : Ex)
  | asg (t : Tg) (e : Ex)
  | put (o i e : Ex)
  | fld (o : Ex) (f : Nat) (e : Ex)
  | ret (e : Ex)
  | ret0
  | iff (c : Ex) (a b : Sxs)
  | for_ (t : Tg) (it : Itr) (b : Sxs)
  | whl (c : Ex) (b : Sxs)
  | pass
  | brk
  | cnt
  /-- an own error without fields, made with a text -/
  | rai (c : Nat) (m : Str)
inductive Sxs where
  | nil
  | cons (s : Sx) (r : Sxs)
end

/-! ### built-ins -/
def mapO {α β : Type} (f : α → Option β) : List α → Option (List β)
  | [] => some []
  | a :: r => match f a, mapO f r with
    | some b, some bs => some (b :: bs)
    | _, _ => none
/-- what stands at a place, or is frozen -/
def objOf (h : PHeap) : PV → Option PObj
  | .fz o => some o
  | .ref i => h[i]?
  | _ => none
/-- what a value is as data -/
def toD (h : PHeap) : Nat → PV → Option PyData
  | _, .non => some .none
  | _, .bl b => some (.bool b)
  | _, .int i => some (.int i)
  | _, .str x => some (.str x)
  | n + 1, .tup ds => (mapO (toD h n) ds).map .tuple
  | n + 1, .fz o => match o with
    | .lst ds => (mapO (toD h n) ds).map .list
    | _ => none
  | n + 1, .ref i => match h[i]? with
    | some (.lst ds) => (mapO (toD h n) ds).map .list
    | _ => none
  | _, _ => none
def big : Nat := 2 ^ 9000
/-- the items of a list or a tuple -/
def lstOf (h : PHeap) (d : PV) : Option (List PV) := match objOf h d with
  | some (.lst ds) => some ds
  | _ => none
def seqOf (h : PHeap) : PV → Option (List PV)
  | .tup ds => some ds
  | .scr ns => some (ns.map .int)
  | d => lstOf h d
def truthF (h : PHeap) : PV → Option Bool
  | .non => some false
  | .bl b => some b
  | .int i => some (i != 0)
  | .str x => if x.length ≤ sizeLine then some (x.length != 0) else none
  | v => (seqOf h v).map fun ds => !ds.isEmpty
def newO (o : PObj) (h : PHeap) : PV × PHeap := (.ref h.length, h ++ [o])
/-- a new empty dict -/
def mkD (z : Bool) (h : PHeap) : PV × PHeap := match z with
  | true => (.fz (.dic []), h)
  | false => newO (.dic []) h
/-- a new list: frozen, or in the heap -/
def mkL (z : Bool) (ds : List PV) (h : PHeap) : PV × PHeap := match z with
  | true => (.fl ds, h)
  | false => newO (.lst ds) h
def addF (x y : PV) (h : PHeap) : Option (PV × PHeap) :=
  match x, y with
  | .int i, .int j => some (.int (i + j), h)
  | .str x, .str y => if x.length + y.length ≤ sizeLine then some (.str (x ++ y), h) else none
  | .tup xs, .tup ys => if xs.length + ys.length ≤ sizeLine then some (.tup (xs ++ ys), h) else none
  | x, y => match lstOf h x, lstOf h y with
    | some xs, some ys => if xs.length + ys.length ≤ sizeLine then some (.fl (xs ++ ys), h) else none
    | _, _ => none
def mulF (x y : PV) (h : PHeap) : Option (PV × PHeap) :=
  match x, y with
  | .int i, .int j => if i.natAbs < big ∧ j.natAbs < big then some (.int (i * j), h) else none
  | .tup xs, .int k => if xs ≠ [] ∧ 2 ≤ k ∧ k ≤ 1000 ∧ xs.length ≤ 1000 then some (.tup (List.replicate k.toNat xs).flatten, h) else none
  | .ref i, .int k => match h[i]? with
    | some (.lst xs) => if -2 ^ 63 ≤ k ∧ k < 2 ^ 63 ∧ xs.length * k.toNat ≤ sizeLine then some (.fl (List.replicate k.toNat xs).flatten, h) else none
    | _ => none
  | _, _ => none
def arI : Bop → Int → Int → Option Int
  | .sub, i, j => some (i - j)
  | .fdiv, i, j => if 0 < j ∧ j.natAbs < big then some (i / j) else none
  | .mod, i, j => if 0 < j then some (i % j) else none
  | .pow, i, j => if 0 ≤ j ∧ j ≤ 1000 ∧ i.natAbs < 2 ^ 300 then some (i ^ j.toNat) else none
  | _, _, _ => none
def bopF (op : Bop) : Pf
  | [x, y], h => match op with
    | .add => addF x y h
    | .mul => mulF x y h
    | op => match x, y with
      | .int i, .int j => (arI op i j).map fun k => (.int k, h)
      | _, _ => none
  | _, _ => none
def eqD (h : PHeap) (x y : PV) : Option Bool :=
  match toD h 70 x, toD h 70 y with
  | some a, some b => if SeqAt.shaped a = true ∧ SeqAt.shaped b = true then some (PyData.eqv a b) else none
  | _, _ => none
def flatP : PV → Bool
  | .non | .bl _ | .int _ | .str _ => true
  | _ => false
def eqP : PV → PV → Bool
  | .non, .non => true
  | .bl a, .bl b => a == b
  | .bl a, .int b => (if a = true then 1 else 0) == b
  | .int a, .bl b => a == if b = true then 1 else 0
  | .int a, .int b => a == b
  | .str a, .str b => a == b
  | _, _ => false
/-- two tuples, flat as far as both go -/
def eqTup : List PV → List PV → Option Bool
  | [], [] => some true
  | [], _ :: _ => some false
  | _ :: _, [] => some false
  | x :: xs, y :: ys => if flatP x && flatP y then (eqTup xs ys).map (eqP x y && ·) else none
def allO : List (Option Bool) → Option Bool
  | [] => some true
  | some b :: r => (allO r).map (b && ·)
  | none :: _ => none
/-- lists and tuples compared, deep -/
def eqG (h : PHeap) : Nat → PV → PV → Option Bool
  | 0, x, y => if flatP x && flatP y then some (eqP x y) else none
  | n + 1, x, y => if flatP x && flatP y then some (eqP x y) else match x, y with
    | .tup xs, .tup ys => (allO (List.zipWith (eqG h n) xs ys)).map (· && xs.length == ys.length)
    | x, y => match lstOf h x, lstOf h y with
      | some xs, some ys => if xs.length = ys.length then allO (List.zipWith (eqG h n) xs ys) else some false
      | _, _ => none
def eqF (h : PHeap) (x y : PV) : Option Bool :=
  match eqD h x y with
  | some b => some b
  | none => match x, y with
    | .tup xs, .tup ys => match eqTup xs ys with
      | some b => some b
      | none => eqG h 40 x y
    | x, y => if flatP x && flatP y then none else eqG h 40 x y
def inP (x : PV) (ds : List PV) : Bool := ds.any fun y => eqP y x
def ordF (op : Cop) (x y : PV) : Option Bool :=
  match op, x, y with
  | .lt, .int i, .int j => some (decide (i < j))
  | .le, .int i, .int j => some (decide (i ≤ j))
  | .gt, .int i, .int j => some (decide (j < i))
  | .ge, .int i, .int j => some (decide (j ≤ i))
  | .lt, .str x, .str y => some (decide (x.cps.toList < y.cps.toList))
  | .le, .str x, .str y => some (!decide (y.cps.toList < x.cps.toList))
  | _, _, _ => none
def isF (x y : PV) : Option Bool :=
  match x, y with
  | .bl a, .bl b => some (decide (a = b))
  | .non, .non => some true
  | _, .non => some false
  | _, _ => none
def inF (h : PHeap) (x y : PV) : Option Bool :=
  match x, y with
  | .str a, .str b => match a.cps.toList with
    | [c] => some (decide (c ∈ b.cps.toList))
    | _ => none
  | x, y => match seqOf h y with
  | some ds => if flatP x = true ∧ ds.all flatP = true then some (inP x ds) else none
  | none => none
def cmpB (op : Cop) (h : PHeap) (x y : PV) : Option Bool :=
  match op with
  | .eq => eqF h x y
  | .ne => (eqD h x y).map (!·)
  | .isin => inF h x y
  | .notin => (inF h x y).map (!·)
  | .is => isF x y
  | .isnot => (isF x y).map (!·)
  | op => ordF op x y
def cmpF (op : Cop) : Pf
  | [x, y], h => (cmpB op h x y).map fun b => (.bl b, h)
  | _, _ => none
def cutP (xs : List PV) (lo hi : Option Int) : List PV := List.take (HT.sIx xs.length xs.length hi - HT.sIx xs.length 0 lo) (List.drop (HT.sIx xs.length 0 lo) xs)
def sameK (p : PV) (k : NestedKey) : Bool := match nkOf p with
  | some q => NestedKey.beq q k
  | none => false
def dFind (kvs : List (PV × PV)) (k : NestedKey) : Option PV := (kvs.find? fun p => sameK p.1 k).map (·.2)
def dStore (kvs : List (PV × PV)) (k : NestedKey) (kp v : PV) : List (PV × PV) :=
  if (dFind kvs k).isSome then kvs.map fun p => if sameK p.1 k then (p.1, v) else p else kvs ++ [(kp, v)]
def isTupP : PV → Bool
  | .tup _ => true
  | _ => false
/-- the key fits the dict's keys: numbers and texts, or tuples -/
def fitsK (kvs : List (PV × PV)) (k : PV) (nk : NestedKey) : Bool :=
  ((keyOf k).isSome && kvs.all fun p => (keyOf p.1).isSome) || (isTupP k && decide (nk.depth ≤ 8) && kvs.all fun p => isTupP p.1)
def dGetF (kvs : List (PV × PV)) (k : PV) : Option PV := match nkOf k with
  | some nk => if fitsK kvs k nk then dFind kvs nk else none
  | none => none
def dPutF (kvs : List (PV × PV)) (k v : PV) : Option (List (PV × PV)) := match nkOf k with
  | some nk => if fitsK kvs k nk && decide (kvs.length < sizeLine) then some (dStore kvs nk k v) else none
  | none => none
def getF (o i : PV) (h : PHeap) : Option PV :=
  match o with
  | .str x => match i with
    | .int i => if x.length ≤ sizeLine then (atI x.cps.toList i).map fun c => .str ⟨#[c]⟩ else none
    | _ => none
  | .tup ds => match i with
    | .int i => atI ds i
    | _ => none
  | .scr ns => match i with
    | .int i => atI (ns.map PV.int) i
    | _ => none
  | o => match objOf h o with
    | some (.dic kvs) => dGetF kvs i
    | some (.lst ds) => match i with
      | .int i => atI ds i
      | _ => none
    | _ => none
def subF : Pf
  | [o, i], h => (getF o i h).map fun d => (d, h)
  | _, _ => none
def slcF (o : PV) (lo hi : Option Int) (h : PHeap) : Option (PV × PHeap) :=
  match o with
  | .tup ds => if HT.sIx ds.length 0 lo = 0 ∧ HT.sIx ds.length ds.length hi = ds.length then some (.tup ds, h) else some (.tup (cutP ds lo hi), h)
  | _ => match lstOf h o with
    | some ds => some (.fl (cutP ds lo hi), h)
    | none => none
def bools : List PV → Option (List Bool)
  | [] => some []
  | .bl b :: r => (bools r).map (b :: ·)
  | _ => none
def tyName (h : PHeap) : PV → Option String
  | .non => some "NoneType"
  | .bl _ => some "bool"
  | .int _ => some "int"
  | .str _ => some "str"
  | .tup _ => some "tuple"
  | v => match objOf h v with
    | some (.lst _) => some "list"
    | some (.dic kvs) => if kvs.all fun p => (keyOf p.1).isSome then some "dict" else none
    | _ => none
def strsP : List PV → Option (List Str)
  | [] => some []
  | .str x :: r => (strsP r).map (x :: ·)
  | _ => none
def reprP : PV → Option Str
  | .non => some "None"
  | .bl b => some (if b then "True" else "False")
  | .int i => if i.natAbs.log2 < 1920 then some (toString i) else none
  | _ => none
/-- repr of lists, tuples -/
def reprC (h : PHeap) (v : PV) : Option Str := match reprP v with
  | some x => some x
  | none => match v, toD h 30 v with
    | .str _, _ => none
    | _, some d => if d.showable = true ∧ d.hasDict = false ∧ d.depth ≤ 40 ∧ d.shown.length ≤ sizeLine then some d.shown else none
    | _, none => none
def setP (h : PHeap) (v : PV) : Option (PV × PHeap) := match lstOf h v with
  | some ds => match strsP ds with
    | some xs => if xs.length < 64 then some (.fz (.set ((dedS xs).map PV.str)), h) else none
    | none => none
  | none => none
def sortP (h : PHeap) (v : PV) : Option (PV × PHeap) := match objOf h v with
  | some (.set ds) => (strsP ds).map fun xs => (.fl ((sortS xs).map PV.str), h)
  | some (.lst ds) => match strsP ds with
    | some xs => if xs.length < 64 then some (.fl ((sortS xs).map PV.str), h) else none
    | none => none
  | _ => none
def bltF (b : Bi) : Pf := fun ds h =>
  match b, ds with
  | .len, [.str x] => if x.length ≤ sizeLine then some (.int x.length, h) else none
  | .len, [v] => (seqOf h v).map fun ds => (.int ds.length, h)
  | .isinstance, [v, .ty n] => match tyName h v with
    | some t => (kitB t n).map fun b => (.bl b, h)
    | none => none
  | .all, [v] => match lstOf h v with
    | some ds => (bools ds).map fun bs => (.bl (bs.all id), h)
    | none => none
  | .abs, [.int i] => some (.int (if i < 0 then -i else i), h)
  | .int, [.int i] => some (.int i, h)
  | .int, [.bl k] => some (.int (if k then 1 else 0), h)
  | .max, [.int m, .int n] => some (.int (if n > m then n else m), h)
  | .min, [.int m, .int n] => some (.int (if n < m then n else m), h)
  | .tuple, [.tup ds] => some (.tup ds, h)
  | .tuple, [v] => (lstOf h v).map fun ds => (.tup ds, h)
  | .list, [v] => (seqOf h v).map fun ds => (.fl ds, h)
  | .listm, [v] => (seqOf h v).map fun ds => newO (.lst ds) h
  | .set, [v] => setP h v
  | .sorted, [v] => sortP h v
  | .repr, [v] => (reprP v).map fun x => (.str x, h)
  | .reprc, [v] => (reprC h v).map fun x => (.str x, h)
  | _, _ => none
def appP : Pf := fun ds h =>
  match ds with
  | [.ref i, v] => match h[i]? with
    | some (.lst xs) => if xs.length < sizeLine then some (.non, h.set i (.lst (xs ++ [v]))) else none
    | _ => none
  | _ => none
def neRef (i : Nat) : PV → Bool
  | .ref j => i != j
  | _ => true
def extP : Pf := fun ds h =>
  match ds with
  | [.ref i, v] => match h[i]?, lstOf h v with
    | some (.lst xs), some ys => if xs.length + ys.length ≤ sizeLine ∧ neRef i v = true then some (.non, h.set i (.lst (xs ++ ys))) else none
    | _, _ => none
  | _ => none
/-- what a method is asked of -/
def rcvOk (m : Mi) (d : PV) (h : PHeap) : Bool :=
  match d with
  | .ref i => match h[i]? with
    | some (.lst _) => true
    | _ => false
  | _ => false
def popP : Pf := fun ds h =>
  match ds with
  | [.ref i] => match h[i]? with
    | some (.lst xs) => match xs[xs.length - 1]? with
      | some y => some (y, h.set i (.lst xs.dropLast))
      | none => none
    | _ => none
  | _ => none
def popiP : Pf := fun ds h =>
  match ds with
  | [.ref i, .int k] => match h[i]? with
    | some (.lst xs) => if 0 ≤ k ∧ k < 2 ^ 62 then match xs[k.toNat]? with
      | some y => some (y, h.set i (.lst (xs.eraseIdx k.toNat)))
      | none => none
      else none
    | _ => none
  | _ => none
def methF : Mi → Pf
  | .append => appP
  | .extend => extP
  | .pop => popiP
def revP (z : Bool) : Pf := fun ds h =>
  match ds with
  | [v] => (lstOf h v).map fun xs => mkL z xs.reverse h
  | _ => none

/-! ### the interpreter -/
/-- the classes: with slots or not, a slot's place, a plain attribute, methods, properties -/
structure Ct where
  isSl : Nat → Bool
  slot : Nat → Nat → Option Nat
  fld : Nat → Nat → Bool
  /-- the defs that call a lambda: the classes they catch and what they then tell; what they tell else -/
  met : Nat → Option (List (Nat × Str) × Str)
  /-- is the one error one of the other's -/
  exm : Nat → Nat → Option Bool
  /-- a class's method -/
  mth : Nat → Nat → Option Nat
  /-- is the class one of the other's -/
  sub : Nat → Nat → Option Bool
  /-- a class's __eq__ -/
  eqm : Nat → Option Nat
  /-- a class's classmethod -/
  cmt : Nat → Nat → Option Nat
structure Orc where
  call : Nat → List PV → PHeap → R PV
  ct : Ct
def ownF (ct : Ct) (c f : Nat) : Bool := if ct.isSl c then (ct.slot c f).isSome else ct.fld c f
def attrF (ct : Ct) (f : Nat) : Pf := fun ds h =>
  match ds with
  | [v] => match objOf h v with
    | some (.ins c fs) => if ownF ct c f then (fs.lookup f).map fun d => (d, h) else none
    | _ => none
  | _ => none
def setFl (fs : List (Nat × PV)) (f : Nat) (v : PV) : List (Nat × PV) :=
  match fs with
  | [] => [(f, v)]
  | (g, w) :: r => if g = f then (g, v) :: r else (g, w) :: setFl r f v
def fldF (ct : Ct) (o : PV) (f : Nat) (v : PV) (h : PHeap) : Option PHeap :=
  match o with
  | .ref i => match h[i]? with
    | some (.ins c fs) => if ownF ct c f && decide (fs.length < 900) then some (h.set i (.ins c (setFl fs f v))) else none
    | _ => none
  | _ => none
/-- a method's def, asked of an instance -/
def mthF (ct : Ct) (h : PHeap) (v : PV) (m : Nat) : Option Nat := match objOf h v with
  | some (.ins c fs) => if ct.isSl c = false then ct.mth c m else none
  | _ => none
def isiP (ct : Ct) : Pf := fun ds h =>
  match ds with
  | [v, .gl c] => match objOf h v with
    | some (.ins d _) => (ct.sub d c).map fun b => (.bl b, h)
    | _ => match tyName h v with
      | some _ => if (ct.sub c c).isSome then some (.bl false, h) else none
      | none => none
  | _ => none
def oeqR (C : Orc) (ne : Bool) (x y : PV) (h : PHeap) : R PV := match objOf h x, objOf h y with
  | some (.ins c _), some (.ins d _) => if c = d ∧ C.ct.isSl c = false then match C.ct.eqm c with
    | some f => match C.call f [x, y] h with
      | .ok (.bl r) h3 => .ok (.bl (ne != r)) h3
      | _ => .stuck
    | none => .stuck
    else .stuck
  | _, _ => .stuck
/-- an instance is made: the object, then __init__ -/
def makeF (call : Nat → List PV → PHeap → R PV) (c f : Nat) (ds : List PV) (h : PHeap) : R PV :=
  match call f (.ref h.length :: ds) (h ++ [.ins c []]) with
  | .ok .non h2 => .ok (.ref h.length) h2
  | _ => .stuck
inductive RS where
  | nx (l : Loc) (h : PHeap)
  | rt (d : PV) (h : PHeap)
  | bk (l : Loc) (h : PHeap)
  | ct (l : Loc) (h : PHeap)
  | exc (c : PV) (fs : List (Nat × PV)) (l : Loc) (h : PHeap)
  | stuck
def R.toS {α : Type} (m : R α) (l : Loc) (k : α → PHeap → RS) : RS :=
  match m with
  | .ok a h => k a h
  | .exc c fs h => .exc c fs l h
  | .stuck => .stuck
inductive Src where
  | seq (ds : List PV)
  | lst (i : Nat)
def srcAt (h : PHeap) (i : Nat) : Src → Option (Option PV)
  | .seq ds => some ds[i]?
  | .lst r => match h[r]? with
    | some (.lst ds) => some ds[i]?
    | _ => none
def srcLen (h : PHeap) : Src → Nat
  | .seq ds => ds.length
  | .lst r => match h[r]? with
    | some (.lst ds) => ds.length
    | _ => 0
def srcOf (h : PHeap) : PV → Option Src
  | .tup ds => some (.seq ds)
  | .fz (.lst ds) => some (.seq ds)
  | .str x => some (.seq (x.cps.toList.map fun c => .str ⟨#[c]⟩))
  | .ref i => match h[i]? with
    | some (.lst _) => some (.lst i)
    | _ => none
  | _ => none
/-- what stands still: a tuple, a list that nobody changes -/
def fzS : PV → Option (Bool × List PV)
  | .tup ds => some (true, ds)
  | .fz (.lst ds) => some (false, ds)
  | _ => none
def enmP (d : PV) : Option Src := match fzS d with
  | some (_, ds) => some (.seq (ds.mapIdx fun i x => .tup [.int i, x]))
  | none => none
def zipP (d e : PV) : Option Src := match fzS d, fzS e with
  | some (a, xs), some (b, ys) => if a = b then some (.seq (List.zipWith (fun x y => .tup [x, y]) xs ys)) else none
  | _, _ => none
def rngOf (lo hi : Int) : Option Src :=
  if -2 ^ 62 ≤ lo ∧ lo < 2 ^ 62 ∧ -2 ^ 62 ≤ hi ∧ hi < 2 ^ 62 then some (.seq ((List.range (hi - lo).toNat).map fun (i : Nat) => .int (lo + i))) else none
mutual
def bindT : Tg → PV → Loc → Option Loc
  | .nm i, d, l => if i < l.length then some (l.set i (some d)) else none
  | .tp ts, .tup ds, l => bindTs ts ds l
  | .tp _, _, _ => none
def bindTs : Tgs → List PV → Loc → Option Loc
  | .nil, [], l => some l
  | .cons t ts, d :: ds, l => match bindT t d l with
    | some l' => bindTs ts ds l'
    | none => none
  | _, _, _ => none
end
def wipeP (l : Loc) : List Nat → Loc
  | [] => l
  | i :: r => (wipeP l r).set i none
/-- the turns of a comprehension: what is made so far, the turn's number -/
def lcLoop (tg : Tg) (src : Src) (tt : Loc → PHeap → R Bool) (el : Loc → PHeap → R PV) (lw : Loc) : Nat → Nat → List PV → PHeap → R (List PV)
  | 0, _, _, _ => .stuck
  | n + 1, i, acc, h => match srcAt h i src with
    | none => .stuck
    | some none => .ok acc h
    | some (some d) => match bindT tg d lw with
      | none => .stuck
      | some l => match tt l h with
        | .ok false h1 => lcLoop tg src tt el lw n (i + 1) acc h1
        | .ok true h1 => match el l h1 with
          | .ok y h2 => if acc.length < sizeLine then lcLoop tg src tt el lw n (i + 1) (acc ++ [y]) h2 else .stuck
          | _ => .stuck
        | _ => .stuck
def forLoop (tg : Tg) (src : Src) (body : Loc → PHeap → RS) : Nat → Nat → Loc → PHeap → RS
  | 0, _, _, _ => .stuck
  | n + 1, i, l, h => match srcAt h i src with
    | none => .stuck
    | some none => .nx l h
    | some (some d) => match bindT tg d l with
      | none => .stuck
      | some l1 => match body l1 h with
        | .nx l2 h2 => forLoop tg src body n (i + 1) l2 h2
        | .ct l2 h2 => forLoop tg src body n (i + 1) l2 h2
        | .bk l2 h2 => .nx l2 h2
        | .rt d h2 => .rt d h2
        | .exc c fs l2 h2 => .exc c fs l2 h2
        | .stuck => .stuck
def whlLoop (c : Loc → PHeap → R Bool) (body : Loc → PHeap → RS) : Nat → Loc → PHeap → RS
  | 0, _, _ => .stuck
  | n + 1, l, h => (c l h).toS l fun b h1 => match b with
    | false => .nx l h1
    | true => match body l h1 with
      | .nx l2 h2 => whlLoop c body n l2 h2
      | .ct l2 h2 => whlLoop c body n l2 h2
      | .bk l2 h2 => .nx l2 h2
      | .rt d h2 => .rt d h2
      | .exc c fs l2 h2 => .exc c fs l2 h2
      | .stuck => .stuck
def metGo (ct : Ct) (c : Nat) (h : PHeap) : List (Nat × Str) → R PV
  | [] => .stuck
  | (d, x) :: r => match ct.exm c d with
    | some true => .ok (.str x) h
    | some false => metGo ct c h r
    | none => .stuck
def metF (ct : Ct) (m : Nat) (r : R PV) : R PV := match ct.met m with
  | none => .stuck
  | some (hs, last) => match r with
    | .ok _ h => .ok (.str last) h
    | .exc (.gl c) _ h => metGo ct c h hs
    | _ => .stuck
def truthR (r : R PV) : R Bool := r.bind fun d h => match truthF h d with
  | some b => .ok b h
  | none => .stuck
def optI : R PV → R (Option Int)
  | .ok (.int i) h => .ok (some i) h
  | .ok _ _ => .stuck
  | .exc c fs h => .exc c fs h
  | .stuck => .stuck
def srcR (s : Option Src) (h : PHeap) : R Src := match s with
  | some s => .ok s h
  | none => .stuck
mutual
def evE (C : Orc) : Ex → Loc → PHeap → R PV
  | .loc i, l, h => match l[i]? with
    | some (some d) => .ok d h
    | _ => .stuck
  | .con d, _, h => .ok d h
  | .bin op a b, l, h => ev2 (evE C a) (evE C b) (bopF op) l h
  | .neg a, l, h => (evE C a l h).bind fun x h1 => match x with
    | .int i => .ok (.int (-i)) h1
    | _ => .stuck
  | .not a, l, h => (truthR (evE C a l h)).bind fun b h1 => .ok (.bl !b) h1
  | .cmp op a b, l, h => ev2 (evE C a) (evE C b) (cmpF op) l h
  | .chn op op' a b c, l, h => (evE C a l h).bind fun x h1 => (evE C b l h1).bind fun y h2 => (liftP (cmpF op [x, y] h2)).bind fun r h3 => match r with
    | .bl true => (evE C c l h3).bind fun z h4 => liftP (cmpF op' [y, z] h4)
    | .bl false => .ok (.bl false) h3
    | _ => .stuck
  | .and a b, l, h => (evE C a l h).bind fun x h1 => match truthF h1 x with
    | some true => evE C b l h1
    | some false => .ok x h1
    | none => .stuck
  | .or a b, l, h => (evE C a l h).bind fun x h1 => match truthF h1 x with
    | some true => .ok x h1
    | some false => evE C b l h1
    | none => .stuck
  | .ite c a b, l, h => (truthR (evE C c l h)).bind fun k h1 => match k with
    | true => evE C a l h1
    | false => evE C b l h1
  | .tup es, l, h => (evA C es l h).bind fun ds h1 => if ds.length ≤ sizeLine then .ok (.tup ds) h1 else .stuck
  | .lst z es, l, h => (evA C es l h).bind fun ds h1 => if ds.length ≤ sizeLine then liftP (some (mkL z ds h1)) else .stuck
  | .call f es, l, h => (evA C es l h).bind fun ds h1 => C.call f ds h1
  | .make c f es, l, h => (evA C es l h).bind fun ds h1 => makeF C.call c f ds h1
  | .blt b es, l, h => (evA C es l h).bind fun ds h1 => liftP (bltF b ds h1)
  | .meth m o es, l, h => (evE C o l h).bind fun x h1 => match rcvOk m x h1 with
    | true => (evA C es l h1).bind fun ds h2 => liftP (methF m (x :: ds) h2)
    | false => .stuck
  | .sub o i, l, h => ev2 (evE C o) (evE C i) subF l h
  | .slc o lo hi, l, h => (evE C o l h).bind fun x h1 => (evOp C lo l h1).bind fun a h2 => (evOp C hi l h2).bind fun b h3 => liftP (slcF x a b h3)
  | .attr o f, l, h => ev1 (evE C o) (attrF C.ct f) l h
  | .lc z elt tg it ifs own, l, h => (evI C it l h).bind fun src h1 =>
      (lcLoop tg src (evT1 C ifs) (evE C elt) (wipeP l own) (srcLen h1 src + 1) 0 [] h1).bind fun ds h2 => liftP (some (mkL z ds h2))
  | .dic0 z, l, h => liftP (some (mkD z h))
  | .met m e, l, h => metF C.ct m (evE C e l h)
  | .pop o, l, h => ev1 (evE C o) popP l h
  | .rev z o, l, h => ev1 (evE C o) (revP z) l h
  | .mcl m o es, l, h => (evE C o l h).bind fun x h1 => match mthF C.ct h1 x m with
    | some f => (evA C es l h1).bind fun ds h2 => C.call f (x :: ds) h2
    | none => .stuck
  | .mc0 m o, l, h => (evE C o l h).bind fun x h1 => match mthF C.ct h1 x m with
    | some f => C.call f [x] h1
    | none => .stuck
  | .oeq ne a b, l, h => (evE C a l h).bind fun x h1 => (evE C b l h1).bind fun y h2 => oeqR C ne x y h2
  | .cmt c m es, l, h => match C.ct.cmt c m with
    | some f => (evA C es l h).bind fun ds h1 => C.call f (.gl c :: ds) h1
    | none => .stuck
  | .mkl i c f es, l, h => match l[i]? with
    | some (some (.gl d)) => if d = c then (evA C es l h).bind fun ds h1 => makeF C.call c f ds h1 else .stuck
    | _ => .stuck
  | .isi es, l, h => (evA C es l h).bind fun ds h1 => liftP (isiP C.ct ds h1)
def evA (C : Orc) : Exs → Loc → PHeap → R (List PV)
  | .nil, _, h => .ok [] h
  | .cons e es, l, h => evCons (evE C e) (evA C es) l h
  | .star e es, l, h => (evE C e l h).bind fun x h1 => match seqOf h1 x with
    | some ds => (evA C es l h1).bind fun xs h2 => .ok (ds ++ xs) h2
    | none => .stuck
def evOp (C : Orc) : Op → Loc → PHeap → R (Option Int)
  | .no, _, h => .ok none h
  | .yes e, l, h => optI (evE C e l h)
def evI (C : Orc) : Itr → Loc → PHeap → R Src
  | .val e, l, h => (evE C e l h).bind fun d h1 => srcR (srcOf h1 d) h1
  | .rng1 e, l, h => (evE C e l h).bind fun d h1 => match d with
    | .int j => srcR (rngOf 0 j) h1
    | _ => .stuck
  | .rng2 a b, l, h => (evE C a l h).bind fun d h1 => (evE C b l h1).bind fun e h2 => match d, e with
    | .int i, .int j => srcR (rngOf i j) h2
    | _, _ => .stuck
  | .enm e, l, h => (evE C e l h).bind fun d h1 => srcR (enmP d) h1
  | .zp a b, l, h => (evE C a l h).bind fun d h1 => (evE C b l h1).bind fun e h2 => srcR (zipP d e) h2
/-- the if of a comprehension -/
def evT1 (C : Orc) : Op → Loc → PHeap → R Bool
  | .no, _, h => .ok true h
  | .yes e, l, h => truthR (evE C e l h)
end
def putF (o i v : PV) (h : PHeap) : Option PHeap :=
  match o with
  | .ref r => match h[r]? with
    | some (.lst ds) => match i with
      | .int k => (ixN ds.length k).map fun j => h.set r (.lst (ds.set j v))
      | _ => none
    | some (.dic kvs) => (dPutF kvs i v).map fun kvs' => h.set r (.dic kvs')
    | _ => none
  | _ => none
mutual
def exS (C : Orc) : Sx → Loc → PHeap → RS
  | .ex e, l, h => (evE C e l h).toS l fun _ h1 => .nx l h1
  | .asg t e, l, h => (evE C e l h).toS l fun d h1 => match bindT t d l with
    | some l1 => .nx l1 h1
    | none => .stuck
  | .put o i e, l, h => (evE C e l h).toS l fun v h1 => (evE C o l h1).toS l fun x h2 => (evE C i l h2).toS l fun y h3 => match putF x y v h3 with
    | some h4 => .nx l h4
    | none => .stuck
  | .fld o f e, l, h => (evE C e l h).toS l fun v h1 => (evE C o l h1).toS l fun x h2 => match fldF C.ct x f v h2 with
    | some h3 => .nx l h3
    | none => .stuck
  | .ret e, l, h => (evE C e l h).toS l fun d h1 => .rt d h1
  | .ret0, l, h => .rt .non h
  | .iff c a b, l, h => (truthR (evE C c l h)).toS l fun k h1 => match k with
    | true => exSs C a l h1
    | false => exSs C b l h1
  | .for_ t it b, l, h => (evI C it l h).toS l fun src h1 => forLoop t src (exSs C b) (srcLen h1 src + 1) 0 l h1
  | .whl c b, l, h => whlLoop (fun l h => truthR (evE C c l h)) (exSs C b) 1000000 l h
  | .pass, l, h => .nx l h
  | .brk, l, h => .bk l h
  | .cnt, l, h => .ct l h
  | .rai c m, l, h => .exc (.gl c) [] l h
def exSs (C : Orc) : Sxs → Loc → PHeap → RS
  | .nil, l, h => .nx l h
  | .cons s r, l, h => match exS C s l h with
    | .nx l1 h1 => exSs C r l1 h1
    | x => x
end
/-! ### what leaves a def: frozen, and what was made inside is gone -/
mutual
/-- all places are below n -/
def clV (n : Nat) : PV → Bool
  | .tup ds => clVs n ds
  | .fz o => clO n o
  | .ref i => decide (i < n)
  | _ => true
def clO (n : Nat) : PObj → Bool
  | .lst ds => clVs n ds
  | .dic kvs => clKs n kvs
  | .set ds => clVs n ds
  | .ins _ fs => clFs n fs
def clVs (n : Nat) : List PV → Bool
  | [] => true
  | d :: r => clV n d && clVs n r
def clKs (n : Nat) : List (PV × PV) → Bool
  | [] => true
  | (k, v) :: r => clV n k && clV n v && clKs n r
def clFs (n : Nat) : List (Nat × PV) → Bool
  | [] => true
  | (_, v) :: r => clV n v && clFs n r
end
mutual
def PV.same : PV → PV → Bool
  | .non, .non => true
  | .bl a, .bl b => a == b
  | .int a, .int b => a == b
  | .str a, .str b => a == b
  | .tup a, .tup b => PV.sames a b
  | .fz a, .fz b => PObj.same a b
  | .ref a, .ref b => a == b
  | .ty a, .ty b => a == b
  | .gl a, .gl b => a == b
  | .scr a, .scr b => a == b
  | _, _ => false
termination_by structural x => x
def PObj.same : PObj → PObj → Bool
  | .lst a, .lst b => PV.sames a b
  | .dic a, .dic b => PV.sameK a b
  | .set a, .set b => PV.sames a b
  | .ins c a, .ins d b => c == d && PV.sameF a b
  | _, _ => false
termination_by structural x => x
def PV.sames : List PV → List PV → Bool
  | [], [] => true
  | a :: r, b :: t => PV.same a b && PV.sames r t
  | _, _ => false
termination_by structural x => x
def PV.sameK : List (PV × PV) → List (PV × PV) → Bool
  | [], [] => true
  | (a, v) :: r, (b, w) :: t => PV.same a b && PV.same v w && PV.sameK r t
  | _, _ => false
termination_by structural x => x
def PV.sameF : List (Nat × PV) → List (Nat × PV) → Bool
  | [], [] => true
  | (a, v) :: r, (b, w) :: t => a == b && PV.same v w && PV.sameF r t
  | _, _ => false
termination_by structural x => x
end
def frzO (f : PV → Option PV) : PObj → Option PObj
  | .lst ds => (mapO f ds).map .lst
  | .dic kvs => (mapO (fun p => if (nkOf p.1).isSome then (f p.2).map fun v => (p.1, v) else none) kvs).map .dic
  | .set ds => some (.set ds)
  | .ins c fs => (mapO (fun p => (f p.2).map fun v => (p.1, v)) fs).map (.ins c)
def frzV (h : PHeap) (n : Nat) : Nat → PV → Option PV
  | 0, d => if clV n d then some d else none
  | k + 1, d => if clV n d then some d else match d with
    | .tup ds => (mapO (frzV h n k) ds).map .tup
    | .fz o => (frzO (frzV h n k) o).map .fz
    | .ref i => match h[i]? with
      | some o => (frzO (frzV h n k) o).map .fz
      | none => none
    | _ => none
/-- the objects that were there: as they were, or without new places in them -/
def sealH (n : Nat) : PHeap → PHeap → Option PHeap
  | [], _ => some []
  | o :: r, o' :: r' => if PObj.same o o' || clO n o' then (sealH n r r').map (o' :: ·) else none
  | _ :: _, [] => none
def sealF (h : PHeap) : R PV → R PV
  | .ok d h' => match frzV h' h.length 6 d, sealH h.length h h' with
    | some d1, some h1 => .ok d1 h1
    | _, _ => .stuck
  | .exc c fs h' => if clV h.length c && clFs h.length fs then match sealH h.length h h' with
      | some h1 => .exc c fs h1
      | none => .stuck
    else .stuck
  | .stuck => .stuck
/-- a def: how many parameters, how many slots, the body; sealed: what it made inside is gone behind it -/
structure Fd where
  np : Nat
  n : Nat
  body : Sxs
  fz : Bool
def runFn (fd : Fd) (C : Orc) (ds : List PV) (h : PHeap) : R PV :=
  if ds.length = fd.np then
    match exSs C fd.body (ds.map some ++ List.replicate (fd.n - fd.np) none) h with
    | .nx _ h1 => .ok .non h1
    | .rt d h1 => .ok d h1
    | .exc c fs _ h1 => .exc c fs h1
    | _ => .stuck
  else .stuck
def runFs (fd : Fd) (C : Orc) (ds : List PV) (h : PHeap) : R PV := if fd.fz then sealF h (runFn fd C ds h) else runFn fd C ds h
def callN (ct : Ct) (T : Nat → Option Fd) : Nat → Nat → List PV → PHeap → R PV
  | 0, _, _, _ => .stuck
  | n + 1, f, ds, h => match T f with
    | some fd => runFs fd ⟨callN ct T n, ct⟩ ds h
    | none => .stuck
mutual
theorem PV.same_eq : ∀ (a b : PV), PV.same a b = true → a = b
  | .non, b, h => by cases b <;> simp [PV.same] at h ⊢
  | .bl x, b, h => by cases b <;> simp [PV.same] at h ⊢; exact h
  | .int x, b, h => by cases b <;> simp [PV.same] at h ⊢; exact h
  | .str x, b, h => by cases b <;> simp [PV.same] at h ⊢; exact h
  | .tup x, b, h => by cases b <;> simp [PV.same] at h ⊢; exact PV.sames_eq _ _ h
  | .ty x, b, h => by cases b <;> simp [PV.same] at h ⊢; exact h
  | .fz x, b, h => by cases b <;> simp [PV.same] at h ⊢; exact PObj.same_eq _ _ h
  | .ref x, b, h => by cases b <;> simp [PV.same] at h ⊢; exact h
  | .gl x, b, h => by cases b <;> simp [PV.same] at h ⊢; exact h
  | .scr x, b, h => by cases b <;> simp [PV.same] at h ⊢; exact h
theorem PObj.same_eq : ∀ (a b : PObj), PObj.same a b = true → a = b
  | .lst x, b, h => by cases b <;> simp [PObj.same] at h ⊢; exact PV.sames_eq _ _ h
  | .set x, b, h => by cases b <;> simp [PObj.same] at h ⊢; exact PV.sames_eq _ _ h
  | .dic x, b, h => by cases b <;> simp [PObj.same] at h ⊢; exact PV.sameK_eq _ _ h
  | .ins c x, b, h => by cases b <;> simp [PObj.same] at h ⊢; exact ⟨h.1, PV.sameF_eq _ _ h.2⟩
theorem PV.sames_eq : ∀ (a b : List PV), PV.sames a b = true → a = b
  | [], b, h => by cases b <;> simp [PV.sames] at h ⊢
  | x :: r, b, h => by
    cases b with
    | nil => simp [PV.sames] at h
    | cons y t => simp [PV.sames] at h; rw [PV.same_eq x y h.1, PV.sames_eq r t h.2]
theorem PV.sameK_eq : ∀ (a b : List (PV × PV)), PV.sameK a b = true → a = b
  | [], b, h => by cases b <;> simp [PV.sameK] at h ⊢
  | (x, v) :: r, b, h => by
    cases b with
    | nil => simp [PV.sameK] at h
    | cons y t => simp [PV.sameK] at h; rw [PV.sameK_eq r t h.2]; simp [Prod.ext_iff, PV.same_eq x _ h.1.1, PV.same_eq v _ h.1.2]
theorem PV.sameF_eq : ∀ (a b : List (Nat × PV)), PV.sameF a b = true → a = b
  | [], b, h => by cases b <;> simp [PV.sameF] at h ⊢
  | (x, v) :: r, b, h => by
    cases b with
    | nil => simp [PV.sameF] at h
    | cons y t => simp [PV.sameF] at h; rw [PV.sameF_eq r t h.2]; simp [Prod.ext_iff, h.1.1, PV.same_eq v _ h.1.2]
end
mutual
theorem PV.same_rfl : ∀ d : PV, PV.same d d = true
  | .non => rfl
  | .bl _ => by simp [PV.same]
  | .int _ => by simp [PV.same]
  | .str _ => by simp [PV.same]
  | .tup ds => by simp [PV.same, PV.sames_rfl ds]
  | .fz o => by simp [PV.same, PObj.same_rfl o]
  | .ref _ => by simp [PV.same]
  | .ty _ => by simp [PV.same]
  | .gl _ => by simp [PV.same]
  | .scr _ => by simp [PV.same]
theorem PObj.same_rfl : ∀ d : PObj, PObj.same d d = true
  | .lst ds => by simp [PObj.same, PV.sames_rfl ds]
  | .set ds => by simp [PObj.same, PV.sames_rfl ds]
  | .dic ds => by simp [PObj.same, PV.sameK_rfl ds]
  | .ins _ ds => by simp [PObj.same, PV.sameF_rfl ds]
theorem PV.sames_rfl : ∀ d : List PV, PV.sames d d = true
  | [] => rfl
  | d :: r => by simp [PV.sames, PV.same_rfl d, PV.sames_rfl r]
theorem PV.sameK_rfl : ∀ d : List (PV × PV), PV.sameK d d = true
  | [] => rfl
  | (k, v) :: r => by simp [PV.sameK, PV.same_rfl k, PV.same_rfl v, PV.sameK_rfl r]
theorem PV.sameF_rfl : ∀ d : List (Nat × PV), PV.sameF d d = true
  | [] => rfl
  | (k, v) :: r => by simp [PV.sameF, PV.same_rfl v, PV.sameF_rfl r]
end
end Zed
end
section
set_option Elab.async false
set_option linter.all false
set_option maxRecDepth 100000
namespace Zed
open PySem L2
section
variable {G : Gc} {φ φ' : List Addr} {h h' : PHeap} {H H' : Hp} {a p : Addr} {d : PV} {v : V} {ds : List PV} {vs : List V} {l : Loc} {σ : St} {o : PObj} {u : HO} {i : Nat} {od : Obj}
theorem paired_map {α β : Type} {F F' : α → β → Prop} {l : List α} {m : List β} (p : Paired F l m) (h : ∀ a b, F a b → F' a b) : Paired F' l m := Paired.mapP p h
theorem repO_imp (rv : ∀ {d : PV} {v : V}, RepV G φ H d v → RepV G φ' H' d v) (rvs : ∀ {ds : List PV} {vs : List V}, RepVs G φ H ds vs → RepVs G φ' H' ds vs) (hx : ∀ b fs, H b = some (.xd fs) → H' b = some (.xd fs)) (ho : ∀ b x, H b = some (.own x) → H' b = some (.own x) ∨ H' b = some (.xd [])) (e : H' a = H a) (ro : RepO G φ H a o) : RepO G φ' H' a o := by
  cases o with
  | lst ds => obtain ⟨vs, e1, q⟩ := ro; exact ⟨vs, e.trans e1, rvs q⟩
  | dic kvs =>
    obtain ⟨z, ⟨ks, e1, q⟩ | ⟨xs, ne, e1, q1, q2, q⟩⟩ := ro
    · exact ⟨z, .inl ⟨ks, e.trans e1, paired_map q fun p k h => ⟨h.1, rv h.2⟩⟩⟩
    · exact ⟨z, .inr ⟨xs, ne, e.trans e1, q1, q2, paired_map q fun p k h => ⟨h.1, h.2.1, rv h.2.2.1, let ⟨v, r1, r2⟩ := h.2.2.2; ⟨v, r1, rv r2⟩⟩⟩⟩
  | set => obtain ⟨xs, ks, e0, e1, q⟩ := ro; exact ⟨xs, ks, e0, e.trans e1, q⟩
  | ins c fs =>
    obtain ⟨nd, C, dx, hC, ⟨z, ws, e1, ql, q, q2⟩ | ⟨z, vs, hs, hw, q⟩⟩ := ro
    · exact ⟨nd, C, dx, hC, .inl ⟨z, ws, e.trans e1, ql, fun f d hf => let ⟨a0, v, a1, a2⟩ := q f d hf; ⟨a0, v, a1, rv a2⟩, q2⟩⟩
    · refine ⟨nd, C, dx, hC, .inr ⟨z, vs, ?_, ⟨hw.1, hw.2.elim (fun q => ho _ _ q) (fun q => .inr (hx _ _ q))⟩, fun f d hf => let ⟨i, v, a1, a2, a3⟩ := q f d hf; ⟨i, v, a1, a2, rv a3⟩⟩⟩
      rcases hs with ⟨h1, h2⟩ | ⟨h1, h2⟩
      · exact .inl ⟨e.trans h1, h2⟩
      · exact .inr ⟨e.trans h1, hx _ _ h2⟩
theorem repO_ext (r : RelH G φ h H) (x : Ext φ H φ' H') (e : H' a = H a) (ro : RepO G φ H a o) : RepO G φ' H' a o :=
  repO_imp (repV_ext r x) (repVs_ext r x) (fun b fs q => x.keep _ _ q (r.notXd q) trivial) (fun b y q => x.own _ _ q (r.notOwn q)) e ro
theorem ext_alloc (r : RelH G φ h H) (hp : H p = none) : Ext φ H (φ ++ [p]) (upd H p u) := .of (List.prefix_append _ _)
  (fun b hb nb => by
    rcases List.mem_append.mp hb with z | z
    · exact absurd z nb
    · rw [List.mem_singleton.mp z]; exact hp)
  (fun b o e _ => by rw [upd_ne (ne_of_none e hp)]; exact e)
theorem RelH.alloc (r : RelH G φ h H) (hp : H p = none) (ro : RepO G (φ ++ [p]) (upd H p u) p o) : RelH G (φ ++ [p]) (h ++ [o]) (upd H p u) where
  tab := r.tabs (ext_alloc (u := u) r hp).new fun b o e _ _ _ => by rw [upd_ne (ne_of_none e hp)]; exact e
  len := by simp [r.len]
  nd := by
    refine List.nodup_append.mpr ⟨r.nd, by simp, fun b hb c hc => ?_⟩
    rw [List.mem_singleton.mp hc]
    intro e
    rw [e] at hb
    exact r.free hp hb
  obj := fun j o' b e1 e2 => by
    have hl := r.len
    by_cases hj : j < h.length
    · rw [List.getElem?_append_left hj] at e1
      rw [List.getElem?_append_left (by omega)] at e2
      have nb : b ≠ p := fun z => r.free hp (by rw [← z]; exact List.mem_of_getElem? e2)
      exact repO_ext r (ext_alloc r hp) (upd_ne nb) (r.obj j o' b e1 e2)
    · rw [List.getElem?_append_right (by omega)] at e1 e2
      have z1 : j - h.length = 0 := by
        have := (List.getElem?_eq_some_iff.mp e1).1
        simp at this; omega
      have z2 : j - φ.length = 0 := by omega
      rw [z1] at e1; rw [z2] at e2
      simp at e1 e2
      subst e1; subst e2
      exact ro
theorem ext_put (hi : φ[i]? = some a) : Ext φ H φ (upd H a u) := .of (List.prefix_refl _)
  (fun b hb nb => absurd hb nb)
  (fun b o e nb => by
    have n : b ≠ a := fun z => nb (by rw [z]; exact List.mem_of_getElem? hi)
    rw [upd_ne n]; exact e)
theorem nodup_get {xs : List Addr} (nd : xs.Nodup) {i j : Nat} {a : Addr} (h1 : xs[i]? = some a) (h2 : xs[j]? = some a) : i = j := by
  induction xs generalizing i j with
  | nil => simp at h1
  | cons x xs ih =>
    obtain ⟨n1, n2⟩ := List.nodup_cons.mp nd
    cases i with
    | zero =>
      cases j with
      | zero => rfl
      | succ j =>
        simp at h1 h2
        subst h1
        exact absurd (List.mem_of_getElem? h2) n1
    | succ i =>
      cases j with
      | zero =>
        simp at h1 h2
        subst h2
        exact absurd (List.mem_of_getElem? h1) n1
      | succ j => exact congrArg (· + 1) (ih n2 (i := i) (j := j) (by simpa using h1) (by simpa using h2))
theorem RelH.put (r : RelH G φ h H) (hi : φ[i]? = some a) (ro : RepO G φ (upd H a u) a o) : RelH G φ (h.set i o) (upd H a u) where
  tab := r.tabs (fun b hb nb => absurd hb nb) fun b o e nb _ _ => by rw [upd_ne fun z => nb (by rw [z]; exact List.mem_of_getElem? hi)]; exact e
  len := by simp [r.len]
  nd := r.nd
  obj := fun j o' b e1 e2 => by
    by_cases hj : j = i
    · subst hj
      rw [hi] at e2; cases e2
      have hl : j < h.length := by
        have := (List.getElem?_eq_some_iff.mp e1).1
        simpa using this
      rw [List.getElem?_set_self hl] at e1
      cases e1
      exact ro
    · rw [List.getElem?_set_ne (Ne.symm hj)] at e1
      have nb : b ≠ a := fun (z : b = a) => by
        subst z
        exact hj (nodup_get r.nd e2 hi)
      exact repO_ext r (ext_put hi) (upd_ne nb) (r.obj j o' b e1 e2)
theorem ext_tup (hp : H p = none) : Ext φ H φ (upd H p u) := .of (List.prefix_refl _)
  (fun b hb nb => absurd hb nb)
  (fun b o e _ => by rw [upd_ne (ne_of_none e hp)]; exact e)
theorem RelH.tup (r : RelH G φ h H) (hp : H p = none) : RelH G φ h (upd H p u) where
  tab := r.tabs (fun b hb nb => absurd hb nb) fun b o e _ _ _ => by rw [upd_ne (ne_of_none e hp)]; exact e
  len := r.len
  nd := r.nd
  obj := fun j o' b e1 e2 => by
    have nb : b ≠ p := fun z => r.free hp (by rw [← z]; exact List.mem_of_getElem? e2)
    exact repO_ext r (ext_tup hp) (upd_ne nb) (r.obj j o' b e1 e2)
/-- a new list -/
theorem new_lst {Q : VK} (r : RelH G φ h H) (rv : RepVs G φ H ds vs) (q : ∀ φ' H' v, Ext φ H φ' H' → RelH G φ' (h ++ [PObj.lst ds]) H' → RepV G φ' H' (.ref h.length) v → Q v H') :
    ∀ p, H p = none → Q (.ref p) (upd H p (.lst vs)) := fun p hp => by
  have x := ext_alloc (u := HO.lst vs) r hp
  refine q (φ ++ [p]) _ _ x (r.alloc hp ⟨vs, upd_same, repVs_ext r x rv⟩) (.ref ?_)
  rw [← r.len, List.getElem?_append_right (Nat.le_refl _)]; simp
theorem new_tup {Q : VK} (r : RelH G φ h H) (rv : RepVs G φ H ds vs) (q : ∀ φ' H' v, Ext φ H φ' H' → RelH G φ' h H' → RepV G φ' H' (.tup ds) v → Q v H') :
    ∀ p, H p = none → Q (.ref p) (upd H p (.tup vs)) := fun p hp => by
  have x := ext_tup (φ := φ) (u := HO.tup vs) hp
  exact q φ _ _ x (r.tup hp) (.tup (SqT.of upd_same) (repVs_ext r x rv))
/-- a new list that nobody changes -/
theorem new_fl {Q : VK} (r : RelH G φ h H) (rv : RepVs G φ H ds vs) (q : ∀ φ' H' v, Ext φ H φ' H' → RelH G φ' h H' → RepV G φ' H' (.fl ds) v → Q v H') :
    ∀ p, H p = none → ∀ od, Q (.ref p) (upd (upd H p (.lst vs)) p (.frz od (.lst vs))) := fun p hp od => by
  rw [upd_upd]
  have x := ext_tup (φ := φ) (u := HO.frz od (.lst vs)) hp
  exact q φ _ _ x (r.tup hp) (.fl ⟨od, upd_same⟩ (repVs_ext r x rv))
/-- .. any thing -/
theorem new_fz {Q : VK} (r : RelH G φ h H) (rv : RepV G φ (upd H p (.frz od u)) (.fz o) (.ref p)) (hp : H p = none) (q : ∀ φ' H' v, Ext φ H φ' H' → RelH G φ' h H' → RepV G φ' H' (.fz o) v → Q v H') :
    Q (.ref p) (upd (upd H p u) p (.frz od u)) := by
  rw [upd_upd]
  exact q φ _ _ (ext_tup hp) (r.tup hp) rv
/-- what seqOf, lstOf tell -/
theorem rep_lst (r : RelH G φ h H) (rv : RepV G φ H d v) (e : lstOf h d = some ds) : ∃ a vs, v = .ref a ∧ SqL G.K H a vs ∧ RepVs G φ H ds vs := by
  unfold lstOf at e
  cases rv with
  | fl s q => simp only [objOf] at e; cases e; exact ⟨_, _, rfl, s.sq, q⟩
  | ref hi =>
    rename_i i a
    simp only [objOf] at e
    split at e
    · rename_i xs hx
      cases e
      obtain ⟨vs, e1, q⟩ := r.obj i _ a hx hi
      exact ⟨a, vs, rfl, SqL.of e1, q⟩
    · cases e
  | _ => simp only [objOf] at e; cases e
theorem rep_lstR (r : RelH G φ h H) (rv : RepV G φ H d v) (e : lstOf h d = some ds) : ∃ a vs, v = .ref a ∧ Rd H a (.lst vs) ∧ RepVs G φ H ds vs := by
  unfold lstOf at e
  cases rv with
  | fl s q => simp only [objOf] at e; cases e; exact ⟨_, _, rfl, s.rd, q⟩
  | ref hi =>
    rename_i i a
    simp only [objOf] at e
    split at e
    · rename_i xs hx
      cases e
      obtain ⟨vs, e1, q⟩ := r.obj i _ a hx hi
      exact ⟨a, vs, rfl, .inl e1, q⟩
    · cases e
  | _ => simp only [objOf] at e; cases e
theorem ints_repVs : ∀ ns : List Int, RepVs G φ H (ns.map PV.int) (ns.map V.int)
  | [] => .nil
  | n :: r => .cons (.int n) (ints_repVs r)
theorem seq_cases (e : seqOf h d = some ds) : d = .tup ds ∨ lstOf h d = some ds ∨ ∃ ns, d = .scr ns ∧ ds = ns.map .int := by
  cases d <;> simp only [seqOf] at e <;> first | (cases e; exact .inl rfl) | exact .inr (.inl e) | (cases e; exact .inr (.inr ⟨_, rfl, rfl⟩))
theorem rep_seq (r : RelH G φ h H) (rv : RepV G φ H d v) (e : seqOf h d = some ds) : ∃ a vs, v = .ref a ∧ (SqL G.K H a vs ∨ SqT G.K H a vs) ∧ RepVs G φ H ds vs := by
  rcases seq_cases e with rfl | e | ⟨ns, rfl, rfl⟩
  · cases rv with
    | tup s q => exact ⟨_, _, rfl, .inr s, q⟩
  · obtain ⟨a, vs, e1, s, q⟩ := rep_lst r rv e
    exact ⟨a, vs, e1, .inl s, q⟩
  · cases rv with
    | scr s => exact ⟨_, _, rfl, .inl s.sq, ints_repVs ns⟩
/-- data -/
theorem mapO_cons {α β : Type} {f : α → Option β} {a : α} {r : List α} {bs : List β} (e : mapO f (a :: r) = some bs) : ∃ b bs', f a = some b ∧ mapO f r = some bs' ∧ bs = b :: bs' := by
  simp only [mapO] at e
  split at e
  · rename_i b bs' h1 h2; cases e; exact ⟨b, bs', h1, h2, rfl⟩
  · cases e
theorem rep_all (f : PV → Option PyData) (P : ∀ {d : PV} {v : V} {x : PyData}, RepV G φ H d v → f d = some x → Dp G.K H v x) : ∀ {ds : List PV} {vs : List V} {xs : List PyData}, RepVs G φ H ds vs → mapO f ds = some xs → DpAll G.K H vs xs
  | _, _, xs, .nil, e => by simp only [mapO] at e; cases e; exact .nil
  | _, _, xs, .cons r rs, e => by
    obtain ⟨b, bs, e1, e2, rfl⟩ := mapO_cons e
    exact .cons (P r e1) (rep_all f P rs e2)
theorem rep_data (r : RelH G φ h H) : ∀ (n : Nat) {d : PV} {v : V} {x : PyData}, RepV G φ H d v → toD h n d = some x → Dp G.K H v x
  | n, .non, _, _, .non, e => by unfold toD at e; cases e; exact .non
  | n, .bl b, _, _, .bl _, e => by unfold toD at e; cases e; exact .bl b
  | n, .int b, _, _, .int _, e => by unfold toD at e; cases e; exact .int b
  | n, .str b, _, _, .str _, e => by unfold toD at e; cases e; exact .str b
  | n, .ty _, _, _, _, e => by cases n <;> (unfold toD at e; cases e)
  | n, .gl _, _, _, _, e => by cases n <;> (unfold toD at e; cases e)
  | n, .scr _, _, _, _, e => by cases n <;> (unfold toD at e; cases e)
  | 0, .tup _, _, _, _, e => by unfold toD at e; cases e
  | 0, .fz _, _, _, _, e => by unfold toD at e; cases e
  | 0, .ref _, _, _, _, e => by unfold toD at e; cases e
  | n + 1, .tup ds, _, _, .tup s q, e => by
    unfold toD at e
    cases e1 : mapO (toD h n) ds with
    | none => rw [e1] at e; cases e
    | some xs => rw [e1] at e; cases e; exact .tup s (rep_all _ (rep_data r n) q e1)
  | n + 1, .fz (.lst ds), _, _, .fl s q, e => by
    unfold toD at e
    dsimp only at e
    cases e1 : mapO (toD h n) ds with
    | none => rw [e1] at e; cases e
    | some xs => rw [e1] at e; cases e; exact .lst s.sq (rep_all _ (rep_data r n) q e1)
  | n + 1, .fz (.dic _), _, _, _, e => by unfold toD at e; cases e
  | n + 1, .fz (.set _), _, _, _, e => by unfold toD at e; cases e
  | n + 1, .fz (.ins _ _), _, _, _, e => by unfold toD at e; cases e
  | n + 1, .ref i, _, _, .ref hi, e => by
    unfold toD at e
    split at e
    · rename_i ds hx
      obtain ⟨vs, e0, q⟩ := r.obj i _ _ hx hi
      cases e1 : mapO (toD h n) ds with
      | none => rw [e1] at e; cases e
      | some xs => rw [e1] at e; cases e; exact .lst (SqL.of e0) (rep_all _ (rep_data r n) q e1)
    · cases e
end
end Zed
end
section
set_option Elab.async false
set_option linter.all false
set_option maxRecDepth 100000
namespace Zed
open PySem L2
section
variable {X : Cx} {G : Gc} {φ φ' : List Addr} {h h' : PHeap} {H H' : Hp} {a p : Addr} {d : PV} {v : V} {ds : List PV} {vs : List V} {l : Loc} {σ : St} {o : PObj} {u : HO} {i : Nat}
theorem log2_big {i : Int} (h : i.natAbs < big) : i.natAbs.log2 < 9000 := by
  unfold big at h
  by_cases z : i.natAbs = 0
  · rw [z]; decide
  · exact (Nat.log2_lt z).mpr h
/-- from a reading to a rule of two -/
theorem opr_of {f : Value → Value → Sem Value} {F : Pf}
    (k : ∀ (pins : List (Addr × Obj)) (s : Shared) (σ : St) (H : Hp) (x y : V) (v u : Value) (Q : VK) (φ : List Addr) (h : PHeap) (d e : PV) (z : PV) (h' : PHeap), Inv X pins σ H s → RelV x v → RelV y u → RelH G φ h H → RepV G φ H d x → RepV G φ H e y →
      F [d, e] h = some (z, h') → (∀ φ' H' v, Ext φ H φ' H' → RelH G φ' h' H' → RepV G φ' H' z v → Q v H') → wpAny (model X.prog X.w) X.A (f v u) (EP X pins σ Q) X.xe s) : OpR X f (r2 G F) := by
  intro pins s σ H x y v u Q I rx ry q
  obtain ⟨φ, h, ds, z, h', rh, rv, e, q⟩ := q
  cases rv with
  | cons r1 rv =>
    cases rv with
    | cons r2 rv =>
      cases rv
      exact k pins s σ H x y v u Q φ h _ _ z h' I rx ry rh r1 r2 e q
theorem some2 {α β : Type} {a c : α} {b d : β} (e : some (a, b) = some (c, d)) : a = c ∧ b = d := by cases e; exact ⟨rfl, rfl⟩
/-- what is new is locked -/
theorem ep_lock {pins : List (Addr × Obj)} {Q : VK} {w : Value} {s : Shared} (e : EP X pins σ (fun v H' => ∃ d u, v = .ref d ∧ H' d = some u ∧ Mut (some u) ∧ ∀ od, Q v (upd H' d (.frz od u))) w s) : EP X pins σ Q w s := by
  obtain ⟨v, H', I, r, d, u, e1, e2, mu, q⟩ := e
  obtain ⟨od, I'⟩ := I.lock e2 mu
  exact ⟨v, _, I', r, q od⟩
theorem wp_lock {t : Sem Value} {pins : List (Addr × Obj)} {Q : VK} {s : Shared} (e : wpAny (model X.prog X.w) X.A t (EP X pins σ (fun v H' => ∃ d u, v = .ref d ∧ H' d = some u ∧ Mut (some u) ∧ ∀ od, Q v (upd H' d (.frz od u)))) X.xe s) : wpAny (model X.prog X.w) X.A t (EP X pins σ Q) X.xe s :=
  thn e fun _ _ q => ep_lock q
theorem pe_frz {e : Expr} {t : TE} (h : PE X e t) : PE X e (fun σ H Q => t σ H fun v H' => ∃ d u, v = .ref d ∧ H' d = some u ∧ Mut (some u) ∧ ∀ od, Q v (upd H' d (.frz od u))) :=
  ⟨fun pins s σ H Q I q => wp_lock (h.run pins s σ H _ I q)⟩
/-- a list that can be read, in the model's heap -/
theorem rd_list {pins : List (Addr × Obj)} {s : Shared} {b : Addr} {xs : List V} (I : Inv X pins σ H s) (r : Rd H b (.lst xs)) : ∃ (its : List Value) (n : Nat), Vals xs its ∧ s.heap.get? b = some { cls := .type "list", data := .seq its.toArray n } :=
  let ⟨_, its, n, q, e⟩ := r.ok I.hok
  ⟨its, n, q, e⟩
/-- list + list, both read: a new locked list -/
theorem cat_Z {pins : List (Addr × Obj)} {s : Shared} {b c : Addr} {xs ys : List V} {Q : VK} (I : Inv X pins σ H s) (r1 : Rd H b (.lst xs)) (r2 : Rd H c (.lst ys)) (hz : xs.length + ys.length ≤ sizeLine)
    (q : ∀ p, H p = none → ∀ od, Q (.ref p) (upd (upd H p (.lst (xs ++ ys))) p (.frz od (.lst (xs ++ ys))))) : wpAny (model X.prog X.w) X.A (binaryOp .Add (.ref b) (.ref c)) (EP X pins σ Q) X.xe s := by
  obtain ⟨is, n, v1, e1⟩ := rd_list I r1
  obtain ⟨js, m, v2, e2⟩ := rd_list I r2
  have z1 := v1.length
  have z2 := v2.length
  refine wp_lock (PySem.P.add_list e1 e2 (hsz := by simp only [List.size_toArray]; omega) ?_)
  have J := I.lnew (t' := s.toks) (v1.append v2) (by simpa using hz)
  rw [show is.toArray ++ js.toArray = (is ++ js).toArray by simp]
  exact ⟨.ref _, _, J, rfl, _, _, rfl, upd_same, trivial, q _ I.fresh⟩
theorem op_addZ (hK : G.K = X.K) : OpR X (binaryOp .Add) (r2 G (bopF .add)) := by
  refine opr_of fun pins s σ H x y v u Q φ h d e z h' I rx ry rh r1 r2 ef q => ?_
  simp only [bopF] at ef
  unfold addF at ef
  split at ef
  · obtain ⟨rfl, rfl⟩ := some2 ef
    cases r1; cases r2
    exact op_add pins s σ H _ _ v u Q I rx ry ⟨_, _, rfl, rfl, q φ H _ .refl rh (.int _)⟩
  · split at ef
    · rename_i hz
      obtain ⟨rfl, rfl⟩ := some2 ef
      cases r1; cases r2
      exact op_add_str pins s σ H _ _ v u Q I rx ry ⟨_, _, rfl, rfl, hz, q φ H _ .refl rh (.str _)⟩
    · cases ef
  · split at ef
    · rename_i xs ys hz
      obtain ⟨rfl, rfl⟩ := some2 ef
      cases r1 with
      | tup s1 q1 =>
        cases r2 with
        | tup s2 q2 =>
          have l1 := q1.length
          have l2 := q2.length
          refine op_catA pins s σ H _ _ v u Q I rx ry ⟨_, _, _, _, rfl, rfl, hK ▸ s1, hK ▸ s2, by omega, fun e => ?_, fun _ e => ?_, fun _ _ => new_tup rh (q1.append q2) q⟩
          · have z : xs = [] := by apply List.eq_nil_of_length_eq_zero; rw [l1, e]; rfl
            subst z
            exact q φ H _ .refl rh (.tup s2 q2)
          · have z : ys = [] := by apply List.eq_nil_of_length_eq_zero; rw [l2, e]; rfl
            subst z
            rw [List.append_nil] at q
            exact q φ H _ .refl rh (.tup s1 q1)
    · cases ef
  · split at ef
    · rename_i xs ys e1 e2
      split at ef
      · rename_i hz
        obtain ⟨rfl, rfl⟩ := some2 ef
        obtain ⟨a, as, rfl, sa, qa⟩ := rep_lstR rh r1 e1
        obtain ⟨b, bs, rfl, sb, qb⟩ := rep_lstR rh r2 e2
        have l1 := qa.length
        have l2 := qb.length
        cases rx
        cases ry
        exact cat_Z I sa sb (by omega) (new_fl rh (qa.append qb) q)
      · cases ef
    · cases ef
theorem RepVs.rep {xs : List PV} (q : RepVs G φ H ds vs) : ∀ n, RepVs G φ H (List.replicate n ds).flatten (List.replicate n vs).flatten
  | 0 => .nil
  | n + 1 => by
    rw [List.replicate_succ, List.replicate_succ, List.flatten_cons, List.flatten_cons]
    exact q.append (RepVs.rep (xs := xs) q n)
theorem op_mulZ (hK : G.K = X.K) : OpR X (binaryOp .Mult) (r2 G (bopF .mul)) := by
  refine opr_of fun pins s σ H x y v u Q φ h d e z h' I rx ry rh r1 r2 ef q => ?_
  simp only [bopF] at ef
  unfold mulF at ef
  split at ef
  · split at ef
    · rename_i hz
      obtain ⟨rfl, rfl⟩ := some2 ef
      cases r1; cases r2
      refine op_mulW pins s σ H _ _ v u Q I rx ry ⟨_, _, rfl, rfl, ?_, q φ H _ .refl rh (.int _)⟩
      have := log2_big hz.1
      have := log2_big hz.2
      show _ + _ < _
      omega
    · cases ef
  · split at ef
    · rename_i hz
      obtain ⟨rfl, rfl⟩ := some2 ef
      cases r1 with
      | tup s1 q1 =>
        cases r2
        have l1 := q1.length
        refine op_repT pins s σ H _ _ v u Q I rx ry ⟨_, _, _, rfl, rfl, hK ▸ s1, fun e => ?_, hz.2.1, hz.2.2.1, by omega, new_tup rh (RepVs.rep (xs := []) q1 _) q⟩
        rw [e] at l1
        exact hz.1 (List.eq_nil_of_length_eq_zero l1)
    · cases ef
  · split at ef
    · rename_i xs e1
      split at ef
      · rename_i hz
        obtain ⟨rfl, rfl⟩ := some2 ef
        cases r1 with
        | ref hi =>
          obtain ⟨as, sa, qa⟩ := rh.obj _ _ _ e1 hi
          cases r2
          have l1 := qa.length
          exact wp_lock (op_rep pins s σ H _ _ v u _ I rx ry ⟨_, _, _, rfl, rfl, sa, hz.1, hz.2.1, by rw [← l1]; exact hz.2.2, fun p np => ⟨p, _, rfl, upd_same, trivial, new_fl rh (RepVs.rep (xs := []) qa _) q p np⟩⟩)
      · cases ef
    · cases ef
  · cases ef
theorem op_powW : OpR X (binaryOp .Pow) (rI (fun i j => 0 ≤ j ∧ j ≤ 1000 ∧ i.natAbs < 2 ^ 300) fun i j => .int (i ^ j.toNat)) := opI fun i j _ _ _ _ _ hc q => by
  refine PyProof.Rows.pow_int hc.1 ?_ q
  have hb := PyProof.Rows.intBits_le hc.2.2
  have h1 : (Builtin.Int.intBits i : Int) * j ≤ 300 * j := Int.mul_le_mul_of_nonneg_right (by omega) hc.1
  have := hc.2.1
  omega
theorem op_arZ {op : Bop} {bo : Operator} {C : Int → Int → Prop} {g : Int → Int → Int} (o : OpR X (binaryOp bo) (rI C fun i j => .int (g i j))) (hop : ∀ x y h, bopF op [x, y] h = match x, y with | .int i, .int j => (arI op i j).map fun k => (.int k, h) | _, _ => none)
    (har : ∀ i j k, arI op i j = some k → C i j ∧ k = g i j) : OpR X (binaryOp bo) (r2 G (bopF op)) := by
  refine opr_of fun pins s σ H x y v u Q φ h d e z h' I rx ry rh r1 r2 ef q => ?_
  rw [hop] at ef
  split at ef
  · rename_i i j
    cases e1 : arI op i j with
    | none => rw [e1] at ef; cases ef
    | some k =>
      rw [e1] at ef
      obtain ⟨rfl, rfl⟩ := some2 ef
      obtain ⟨c, rfl⟩ := har i j k e1
      cases r1; cases r2
      exact o pins s σ H _ _ v u Q I rx ry ⟨_, _, rfl, rfl, c, q φ H _ .refl rh (.int _)⟩
  · cases ef
theorem op_subZ : OpR X (binaryOp .Sub) (r2 G (bopF .sub)) := op_arZ (C := fun _ _ => True) (g := fun i j => i - j) (fun pins s σ H x y v u Q I rx ry ⟨i, j, e1, e2, _, q⟩ => op_sub pins s σ H x y v u Q I rx ry ⟨i, j, e1, e2, q⟩) (fun _ _ _ => rfl) fun i j k e => by
  simp only [arI] at e; cases e; exact ⟨trivial, rfl⟩
theorem op_fdivZ : OpR X (binaryOp .FloorDiv) (r2 G (bopF .fdiv)) := op_arZ (g := fun i j => i / j) op_fdivW (fun _ _ _ => rfl) fun i j k e => by
  simp only [arI] at e
  split at e
  · rename_i hz; cases e; exact ⟨⟨hz.1, log2_big hz.2⟩, rfl⟩
  · cases e
theorem op_modZ : OpR X (binaryOp .Mod) (r2 G (bopF .mod)) := op_arZ (g := fun i j => i % j) op_mod (fun _ _ _ => rfl) fun i j k e => by
  simp only [arI] at e
  split at e
  · rename_i hz; cases e; exact ⟨hz, rfl⟩
  · cases e
theorem op_powZ : OpR X (binaryOp .Pow) (r2 G (bopF .pow)) := op_arZ (g := fun i j => i ^ j.toNat) op_powW (fun _ _ _ => rfl) fun i j k e => by
  simp only [arI] at e
  split at e
  · rename_i hz; cases e; exact ⟨hz, rfl⟩
  · cases e
/-! ### comparisons -/
theorem cmp_of {co : CmpOp} {op : Cop}
    (k : ∀ (pins : List (Addr × Obj)) (s : Shared) (σ : St) (H : Hp) (x y : V) (v u : Value) (Q : VK) (φ : List Addr) (h : PHeap) (d e : PV) (b : Bool), Inv X pins σ H s → RelV x v → RelV y u → RelH G φ h H → RepV G φ H d x → RepV G φ H e y →
      cmpB op h d e = some b → Q (.bl b) H → wpAny (model X.prog X.w) X.A (compareOp co v u) (EP X pins σ Q) X.xe s) : OpR X (compareOp co) (r2 G (cmpF op)) := by
  refine opr_of fun pins s σ H x y v u Q φ h d e z h' I rx ry rh r1 r2 ef q => ?_
  simp only [cmpF] at ef
  cases e1 : cmpB op h d e with
  | none => rw [e1] at ef; cases ef
  | some b =>
    rw [e1] at ef
    obtain ⟨rfl, rfl⟩ := some2 ef
    exact k pins s σ H x y v u Q φ h d e b I rx ry rh r1 r2 e1 (q φ H _ .refl rh (.bl _))
theorem eq_data (rh : RelH G φ h H) {x y : V} {d e : PV} {b : Bool} (r1 : RepV G φ H d x) (r2 : RepV G φ H e y) (e1 : eqD h d e = some b) : ∃ p q, Dp G.K H x p ∧ Dp G.K H y q ∧ SeqAt.shaped p = true ∧ SeqAt.shaped q = true ∧ b = PyData.eqv p q := by
  unfold eqD at e1
  split at e1
  · rename_i p q h1 h2
    split at e1
    · rename_i hz
      cases e1
      exact ⟨p, q, rep_data rh _ r1 h1, rep_data rh _ r2 h2, hz.1, hz.2, rfl⟩
    · cases e1
  · cases e1
theorem flat_eq {x : V} {d : PV} (r : RepV G φ H d x) (f : flatP d = true) : flatV x = true ∧ ∀ {e : PV} {y : V}, RepV G φ H e y → flatP e = true → eqV y x = eqP e d := by
  cases r <;> simp only [flatP] at f <;> first | (cases f; done) | skip
  all_goals refine ⟨rfl, fun {e y} r2 f2 => ?_⟩
  all_goals (cases r2 <;> simp only [flatP] at f2 <;> first | (cases f2; done) | rfl)
theorem eqTup_run {A : Around} {s : Shared} : ∀ {xs ys : List PV} {vs ws : List V} {us ts : List Value} {b : Bool}, RepVs G φ H xs vs → RepVs G φ H ys ws → Vals vs us → Vals ws ts → eqTup xs ys = some b →
    ∃ f : Nat → Bool, (∀ j (h1 : j < us.length) (h2 : j < ts.length), SeqAt.EqAt A s us[j] ts[j] (f j)) ∧ ((List.range (min us.length ts.length)).all f && us.length == ts.length) = b
  | [], [], _, _, _, _, _, .nil, .nil, .nil, .nil, e => by
    simp only [eqTup] at e; cases e
    exact ⟨fun _ => true, fun j h1 => absurd h1 (by simp), rfl⟩
  | [], _ :: _, _, _, _, _, _, .nil, .cons _ _, .nil, .cons _ _, e => by
    simp only [eqTup] at e; cases e
    exact ⟨fun _ => true, fun j h1 => absurd h1 (by simp), by simp⟩
  | _ :: _, [], _, _, _, _, _, .cons _ _, .nil, .cons _ _, .nil, e => by
    simp only [eqTup] at e; cases e
    exact ⟨fun _ => true, fun j h1 h2 => absurd h2 (by simp), by simp⟩
  | x :: xs, y :: ys, _, _, _, _, b, .cons rx q1, .cons ry q2, .cons vx w1, .cons vy w2, e => by
    simp only [eqTup] at e
    split at e
    · rename_i hf
      rw [Bool.and_eq_true] at hf
      cases e2 : eqTup xs ys with
      | none => rw [e2] at e; cases e
      | some c =>
        rw [e2] at e
        cases e
        obtain ⟨f, g1, g2⟩ := eqTup_run (A := A) (s := s) q1 q2 w1 w2 e2
        refine ⟨fun j => match j with | 0 => eqP x y | j + 1 => f j, fun j h1 h2 => ?_, ?_⟩
        · cases j with
          | zero =>
            have fx := flat_eq rx hf.1
            have fy := flat_eq ry hf.2
            have z := eqAt_V (A := A) (s := s) vx vy fx.1 fy.1
            rw [fy.2 rx hf.1] at z
            exact z
          | succ j => exact g1 j (Nat.lt_of_succ_lt_succ h1) (Nat.lt_of_succ_lt_succ h2)
        · rw [← g2]
          simp only [List.length_cons, Nat.succ_min_succ, List.range_succ_eq_map, List.all_cons, List.all_map, Function.comp_def, Bool.and_assoc]
          congr 2
          simp
    · cases e
theorem eqP_same {x : V} {d e : PV} (r1 : RepV G φ H d x) (r2 : RepV G φ H e x) (f1 : flatP d = true) (f2 : flatP e = true) : eqP d e = true := by
  cases r1 <;> simp only [flatP] at f1 <;> first | (cases f1; done) | skip
  all_goals (cases r2 <;> simp [eqP])
/-- the pairs of two rows of values -/
theorem zip_run {P : PV → PV → Value → Value → Bool → Prop} {f : PV → PV → Option Bool} (hp : ∀ d e x y u t b, RepV G φ H d x → RepV G φ H e y → RelV x u → RelV y t → f d e = some b → P d e u t b) :
    ∀ {xs ys : List PV} {vs ws : List V} {us ts : List Value} {b : Bool}, RepVs G φ H xs vs → RepVs G φ H ys ws → Vals vs us → Vals ws ts → allO (List.zipWith f xs ys) = some b →
      ∃ g : Nat → Bool, (∀ j (h1 : j < us.length) (h2 : j < ts.length), ∃ d e, P d e us[j] ts[j] (g j)) ∧ (List.range (min us.length ts.length)).all g = b ∧ us.length = xs.length ∧ ts.length = ys.length
  | [], ys, _, _, _, _, _, .nil, r2, .nil, w2, e => by
    simp only [List.zipWith_nil_left, allO] at e
    cases e
    refine ⟨fun _ => true, fun j h1 => absurd h1 (by simp), by simp, rfl, ?_⟩
    rw [← w2.length, r2.length]
  | x :: xs, [], _, _, _, _, _, .cons r1 q1, .nil, .cons v1 w1, .nil, e => by
    simp only [List.zipWith_nil_right, allO] at e
    cases e
    refine ⟨fun _ => true, fun j h1 h2 => absurd h2 (by simp), by simp, ?_, rfl⟩
    have := w1.length
    have := q1.length
    simp only [List.length_cons]; omega
  | x :: xs, y :: ys, _, _, _, _, b, .cons rx q1, .cons ry q2, .cons vx w1, .cons vy w2, e => by
    simp only [List.zipWith_cons_cons] at e
    cases e0 : f x y with
    | none => rw [e0] at e; cases e
    | some c0 =>
      rw [e0] at e
      simp only [allO] at e
      cases e2 : allO (List.zipWith f xs ys) with
      | none => rw [e2] at e; cases e
      | some c =>
        rw [e2] at e
        cases e
        obtain ⟨g, g1, g2, g3, g4⟩ := zip_run hp q1 q2 w1 w2 e2
        refine ⟨fun j => match j with | 0 => c0 | j + 1 => g j, fun j h1 h2 => ?_, ?_, by simp [g3], by simp [g4]⟩
        · cases j with
          | zero => exact ⟨x, y, hp x y _ _ _ _ c0 rx ry vx vy e0⟩
          | succ j => exact g1 j (Nat.lt_of_succ_lt_succ h1) (Nat.lt_of_succ_lt_succ h2)
        · rw [← g2]
          simp only [List.length_cons, Nat.succ_min_succ, List.range_succ_eq_map, List.all_cons, List.all_map, Function.comp_def]
theorem eqG_flat {n : Nat} {d e : PV} (f : (flatP d && flatP e) = true) : eqG h n d e = some (eqP d e) := by
  cases n <;> (unfold eqG; rw [if_pos f])
theorem allO_true {f : PV → PV → Option Bool} (hf : ∀ {d e : PV} {x : V} {b : Bool}, RepV G φ H d x → RepV G φ H e x → f d e = some b → b = true) : ∀ {xs ys : List PV} {vs : List V} {b : Bool}, RepVs G φ H xs vs → RepVs G φ H ys vs → allO (List.zipWith f xs ys) = some b → b = true
  | _, _, _, _, .nil, .nil, e => by simp only [List.zipWith_nil_left, allO] at e; cases e; rfl
  | x :: xs, y :: ys, _, _, .cons r1 q1, .cons r2 q2, e => by
    simp only [List.zipWith_cons_cons] at e
    cases e0 : f x y with
    | none => rw [e0] at e; cases e
    | some c0 =>
      rw [e0] at e
      simp only [allO] at e
      cases e2 : allO (List.zipWith f xs ys) with
      | none => rw [e2] at e; cases e
      | some c =>
        rw [e2] at e
        cases e
        rw [hf r1 r2 e0, allO_true hf q1 q2 e2]; rfl
/-- the kinds of what eqG compares -/
theorem eqG_cases {n : Nat} {d e : PV} {b : Bool} (z : eqG h (n + 1) d e = some b) : ((flatP d && flatP e) = true ∧ b = eqP d e) ∨
    (∃ xs ys c, d = .tup xs ∧ e = .tup ys ∧ allO (List.zipWith (eqG h n) xs ys) = some c ∧ b = (c && xs.length == ys.length)) ∨
    (∃ xs ys, lstOf h d = some xs ∧ lstOf h e = some ys ∧ ((xs.length = ys.length ∧ allO (List.zipWith (eqG h n) xs ys) = some b) ∨ (xs.length ≠ ys.length ∧ b = false))) := by
  unfold eqG at z
  split at z
  · rename_i f; cases z; exact .inl ⟨f, rfl⟩
  · split at z
    · rename_i xs ys _
      cases e1 : allO (List.zipWith (eqG h n) xs ys) with
      | none => rw [e1] at z; cases z
      | some c => rw [e1] at z; cases z; exact .inr (.inl ⟨xs, ys, c, rfl, rfl, e1, rfl⟩)
    · split at z
      · rename_i xs ys e1 e2
        split at z
        · rename_i hl; exact .inr (.inr ⟨xs, ys, e1, e2, .inl ⟨hl, z⟩⟩)
        · rename_i hl; cases z; exact .inr (.inr ⟨xs, ys, e1, e2, .inr ⟨hl, rfl⟩⟩)
      · cases z
theorem eqG_same {pins : List (Addr × Obj)} {σ : St} {s : Shared} (I : Inv X pins σ H s) (hK : G.K = X.K) (rh : RelH G φ h H) : ∀ (n : Nat) {d e : PV} {x : V} {b : Bool}, RepV G φ H d x → RepV G φ H e x → eqG h n d e = some b → b = true
  | 0, d, e, x, b, r1, r2, z => by
    unfold eqG at z
    split at z
    · rename_i f; rw [Bool.and_eq_true] at f; cases z; exact eqP_same r1 r2 f.1 f.2
    · cases z
  | n + 1, d, e, x, b, r1, r2, z => by
    rcases eqG_cases z with ⟨f, rfl⟩ | ⟨xs, ys, c, rfl, rfl, e1, rfl⟩ | ⟨xs, ys, e1, e2, k⟩
    · rw [Bool.and_eq_true] at f; exact eqP_same r1 r2 f.1 f.2
    · cases r1 with
      | tup t1 q1 =>
        cases r2 with
        | tup t2 q2 =>
          have := I.tuple_inj (hK ▸ t1) (hK ▸ t2)
          subst this
          have l1 := q1.length
          have l2 := q2.length
          rw [allO_true (fun a b c => eqG_same I hK rh n a b c) q1 q2 e1, Bool.true_and, beq_iff_eq]; omega
    · obtain ⟨a, vs, rfl, s1, q1⟩ := rep_lst rh r1 e1
      obtain ⟨a', vs', e3, s2, q2⟩ := rep_lst rh r2 e2
      cases e3
      have := I.list_inj (hK ▸ s1) (hK ▸ s2)
      subst this
      have l1 := q1.length
      have l2 := q2.length
      rcases k with ⟨_, k⟩ | ⟨k, _⟩
      · exact allO_true (fun a b c => eqG_same I hK rh n a b c) q1 q2 k
      · omega
theorem eqG_rc {pins : List (Addr × Obj)} {σ : St} {s : Shared} (I : Inv X pins σ H s) (hK : G.K = X.K) (rh : RelH G φ h H) : ∀ (n : Nat) {A : Around} {d e : PV} {x y : V} {v u : Value} {b : Bool}, A.units + n < cLine → RepV G φ H d x → RepV G φ H e y → RelV x v → RelV y u → eqG h n d e = some b →
    SeqAt.EqAt A s v u b ∧ ((flatP d && flatP e) = false → SeqAt.RcAt A s v u b)
  | 0, A, d, e, x, y, v, u, b, hu, r1, r2, v1, v2, z => by
    unfold eqG at z
    split at z
    · rename_i f
      have f' := f
      rw [Bool.and_eq_true] at f; cases z
      have fx := flat_eq r1 f.1
      have fy := flat_eq r2 f.2
      have z := eqAt_V (A := A) (s := s) v1 v2 fx.1 fy.1
      rw [fy.2 r1 f.1] at z
      exact ⟨z, fun k => by rw [f'] at k; cases k⟩
    · cases z
  | n + 1, A, d, e, x, y, v, u, b, hu, r1, r2, v1, v2, z => by
    have both : ∀ {l m : Addr}, v = .ref l → u = .ref m → SeqAt.RcAt A s v u b → SeqAt.EqAt A s v u b ∧ ((flatP d && flatP e) = false → SeqAt.RcAt A s v u b) := fun {l m} e1 e2 k => by
      subst e1; subst e2
      refine ⟨?_, fun _ => k⟩
      by_cases q : l = m
      · subst q
        have e3 : x = .ref l := v1.inj rfl
        have e4 : y = .ref l := v2.inj rfl
        subst e3; subst e4
        rw [eqG_same I hK rh (n + 1) r1 r2 z]
        exact .same _
      · exact .of_refs q k
    have st : A.in1.units + n < cLine := by simp only [Around.in1]; omega
    rcases eqG_cases z with ⟨f, rfl⟩ | ⟨xs, ys, c, rfl, rfl, e1, rfl⟩ | ⟨xs, ys, e1, e2, k⟩
    · have f' := f
      rw [Bool.and_eq_true] at f
      have fx := flat_eq r1 f.1
      have fy := flat_eq r2 f.2
      have z := eqAt_V (A := A) (s := s) v1 v2 fx.1 fy.1
      rw [fy.2 r1 f.1] at z
      exact ⟨z, fun k => by rw [f'] at k; cases k⟩
    · cases r1 with
      | tup t1 q1 =>
        cases r2 with
        | tup t2 q2 =>
          cases v1; cases v2
          obtain ⟨its, w1, p1, _⟩ := I.tuple (hK ▸ t1)
          obtain ⟨jts, w2, p2, _⟩ := I.tuple (hK ▸ t2)
          obtain ⟨g, g1, g2, g3, g4⟩ := zip_run (P := fun _ _ u t b => SeqAt.EqAt A.in1 s u t b) (fun d e x y u t b a1 a2 a3 a4 a5 => (eqG_rc I hK rh n st a1 a2 a3 a4 a5).1) q1 q2 w1 w2 e1
          refine both rfl rfl ?_
          have k := SeqAt.RcAt.tuples (A := A) (e := g) p1 p2 (by omega) (fun j h1 h2 => by
            obtain ⟨_, _, k⟩ := g1 j (by simpa using h1) (by simpa using h2)
            simpa using k)
          have e5 : ((List.range (min its.toArray.size jts.toArray.size)).all g && its.toArray.size == jts.toArray.size) = (c && xs.length == ys.length) := by
            simp only [List.size_toArray]
            rw [g2, g3, g4]
          rw [e5] at k
          exact k
    · obtain ⟨a, vs, rfl, s1, q1⟩ := rep_lst rh r1 e1
      obtain ⟨a', vs', rfl, s2, q2⟩ := rep_lst rh r2 e2
      cases v1; cases v2
      obtain ⟨its, w1, p1, _⟩ := I.list (hK ▸ s1)
      obtain ⟨jts, w2, p2, _⟩ := I.list (hK ▸ s2)
      have l1 := q1.length
      have l2 := q2.length
      have l3 := w1.length
      have l4 := w2.length
      refine both rfl rfl ?_
      rcases k with ⟨k1, k⟩ | ⟨k1, rfl⟩
      · obtain ⟨g, g1, g2, g3, g4⟩ := zip_run (P := fun _ _ u t b => SeqAt.EqAt A.in1 s u t b) (fun d e x y u t b a1 a2 a3 a4 a5 => (eqG_rc I hK rh n st a1 a2 a3 a4 a5).1) q1 q2 w1 w2 k
        have k := SeqAt.RcAt.lists (A := A) (e := g) p1.isList p2.isList (by simp only [List.size_toArray]; omega) (by omega) (fun j h1 h2 => by
            obtain ⟨_, _, k⟩ := g1 j (by simpa using h1) (by simpa using h2)
            simpa using k)
        have e5 : (List.range its.toArray.size).all g = b := by
          simp only [List.size_toArray]
          rw [← g2, show min its.length jts.length = its.length by omega]
        rw [e5] at k
        exact k
      · exact SeqAt.RcAt.lists_lengths (A := A) p1.isList p2.isList (by simp only [List.size_toArray, bne_iff_ne]; omega) (by omega)
theorem op_eqZ (hK : G.K = X.K) (hu : X.A.units + 64 < cLine) : OpR X (compareOp .Eq) (r2 G (cmpF .eq)) := by
  refine cmp_of fun pins s σ H x y v u Q φ h d e b I rx ry rh r1 r2 e1 q => ?_
  have gen : ∀ b, eqG h 40 d e = some b → (flatP d && flatP e) = false → Q (.bl b) H → wpAny (model X.prog X.w) X.A (compareOp .Eq v u) (EP X pins σ Q) X.xe s := fun b z f q =>
    (eqG_rc I hK rh 40 (A := X.A) (by omega) r1 r2 rx ry z).2 f _ _ _ _ ⟨.bl b, H, I, rfl, q⟩
  simp only [cmpB, eqF] at e1
  split at e1
  · rename_i b' e2
    cases e1
    obtain ⟨p, p', d1, d2, s1, s2, rfl⟩ := eq_data rh r1 r2 e2
    exact op_eqD hu pins s σ H x y v u Q I rx ry ⟨p, p', hK ▸ d1, hK ▸ d2, s1, s2, q⟩
  · split at e1
    · split at e1
      · rename_i b' e2
        cases e1
        cases r1 with
        | tup t1 q1 =>
          cases r2 with
          | tup t2 q2 =>
            cases rx; cases ry
            obtain ⟨its, w1, p1, _⟩ := I.tuple (hK ▸ t1)
            obtain ⟨jts, w2, p2, _⟩ := I.tuple (hK ▸ t2)
            obtain ⟨f, g1, g2⟩ := eqTup_run (A := X.A.in1) (s := s) q1 q2 w1 w2 e2
            refine SeqAt.eq_tupleAt (e := f) p1 p2 (by omega) (fun j h1 h2 => ?_) ⟨.bl _, H, I, ?_, q⟩
            · simpa using g1 j (by simpa using h1) (by simpa using h2)
            · show Value.bool _ = Value.bool _
              rw [← g2]; simp
      · exact gen _ e1 rfl q
    · split at e1
      · cases e1
      · rename_i f
        exact gen _ e1 (by simpa using f) q
theorem map_not {o : Option Bool} {b : Bool} (e : o.map (!·) = some b) : o = some !b := by
  cases o with
  | none => cases e
  | some c => cases e; simp
theorem op_neZ (hK : G.K = X.K) (hu : X.A.units + 64 < cLine) : OpR X (compareOp .NotEq) (r2 G (cmpF .ne)) := by
  refine cmp_of fun pins s σ H x y v u Q φ h d e b I rx ry rh r1 r2 e1 q => ?_
  obtain ⟨p, p', d1, d2, s1, s2, e2⟩ := eq_data rh r1 r2 (map_not e1)
  refine op_neD hu pins s σ H x y v u Q I rx ry ⟨p, p', hK ▸ d1, hK ▸ d2, s1, s2, ?_⟩
  rw [← e2]; simpa using q
theorem flat_all {x : V} {d : PV} (r : RepV G φ H d x) (f : flatP d = true) : ∀ {es : List PV} {ys : List V}, RepVs G φ H es ys → es.all flatP = true → ys.all flatV = true ∧ inV x ys = inP d es
  | _, _, .nil, _ => ⟨rfl, rfl⟩
  | _, _, .cons a b, g => by
    rw [List.all_cons, Bool.and_eq_true] at g
    obtain ⟨i1, i2⟩ := flat_all r f b g.2
    refine ⟨by rw [List.all_cons, (flat_eq a g.1).1, i1]; rfl, ?_⟩
    show (eqV _ x || inV x _) = (eqP _ d || inP d _)
    rw [i2, (flat_eq r f).2 a g.1]
theorem in_data (rh : RelH G φ h H) {x y : V} {d e : PV} {b : Bool} (r1 : RepV G φ H d x) (r2 : RepV G φ H e y) (e1 : inF h d e = some b) : (∃ p xs, y = V.ref p ∧ (SqL G.K H p xs ∨ SqT G.K H p xs) ∧ flatV x = true ∧ xs.all flatV = true ∧ inV x xs = b) ∨
    ∃ (c : Nat) (z : Str), x = .str ⟨#[c]⟩ ∧ y = .str z ∧ b = decide (c ∈ z.cps.toList) := by
  unfold inF at e1
  split at e1
  · rename_i a z
    split at e1
    · rename_i c hc
      cases e1
      cases r1; cases r2
      refine .inr ⟨c, z, ?_, rfl, rfl⟩
      obtain ⟨⟨l⟩⟩ := a
      simp only at hc
      subst hc; rfl
    · cases e1
  · split at e1
    · rename_i ds h1
      split at e1
      · rename_i hz
        cases e1
        obtain ⟨p, vs, rfl, sq, rv⟩ := rep_seq rh r2 h1
        obtain ⟨i1, i2⟩ := flat_all r1 hz.1 rv hz.2
        exact .inl ⟨p, vs, rfl, sq, (flat_eq r1 hz.1).1, i1, i2⟩
      · cases e1
    · cases e1
theorem op_inZ (hK : G.K = X.K) : OpR X (compareOp .In) (r2 G (cmpF .isin)) := by
  refine cmp_of fun pins s σ H x y v u Q φ h d e b I rx ry rh r1 r2 e1 q => ?_
  rcases in_data rh r1 r2 e1 with ⟨p, xs, rfl, sq, f1, f2, e2⟩ | ⟨c, z, rfl, rfl, rfl⟩
  · refine op_in_seq pins s σ H x _ v u Q I rx ry ⟨p, xs, rfl, hK ▸ sq, f1, f2, ?_⟩
    rw [e2]; exact q
  · exact op_in_sign pins s σ H _ _ v u Q I rx ry ⟨c, z, rfl, rfl, q⟩
theorem op_notinZ (hK : G.K = X.K) : OpR X (compareOp .NotIn) (r2 G (cmpF .notin)) := by
  refine cmp_of fun pins s σ H x y v u Q φ h d e b I rx ry rh r1 r2 e1 q => ?_
  rcases in_data rh r1 r2 (map_not e1) with ⟨p, xs, rfl, sq, f1, f2, e2⟩ | ⟨c, z, rfl, rfl, e3⟩
  · refine op_notIn_seq pins s σ H x _ v u Q I rx ry ⟨p, xs, rfl, hK ▸ sq, f1, f2, ?_⟩
    rw [e2]; simpa using q
  · refine op_notIn_sign pins s σ H _ _ v u Q I rx ry ⟨c, z, rfl, rfl, ?_⟩
    rw [← e3]; simpa using q
theorem is_data {x y : V} {d e : PV} {b : Bool} (r1 : RepV G φ H d x) (r2 : RepV G φ H e y) (e1 : isF d e = some b) : (∃ a c, x = .bl a ∧ y = .bl c ∧ b = decide (a = c)) ∨ (y = .non ∧ b = decide (x = .non)) := by
  unfold isF at e1
  split at e1
  · cases e1; cases r1; cases r2; exact .inl ⟨_, _, rfl, rfl, rfl⟩
  · cases e1; cases r1; cases r2; exact .inr ⟨rfl, rfl⟩
  · cases e1; cases r2; refine .inr ⟨rfl, ?_⟩
    cases r1 <;> first | rfl | (rename_i n _; exact absurd rfl (n rfl)) | (exfalso; simp_all)
  · cases e1
theorem op_isZ : OpR X (compareOp .Is) (r2 G (cmpF .is)) := by
  refine cmp_of fun pins s σ H x y v u Q φ h d e b I rx ry rh r1 r2 e1 q => ?_
  rcases is_data r1 r2 e1 with ⟨a, c, rfl, rfl, rfl⟩ | ⟨rfl, rfl⟩
  · exact op_is_bl pins s σ H _ _ v u Q I rx ry ⟨a, c, rfl, rfl, q⟩
  · exact op_isN pins s σ H _ _ v u Q I rx ry ⟨rfl, q⟩
theorem op_isnotZ : OpR X (compareOp .IsNot) (r2 G (cmpF .isnot)) := by
  refine cmp_of fun pins s σ H x y v u Q φ h d e b I rx ry rh r1 r2 e1 q => ?_
  rcases is_data r1 r2 (map_not e1) with ⟨a, c, rfl, rfl, e⟩ | ⟨rfl, e⟩
  · refine op_isnot_bl pins s σ H _ _ v u Q I rx ry ⟨a, c, rfl, rfl, ?_⟩
    rw [← e]; simpa using q
  · refine op_notN pins s σ H _ _ v u Q I rx ry ⟨rfl, ?_⟩
    rw [← e]; simpa using q
theorem op_ltZ : OpR X (compareOp .Lt) (r2 G (cmpF .lt)) := by
  refine cmp_of fun pins s σ H x y v u Q φ h d e b I rx ry rh r1 r2 e1 q => ?_
  simp only [cmpB] at e1
  unfold ordF at e1
  split at e1 <;> first | (exfalso; simp_all; done) | skip
  · cases e1; cases r1; cases r2; exact op_lt pins s σ H _ _ v u Q I rx ry ⟨_, _, rfl, rfl, q⟩
  · cases e1; cases r1; cases r2; exact op_lt_str pins s σ H _ _ v u Q I rx ry ⟨_, _, rfl, rfl, q⟩
theorem op_leZ : OpR X (compareOp .LtE) (r2 G (cmpF .le)) := by
  refine cmp_of fun pins s σ H x y v u Q φ h d e b I rx ry rh r1 r2 e1 q => ?_
  simp only [cmpB] at e1
  unfold ordF at e1
  split at e1 <;> first | (exfalso; simp_all; done) | skip
  · cases e1; cases r1; cases r2; exact op_le pins s σ H _ _ v u Q I rx ry ⟨_, _, rfl, rfl, q⟩
  · cases e1; cases r1; cases r2; exact op_le_str pins s σ H _ _ v u Q I rx ry ⟨_, _, rfl, rfl, q⟩
theorem op_gtZ : OpR X (compareOp .Gt) (r2 G (cmpF .gt)) := by
  refine cmp_of fun pins s σ H x y v u Q φ h d e b I rx ry rh r1 r2 e1 q => ?_
  simp only [cmpB] at e1
  unfold ordF at e1
  split at e1 <;> first | (exfalso; simp_all; done) | skip
  · cases e1; cases r1; cases r2; exact op_gt pins s σ H _ _ v u Q I rx ry ⟨_, _, rfl, rfl, q⟩
theorem op_geZ : OpR X (compareOp .GtE) (r2 G (cmpF .ge)) := by
  refine cmp_of fun pins s σ H x y v u Q φ h d e b I rx ry rh r1 r2 e1 q => ?_
  simp only [cmpB] at e1
  unfold ordF at e1
  split at e1 <;> first | (exfalso; simp_all; done) | skip
  · cases e1; cases r1; cases r2; exact op_ge pins s σ H _ _ v u Q I rx ry ⟨_, _, rfl, rfl, q⟩
end
end Zed
end
section
set_option Elab.async false
set_option linter.all false
set_option maxRecDepth 100000
namespace Zed
open PySem L2
section
variable {X : Cx} {G : Gc} {φ φ' : List Addr} {h h' : PHeap} {H H' : Hp} {a p : Addr} {d : PV} {v : V} {pins : List (Addr × Obj)} {s : Shared} {σ : St} {kvs : List (PV × PV)}
/-! ### keys -/
theorem nkOfs_cons {d : PV} {ds : List PV} {ks : List NestedKey} (e : nkOfs (d :: ds) = some ks) : ∃ k r, nkOf d = some k ∧ nkOfs ds = some r ∧ ks = k :: r := by
  simp only [nkOfs] at e
  split at e
  · rename_i k r h1 h2; cases e; exact ⟨k, r, h1, h2, rfl⟩
  · cases e
mutual
theorem nk_is (hK : G.K = X.K) (I : Inv X pins σ H s) : ∀ (d : PV) {v : V} {u : Value} {k : NestedKey}, RepV G φ H d v → RelV v u → nkOf d = some k → NestedIs s.heap k u
  | .non, _, _, _, q, r, e => by cases q; simp only [nkOf] at e; cases e; cases r; exact .none
  | .bl b, _, _, _, q, r, e => by cases q; simp only [nkOf] at e; cases e; cases r; exact .bool rfl
  | .int i, _, _, _, q, r, e => by cases q; simp only [nkOf] at e; cases e; obtain ⟨t, rfl⟩ := r; exact .int _ _
  | .str x, _, _, _, q, r, e => by cases q; simp only [nkOf] at e; cases e; obtain ⟨t, rfl⟩ := r; exact .text _ _
  | .ty n, _, _, _, _, r, e => by simp only [nkOf] at e; cases e
  | .fz _, _, _, _, _, r, e => by simp only [nkOf] at e; cases e
  | .ref _, _, _, _, _, r, e => by simp only [nkOf] at e; cases e
  | .gl _, _, _, _, _, r, e => by simp only [nkOf] at e; cases e
  | .scr _, _, _, _, _, r, e => by simp only [nkOf] at e; cases e
  | .tup ds, _, _, _, q, r, e => by
    cases q with
    | tup sq q =>
      simp only [nkOf] at e
      cases e1 : nkOfs ds with
      | none => rw [e1] at e; cases e
      | some ks =>
        rw [e1] at e
        cases e
        cases r
        obtain ⟨its, r1, ⟨o, h1, h2, n, h3⟩, _⟩ := Inv.tuple I (hK ▸ sq)
        exact .tup h1 h2 h3 (by simpa using nks_is hK I ds q r1 e1)
theorem nks_is (hK : G.K = X.K) (I : Inv X pins σ H s) : ∀ (ds : List PV) {vs : List V} {us : List Value} {ks : List NestedKey}, RepVs G φ H ds vs → Vals vs us → nkOfs ds = some ks → NestedAll s.heap ks us
  | [], _, _, _, q, r, e => by cases q; simp only [nkOfs] at e; cases e; cases r; exact .nil
  | d :: ds, _, _, _, q, r, e => by
    cases q with
    | cons a b =>
      obtain ⟨k, ks, e1, e2, rfl⟩ := nkOfs_cons e
      cases r with
      | cons r1 r2 => exact .cons (nk_is hK I d a r1 e1) (nks_is hK I ds b r2 e2)
end
theorem nk_flat {d : PV} {k : Key} (e : keyOf d = some k) : nkOf d = some (match k with | .inl i => .num i | .inr x => .text x) := by
  cases d <;> simp only [keyOf] at e <;> first | (cases e; done) | (cases e; rfl)
theorem same_flat {p d : PV} {k q : Key} {nk : NestedKey} (e1 : keyOf p = some q) (e2 : keyOf d = some k) (e3 : nkOf d = some nk) : sameK p nk = decide (q = k) := by
  have n1 := nk_flat e1
  have n2 := nk_flat e2
  rw [e3] at n2
  cases n2
  unfold sameK
  rw [n1]
  cases q <;> cases k <;> simp [NestedKey.beq]
theorem find_flat {k : Key} {nk : NestedKey} {d : PV} (e2 : keyOf d = some k) (e3 : nkOf d = some nk) : ∀ {kvs : List (PV × PV)} {ks : List (Key × V)}, Paired (RepK G φ H) kvs ks → (∀ z, dFind kvs nk = some z → ∃ w, valV ks k = some w ∧ RepV G φ H z w) ∧ (dFind kvs nk = none → valV ks k = none)
  | _, _, .nil => ⟨(fun z h => by simp [dFind] at h), (fun _ => rfl)⟩
  | _, _, .cons (a := p) (b := q) r t => by
    have ih := find_flat (k := k) (nk := nk) e2 e3 t
    have sm := same_flat r.1 e2 e3
    unfold dFind valV at *
    rw [List.find?_cons, List.find?_cons]
    by_cases z : q.1 = k
    · have s1 : sameK p.1 nk = true := by rw [sm]; exact decide_eq_true z
      rw [s1]
      simp only [z, decide_true]
      exact ⟨fun w hw => by cases hw; exact ⟨_, rfl, r.2⟩, fun hw => by cases hw⟩
    · have s1 : sameK p.1 nk = false := by rw [sm]; exact decide_eq_false z
      rw [s1]
      simp only [z, decide_false]
      exact ih
theorem any_find {ks : List (Key × V)} {k : Key} : (ks.any fun kv => decide (kv.1 = k)) = (valV ks k).isSome := by
  unfold valV
  induction ks with
  | nil => rfl
  | cons q t ih =>
    rw [List.any_cons, List.find?_cons]
    by_cases z : q.1 = k
    · simp [z]
    · simp only [z, decide_false, Bool.false_or]
      exact ih
theorem store_flat {k : Key} {nk : NestedKey} {d z : PV} {w : V} (e2 : keyOf d = some k) (e3 : nkOf d = some nk) (rz : RepV G φ H z w) {kvs : List (PV × PV)} {ks : List (Key × V)} (r : Paired (RepK G φ H) kvs ks) : Paired (RepK G φ H) (dStore kvs nk d z) (putK ks k w) := by
  have f := find_flat e2 e3 r
  unfold dStore putK
  rw [any_find]
  cases e : dFind kvs nk with
  | none =>
    rw [f.2 e]
    exact Paired.snoc r ⟨e2, rz⟩
  | some z' =>
    obtain ⟨w', e4, _⟩ := f.1 z' e
    rw [e4]
    simp only [Option.isSome_some, if_true]
    clear f e e4
    induction r with
    | nil => exact .nil
    | cons h t ih =>
      refine .cons ?_ ih
      rename_i p0 q0 _ _
      have sm := same_flat h.1 e2 e3
      show RepK G φ H (if sameK p0.1 nk = true then (p0.1, z) else p0) (if q0.1 = k then (q0.1, w) else q0)
      rw [sm]
      by_cases c : q0.1 = k
      · rw [if_pos (decide_eq_true c), if_pos c]; exact ⟨h.1, rz⟩
      · rw [if_neg (by rw [decide_eq_false c]; exact Bool.false_ne_true), if_neg c]; exact h
theorem same_tup {p d : PV} {q nk : NestedKey} (e1 : nkOf p = some q) : sameK p nk = decide (q = nk) := by
  unfold sameK
  rw [e1, NestedKey.decide_eq]
theorem find_tup {nk : NestedKey} : ∀ {kvs : List (PV × PV)} {xs : List (NestedKey × Addr × Value)}, Paired (RepE G φ H) kvs xs → (∀ z, dFind kvs nk = some z → ∃ p w, atKey xs nk = some p ∧ RelV w p.2 ∧ RepV G φ H z w) ∧ (dFind kvs nk = none → atKey xs nk = none)
  | _, _, .nil => ⟨(fun z h => by simp [dFind] at h), (fun _ => rfl)⟩
  | _, _, .cons (a := p) (b := q) r t => by
    have ih := find_tup (nk := nk) t
    have sm := same_tup (d := p.1) (nk := nk) r.1
    unfold dFind atKey at *
    rw [List.find?_cons, List.find?_cons]
    by_cases z : q.1 = nk
    · have s1 : sameK p.1 nk = true := by rw [sm]; exact decide_eq_true z
      rw [s1]
      simp only [z, decide_true]
      obtain ⟨w, r1, r2⟩ := r.2.2.2
      exact ⟨fun z' hw => by cases hw; exact ⟨_, w, rfl, r1, r2⟩, fun hw => by cases hw⟩
    · have s1 : sameK p.1 nk = false := by rw [sm]; exact decide_eq_false z
      rw [s1]
      simp only [z, decide_false]
      exact ih
theorem store_tup {nk : NestedKey} {d z : PV} {w : V} {b : Addr} {u : Value} (e3 : nkOf d = some nk) (hd : nk.depth ≤ 8) (rd : RepV G φ H d (.ref b)) (rw' : RelV w u) (rz : RepV G φ H z w) {kvs : List (PV × PV)} {xs : List (NestedKey × Addr × Value)} (r : Paired (RepE G φ H) kvs xs) :
    Paired (RepE G φ H) (dStore kvs nk d z) (storedH xs nk b u) := by
  have f := find_tup (nk := nk) r
  unfold dStore storedH
  cases e : dFind kvs nk with
  | none =>
    rw [f.2 e]
    exact Paired.snoc r ⟨e3, hd, rd, w, rw', rz⟩
  | some z' =>
    obtain ⟨p, w', e4, _⟩ := f.1 z' e
    rw [e4]
    simp only [Option.isSome_some, if_true]
    clear f e e4
    induction r with
    | nil => exact .nil
    | cons h t ih =>
      refine .cons ?_ ih
      rename_i p0 q0 _ _
      have sm := same_tup (d := p0.1) (nk := nk) h.1
      show RepE G φ H (if sameK p0.1 nk = true then (p0.1, z) else p0) (if q0.1 = nk then (q0.1, q0.2.1, u) else q0)
      rw [sm]
      by_cases c : q0.1 = nk
      · rw [if_pos (decide_eq_true c), if_pos c]; exact ⟨h.1, h.2.1, h.2.2.1, w, rw', rz⟩
      · rw [if_neg (by rw [decide_eq_false c]; exact Bool.false_ne_true), if_neg c]; exact h
/-- the dict in the model's heap -/
theorem dict_at (hK : G.K = X.K) (hP : G.P = X.prog) (hw : G.w = X.w) (I : Inv X pins σ H s) {xs : List (NestedKey × Addr × Value)} (e : Rd H a (NdO G.P G.w a xs)) (nd : (xs.map (·.1)).Nodup) (r : Paired (RepE G φ H) kvs xs) : s.heap.DictOfH (nestedKind X.prog X.w) a xs := by
  have ok := e.ok I.hok
  obtain ⟨⟨o, es, ep, h1, h2, h3, h4⟩, _, _⟩ := ok
  rw [hP, hw] at h4
  refine ⟨o, es, ep, h1, h2, h3, h4, fun x hx => ?_, nd⟩
  have all : ∀ {l : List (PV × PV)} {m : List (NestedKey × Addr × Value)}, Paired (RepE G φ H) l m → ∀ x ∈ m, (nestedKind X.prog X.w).is s.heap x.1 x.2.1 := by
    intro l m q
    induction q with
    | nil => intro x hx; exact nomatch hx
    | cons hq t ih =>
      intro x hx
      rcases List.mem_cons.mp hx with e | hx
      · subst e
        exact ⟨nk_is hK I _ hq.2.2.1 rfl hq.1, hq.2.1⟩
      · exact ih x hx
  exact all r x hx
theorem tup_ref {d : PV} (h : isTupP d = true) (r : RepV G φ H d v) : ∃ b, v = .ref b := by
  cases r <;> first | (cases h; done) | exact ⟨_, rfl⟩
theorem flat_not_tup {k : PV} (h1 : isTupP k = true) : keyOf k = none := by cases k <;> first | rfl | cases h1
theorem not_flat_ref {k : PV} {b : Addr} {kk : Key} (r : RepV G φ H k (.ref b)) (e : keyOf k = some kk) : False := by
  cases r <;> simp [keyOf] at e
/-- a dict that can be read -/
def RdD (G : Gc) (φ : List Addr) (H : Hp) (a : Addr) (kvs : List (PV × PV)) : Prop := kvs.length ≤ sizeLine ∧ ((∃ ks, Rd H a (.dK ks) ∧ Paired (RepK G φ H) kvs ks) ∨
      ∃ xs, kvs ≠ [] ∧ Rd H a (NdO G.P G.w a xs) ∧ (a == sysModules) = false ∧ (xs.map (·.1)).Nodup ∧ Paired (RepE G φ H) kvs xs)
theorem RdD.of (r : RepO G φ H a (.dic kvs)) : RdD G φ H a kvs := by
  obtain ⟨z, ⟨ks, e, q⟩ | ⟨xs, ne, e, q⟩⟩ := r
  · exact ⟨z, .inl ⟨ks, .inl e, q⟩⟩
  · exact ⟨z, .inr ⟨xs, ne, .inl e, q⟩⟩
theorem rep_dic (r : RelH G φ h H) (rv : RepV G φ H d v) (e : objOf h d = some (.dic kvs)) : ∃ a, v = .ref a ∧ RdD G φ H a kvs := by
  cases rv with
  | fdK z e1 q => simp only [objOf] at e; cases e; exact ⟨_, rfl, z, .inl ⟨_, .inr ⟨_, e1⟩, q.pd⟩⟩
  | fdN z ne e1 m nd q => simp only [objOf] at e; cases e; exact ⟨_, rfl, z, .inr ⟨_, ne, .inr ⟨_, e1⟩, m, nd, q.pd⟩⟩
  | ref hi => exact ⟨_, rfl, .of (r.obj _ _ _ e hi)⟩
  | _ => simp only [objOf] at e; cases e
/-- d[k], there -/
theorem dic_get (hK : G.K = X.K) (hP : G.P = X.prog) (hw : G.w = X.w) (hu : X.A.units + 64 < cLine) (I : Inv X pins σ H s) (ro : RdD G φ H a kvs) {k z : PV} {y : V} {u : Value} (rk : RepV G φ H k y) (ry : RelV y u) (e : dGetF kvs k = some z)
    {Q : VK} (q : ∀ w, RepV G φ H z w → Q w H) : s.TypeIs (.ref a) "dict" ∧ wpAny (model X.prog X.w) X.A (getItem (.ref a) u) (EP X pins σ Q) X.xe s := by
  unfold dGetF at e
  split at e
  · rename_i nk e3
    split at e
    · rename_i fit
      unfold fitsK at fit
      rw [Bool.or_eq_true] at fit
      obtain ⟨_, ⟨ks, e1, r⟩ | ⟨xs, ne, e1, sm, nd, r⟩⟩ := ro
      · -- numbers, texts
        have kf : ∃ kk, keyOf k = some kk := by
          rcases fit with f | f
          · rw [Bool.and_eq_true] at f
            exact Option.isSome_iff_exists.mp f.1
          · exfalso
            rw [Bool.and_eq_true, Bool.and_eq_true] at f
            cases r with
            | nil => cases e
            | cons h t =>
              have f2 := f.2
              rw [List.all_cons, Bool.and_eq_true] at f2
              have := flat_not_tup f2.1
              rw [h.1] at this; cases this
        obtain ⟨kk, ek⟩ := kf
        obtain ⟨w, e4, rw'⟩ := (find_flat ek e3 r).1 z e
        have yk : y = kV kk := by
          cases rk <;> simp only [keyOf] at ek <;> first | (cases ek; done) | (cases ek; rfl)
        subst yk
        have g : DGet H a (kV kk) (some w) := by rw [← e4]; exact .inl ⟨ks, kk, e1, rfl, rfl⟩
        exact ⟨dict_typeIs I g, d_getItem (by omega) I g ry fun w' s' I' rv => ⟨w, H, I', rv, q w rw'⟩⟩
      · have kt : isTupP k = true ∧ nk.depth ≤ 8 := by
          rcases fit with f | f
          · exfalso
            rw [Bool.and_eq_true] at f
            cases r with
            | nil => exact ne rfl
            | cons h t =>
              have f2 := f.2
              rw [List.all_cons, Bool.and_eq_true] at f2
              obtain ⟨kk, ek⟩ := Option.isSome_iff_exists.mp f2.1
              have h2 := h.2.2.1
              exact not_flat_ref h2 ek
          · rw [Bool.and_eq_true, Bool.and_eq_true] at f
            exact ⟨f.1.1, of_decide_eq_true f.1.2⟩
        obtain ⟨b, rfl⟩ := tup_ref kt.1 rk
        cases ry
        have dd := dict_at hK hP hw I e1 nd r
        obtain ⟨p, w, e4, r1, r2⟩ := (find_tup r).1 z e
        refine ⟨dd.typeIs, wpAny_getItem_heap (knd := nestedKind X.prog X.w) (by show X.A.in1.units + 8 < cLine; show X.A.units + 1 + 8 < cLine; omega) ⟨nk_is hK I _ rk rfl e3, kt.2⟩ dd e4 ⟨w, H, I.tok _, r1, q w r2⟩⟩
    · cases e
  · cases e
theorem dStore_len {nk : NestedKey} {k z : PV} : (dStore kvs nk k z).length ≤ kvs.length + 1 := by
  unfold dStore
  split
  · rw [List.length_map]; omega
  · rw [List.length_append]; simp
theorem dStore_ne {nk : NestedKey} {k z : PV} : dStore kvs nk k z ≠ [] := by
  unfold dStore
  split
  · rename_i h
    intro e
    cases kvs with
    | nil => simp [dFind] at h
    | cons p r => simp at e
  · intro e; simp at e
/-- d[k] = v -/
theorem dic_put (hK : G.K = X.K) (hP : G.P = X.prog) (hw : G.w = X.w) (hu : X.A.units + 64 < cLine) (I : Inv X pins σ H s) (rh : RelH G φ h H) {i : Nat} (hi : φ[i]? = some a) (hd0 : h[i]? = some (.dic kvs)) {k z : PV} {y w : V} {u r : Value} (rk : RepV G φ H k y) (ry : RelV y u) (rz : RepV G φ H z w) (rw' : RelV w r)
    {kvs' : List (PV × PV)} (e : dPutF kvs k z = some kvs') {Q : Hp → Prop} (q : ∀ φ' H', Ext φ H φ' H' → RelH G φ' (h.set i (.dic kvs')) H' → Q H') :
    wpAny (model X.prog X.w) X.A (setItem (.ref a) u r) (fun _ s' => ∃ H', Inv X pins σ H' s' ∧ Q H') X.xe s := by
  have ro := rh.obj i _ a hd0 hi
  unfold dPutF at e
  split at e
  · rename_i nk e3
    split at e
    · rename_i fit
      cases e
      rw [Bool.and_eq_true] at fit
      have hlen : kvs.length < sizeLine := of_decide_eq_true fit.2
      have fit := fit.1
      unfold fitsK at fit
      rw [Bool.or_eq_true] at fit
      -- a dict of tuples, from the dict as it lies
      have tupW : ∀ {xs : List (NestedKey × Addr × Value)}, isTupP k = true → nk.depth ≤ 8 → Mut (H a) → (a == sysModules) = false → s.heap.DictOfH (nestedKind X.prog X.w) a xs → Paired (RepE G φ H) kvs xs →
          wpAny (model X.prog X.w) X.A (setItem (.ref a) u r) (fun _ s' => ∃ H', Inv X pins σ H' s' ∧ Q H') X.xe s := by
        intro xs kt kd mu sm dd pr
        obtain ⟨b, rfl⟩ := tup_ref kt rk
        cases ry
        have hz : xs.length ≤ sizeLine := by rw [← Paired.length pr]; omega
        refine wpAny_setItem_heap (knd := nestedKind X.prog X.w) (hsz := hz) (by show X.A.units + 1 + 8 < cLine; omega) ⟨nk_is hK I _ rk rfl e3, kd⟩ dd fun h' dd' hs => ?_
        obtain ⟨o, es, ep, h1, h2, h3, h4, _, h5⟩ := dd'
        have new : ObjOk X.prog X.w (upd H a (NdO G.P G.w a (storedH xs nk b r))) h' a (NdO G.P G.w a (storedH xs nk b r)) := by
          refine ⟨⟨o, es, ep, h1, h2, h3, by rw [hP, hw]; exact h4⟩, ⟨o, h1⟩, fun g1 g2 ⟨o', es', ep', k1, k2, k3, k4⟩ kk => ⟨o', es', ep', kk o' k1, k2, k3, k4⟩⟩
        refine ⟨_, d_write I mu hs ⟨o, h1⟩ new, q φ _ (ext_put hi) (rh.put hi ⟨by have := dStore_len (kvs := kvs) (nk := nk) (k := k) (z := z); omega, .inr ⟨_, dStore_ne, upd_same, sm, h5, ?_⟩⟩)⟩
        exact paired_map (store_tup e3 kd rk rw' rz pr) fun p x hh => ⟨hh.1, hh.2.1, repV_ext rh (ext_put hi) hh.2.2.1, let ⟨v, r1, r2⟩ := hh.2.2.2; ⟨v, r1, repV_ext rh (ext_put hi) r2⟩⟩
      obtain ⟨_, ⟨ks, e1, pr⟩ | ⟨xs, ne, e1, sm, nd, pr⟩⟩ := ro
      · obtain ⟨hz, hsm, vs, kv, dd⟩ := dk_of I.hok e1
        by_cases kt : isTupP k = true
        · have kd : nk.depth ≤ 8 ∧ kvs = [] := by
            rcases fit with f | f
            · rw [Bool.and_eq_true] at f
              have := flat_not_tup kt
              rw [this] at f; exact absurd f.1 (by simp)
            · rw [Bool.and_eq_true, Bool.and_eq_true] at f
              refine ⟨of_decide_eq_true f.1.2, ?_⟩
              cases pr with
              | nil => rfl
              | cons hh t =>
                have f2 := f.2
                rw [List.all_cons, Bool.and_eq_true] at f2
                have := flat_not_tup f2.1
                rw [hh.1] at this; cases this
          obtain ⟨kd, rfl⟩ := kd
          cases pr
          cases kv
          obtain ⟨o, es, ep, h1, h2, h3, h4, h5, h6⟩ := dd
          have he : es.toList = [] := by
            cases hq : es.toList with
            | nil => rfl
            | cons x r => rw [hq] at h5; cases h5
          refine tupW (xs := []) kt kd (by rw [e1]; exact True.intro) hsm ⟨o, es, ep, h1, h2, h3, he, (fun x hx => nomatch hx), List.nodup_nil⟩ .nil
        · have kf : ∃ kk, keyOf k = some kk := by
            rcases fit with f | f
            · rw [Bool.and_eq_true] at f
              exact Option.isSome_iff_exists.mp f.1
            · rw [Bool.and_eq_true, Bool.and_eq_true] at f
              exact absurd f.1.1 kt
          obtain ⟨kk, ek⟩ := kf
          have yk : y = kV kk := by
            cases rk <;> simp only [keyOf] at ek <;> first | (cases ek; done) | (cases ek; rfl)
          subst yk
          have hl : ks.length < sizeLine := by rw [← Paired.length pr]; exact hlen
          refine d_setItem (by omega) I (DPut.k e1 hl) ry rw' fun s' I' => ⟨_, I', q φ _ (ext_put hi) (rh.put hi ⟨by have := dStore_len (kvs := kvs) (nk := nk) (k := k) (z := z); omega, .inl ⟨_, upd_same, ?_⟩⟩)⟩
          exact paired_map (store_flat ek e3 rz pr) fun p x hh => ⟨hh.1, repV_ext rh (ext_put hi) hh.2⟩
      · have kt : isTupP k = true ∧ nk.depth ≤ 8 := by
          rcases fit with f | f
          · exfalso
            rw [Bool.and_eq_true] at f
            cases pr with
            | nil => exact ne rfl
            | cons hh t =>
              have f2 := f.2
              rw [List.all_cons, Bool.and_eq_true] at f2
              obtain ⟨kk, ek⟩ := Option.isSome_iff_exists.mp f2.1
              exact not_flat_ref hh.2.2.1 ek
          · rw [Bool.and_eq_true, Bool.and_eq_true] at f
            exact ⟨f.1.1, of_decide_eq_true f.1.2⟩
        exact tupW kt.1 kt.2 (by rw [e1]; exact True.intro) sm (dict_at hK hP hw I (.inl e1) nd pr) pr
    · cases e
  · cases e
theorem new_fd {Q : VK} (r : RelH G φ h H) (q : ∀ φ' H' v, Ext φ H φ' H' → RelH G φ' h H' → RepV G φ' H' (.fz (.dic [])) v → Q v H') :
    ∀ p, H p = none → ∀ od, Q (.ref p) (upd (upd H p (.dK [])) p (.frz od (.dK []))) := fun p hp od => new_fz r (.fdK (Nat.zero_le _) upd_same .nil) hp q
theorem new_dic {Q : VK} (r : RelH G φ h H) (q : ∀ φ' H' v, Ext φ H φ' H' → RelH G φ' (h ++ [PObj.dic []]) H' → RepV G φ' H' (.ref h.length) v → Q v H') :
    ∀ p, H p = none → Q (.ref p) (upd H p (.dK [])) := fun p hp => by
  have x := ext_alloc (u := HO.dK []) r hp
  refine q (φ ++ [p]) _ _ x (r.alloc hp ⟨Nat.zero_le _, .inl ⟨[], upd_same, .nil⟩⟩) (.ref ?_)
  rw [← r.len, List.getElem?_append_right (Nat.le_refl _)]; simp
end
end Zed
end
section
set_option Elab.async false
set_option linter.all false
set_option maxRecDepth 100000
namespace Zed
open PySem L2
section
variable {X : Cx} {G : Gc} {φ φ' : List Addr} {h h' : PHeap} {H H' : Hp} {a p : Addr} {d : PV} {v : V} {ds : List PV} {vs : List V} {l : Loc} {σ : St} {o : PObj} {u : HO} {i : Nat}
theorem RepVs.atI {i : Int} (q : RepVs G φ H ds vs) (e : L2.atI ds i = some d) : ∃ v, L2.atI vs i = some v ∧ RepV G φ H d v := by
  unfold L2.atI at e ⊢
  rw [← q.length]
  cases z : ixN ds.length i with
  | none => rw [z] at e; cases e
  | some j => rw [z] at e; exact q.get e
theorem ix_subZ (hK : G.K = X.K) (hP : G.P = X.prog) (hw : G.w = X.w) (hu : X.A.units + 64 < cLine) : IxR X (r2 G subF) := by
  intro value slice pins s σ H x y v u Q I rx ry q hs
  obtain ⟨φ, h, ds, z, h', rh, rv, e, q⟩ := q
  cases rv with
  | cons r1 rv =>
    cases rv with
    | cons r2 rv =>
      cases rv
      simp only [subF] at e
      cases z0 : getF _ _ h with
      | none => rw [z0] at e; cases e
      | some c0 =>
        rw [z0] at e
        obtain ⟨rfl, rfl⟩ := some2 e
        unfold getF at z0
        split at z0
        · rename_i x
          split at z0
          · rename_i i
            split at z0
            · rename_i hz
              cases z1 : L2.atI x.cps.toList i with
              | none => rw [z1] at z0; cases z0
              | some c =>
                rw [z1] at z0
                cases z0
                cases r1; cases r2
                exact ix_str value slice pins s σ H _ _ v u Q I rx ry ⟨_, _, c, rfl, rfl, hz, z1, q φ H _ .refl rh (.str _)⟩ hs
            · cases z0
          · cases z0
        · split at z0
          · cases r1 with
            | tup s1 q1 =>
              cases r2
              obtain ⟨w, e2, rw⟩ := q1.atI z0
              exact ix_tup value slice pins s σ H _ _ v u Q I rx ry ⟨_, _, _, w, rfl, rfl, hK ▸ s1, e2, q φ H _ .refl rh rw⟩ hs
          · cases z0
        · split at z0
          · cases r1 with
            | scr s1 =>
              cases r2
              obtain ⟨w, e2, rw⟩ := (ints_repVs (G := G) (φ := φ) (H := H) _).atI z0
              exact ix_list value slice pins s σ H _ _ v u Q I rx ry ⟨_, _, _, w, rfl, rfl, hK ▸ s1.sq, e2, q φ H _ .refl rh rw⟩ hs
          · cases z0
        · split at z0
          · rename_i kvs hx
            obtain ⟨a, rfl, rd⟩ := rep_dic rh r1 hx
            cases rx
            obtain ⟨ty, wp⟩ := dic_get hK hP hw hu I rd r2 ry z0 (Q := Q) fun w rw => q φ H w .refl rh rw
            exact PyProof.Rows.tail_any ty PySem.F.slot_dict_getitem.lookup wp hs
          · rename_i es hx
            split at z0
            · obtain ⟨a, vs, rfl, sq, q1⟩ := rep_lst rh r1 (by unfold lstOf; rw [hx])
              cases r2
              obtain ⟨w, e2, rw⟩ := q1.atI z0
              exact ix_list value slice pins s σ H _ _ v u Q I rx ry ⟨_, _, _, w, rfl, rfl, hK ▸ sq, e2, q φ H _ .refl rh rw⟩ hs
            · cases z0
          · cases z0
/-- slices -/
theorem RepVs.take : ∀ {ds : List PV} {vs : List V} (n : Nat), RepVs G φ H ds vs → RepVs G φ H (ds.take n) (vs.take n)
  | _, _, 0, _ => .nil
  | _, _, _ + 1, .nil => .nil
  | _, _, n + 1, .cons a b => .cons a (RepVs.take n b)
theorem RepVs.drop : ∀ {ds : List PV} {vs : List V} (n : Nat), RepVs G φ H ds vs → RepVs G φ H (ds.drop n) (vs.drop n)
  | _, _, 0, q => q
  | _, _, _ + 1, .nil => .nil
  | _, _, n + 1, .cons a b => RepVs.drop n b
theorem RepVs.cut (q : RepVs G φ H ds vs) (lo hi : Option Int) : RepVs G φ H (cutP ds lo hi) (cutV vs lo hi) := by
  unfold cutP cutV
  rw [q.length]
  exact RepVs.take _ (RepVs.drop _ q)
def rSlZ (G : Gc) : V → Option Int → Option Int → Hp → VK → Prop := fun x lo hi H Q =>
  ∃ φ h d z h', RelH G φ h H ∧ RepV G φ H d x ∧ slcF d lo hi h = some (z, h') ∧ ∀ φ' H' v, Ext φ H φ' H' → RelH G φ' h' H' → RepV G φ' H' z v → Q v H'
theorem sl_Z (hK : G.K = X.K) : SlR X (rSlZ G) := by
  intro pins s σ H x v vl vu lo hi sl Q I rx hs pl pu q
  obtain ⟨φ, h, d, z, h', rh, rv, e, q⟩ := q
  unfold slcF at e
  split at e
  · split at e
    · rename_i hz
      obtain ⟨rfl, rfl⟩ := some2 e
      cases rv with
      | tup s1 q1 =>
        rw [q1.length] at hz
        exact sl_tupA pins s σ H _ v vl vu lo hi sl Q I rx hs pl pu ⟨_, _, rfl, hK ▸ s1, fun _ => q φ H _ .refl rh (.tup s1 q1), fun nz => absurd hz nz⟩
    · rename_i hz
      obtain ⟨rfl, rfl⟩ := some2 e
      cases rv with
      | tup s1 q1 =>
        rw [q1.length] at hz
        exact sl_tup pins s σ H _ v vl vu lo hi sl Q I rx hs pl pu ⟨_, _, rfl, hK ▸ s1, hz, new_tup rh (q1.cut lo hi) q⟩
  · split at e
    · rename_i ds e1
      obtain ⟨rfl, rfl⟩ := some2 e
      obtain ⟨a, vs, rfl, sq, q1⟩ := rep_lst rh rv e1
      obtain ⟨T, id, t1, t2, t3⟩ := sl_list pins s σ H _ v vl vu lo hi sl (fun v H' => ∃ d u, v = .ref d ∧ H' d = some u ∧ Mut (some u) ∧ ∀ od, Q v (upd H' d (.frz od u))) I rx hs pl pu ⟨_, _, rfl, hK ▸ sq, fun p np => ⟨p, _, rfl, upd_same, trivial, new_fl rh (q1.cut lo hi) q p np⟩⟩
      exact ⟨T, id, t1, t2, wp_lock t3⟩
    · cases e
/-- truth -/
theorem truth_Z (rh : RelH G φ h H) (rv : RepV G φ H d v) {b : Bool} (e : truthF h d = some b) : TruV G.K v H b := by
  have sq : ∀ {ds : List PV}, (seqOf h d).map (fun ds => !ds.isEmpty) = some b → TruV G.K v H b := by
    intro _ e
    cases z : seqOf h d with
    | none => rw [z] at e; cases e
    | some es =>
      rw [z] at e
      obtain ⟨a, vs, rfl, sq, q⟩ := rep_seq rh rv z
      have hl : es.isEmpty = vs.isEmpty := by
        have := q.length
        cases es <;> cases vs <;> first | rfl | (simp at this)
      cases e
      rcases sq with sq | sq
      · exact .inl ⟨vs, sq, by show (!es.isEmpty) = _; rw [hl]⟩
      · exact .inr (.inl ⟨vs, sq, by show (!es.isEmpty) = _; rw [hl]⟩)
  unfold truthF at e
  split at e
  · cases e; cases rv; rfl
  · cases e; cases rv; rfl
  · cases e; cases rv; rfl
  · split at e
    · rename_i hz
      cases e; cases rv
      refine ⟨hz, ?_⟩
      rename_i x
      cases hx : x.length with
      | zero => rfl
      | succ n => show (n + 1 != 0) = (((n + 1 : Nat) : Int) != 0); simp; omega
    · cases e
  · exact sq (ds := []) e
/-- calls of built-ins -/
theorem bools_map : ∀ {ds : List PV} {vs : List V} {bs : List Bool}, RepVs G φ H ds vs → bools ds = some bs → vs = bs.map V.bl
  | _, _, _, .nil, e => by simp only [bools] at e; cases e; rfl
  | _, _, _, .cons a b, e => by
    cases a <;> simp only [bools] at e <;> first | (cases e; done) | skip
    rename_i c
    revert e
    cases z : bools _ with
    | none => intro e; cases e
    | some cs => intro e; cases e; rw [bools_map b z]; rfl
def biV : Bi → Value
  | .len => .builtin "len"
  | .isinstance => .builtin "isinstance"
  | .all => .builtin "all"
  | .abs => .builtin "abs"
  | .int => .type "int"
  | .max => .builtin "max"
  | .min => .builtin "min"
  | .tuple => .type "tuple"
  | .list => .type "list"
  | .listm => .type "list"
  | .sorted => .builtin "sorted"
  | .set => .type "set"
  | .repr => .builtin "repr"
  | .reprc => .builtin "repr"
theorem callr_of {f : Value} {F : Pf}
    (k : ∀ (pins : List (Addr × Obj)) (s : Shared) (σ : St) (H : Hp) (xs : List V) (us : List Value) (Q : VK) (φ : List Addr) (h : PHeap) (ds : List PV) (z : PV) (h' : PHeap), Inv X pins σ H s → Vals xs us → RelH G φ h H → RepVs G φ H ds xs →
      F ds h = some (z, h') → (∀ φ' H' v, Ext φ H φ' H' → RelH G φ' h' H' → RepV G φ' H' z v → Q v H') → wpAny (model X.prog X.w) X.A (call f us) (EP X pins σ Q) X.xe s) : CallR X f (rP G F) := by
  intro pins s σ H xs us Q I rx ⟨φ, h, ds, z, h', rh, rv, e, q⟩
  exact k pins s σ H xs us Q φ h ds z h' I rx rh rv e q
theorem omap {α β : Type} {o : Option α} {f : α → β} {b : β} (e : o.map f = some b) : ∃ a, o = some a ∧ f a = b := by
  cases o with
  | none => cases e
  | some a => cases e; exact ⟨a, rfl, rfl⟩
theorem repVs_one (q : RepVs G φ H [d] vs) : ∃ v, vs = [v] ∧ RepV G φ H d v := by
  cases q with
  | cons a b => cases b; exact ⟨_, rfl, a⟩
theorem repVs_two {e : PV} (q : RepVs G φ H [d, e] vs) : ∃ v w, vs = [v, w] ∧ RepV G φ H d v ∧ RepV G φ H e w := by
  cases q with
  | cons a b =>
    obtain ⟨w, rfl, r⟩ := repVs_one b
    exact ⟨_, _, rfl, a, r⟩
theorem noKey {d : PV} {a : Addr} (z : (keyOf d).isSome = true) (r : RepV G φ H d (.ref a)) : False := by
  cases r <;> cases z
theorem ty_Z (rh : RelH G φ h H) (rv : RepV G φ H d v) {t : String} (e : tyName h d = some t) : TyX G.K H v (.type t) := by
  cases rv with
  | non => cases e; exact .base .non
  | bl b => cases e; exact .base (.bl b)
  | int b => cases e; exact .base (.int b)
  | str b => cases e; exact .base (.str b)
  | ty => cases e
  | gl => cases e
  | scr => simp only [tyName, objOf] at e; cases e
  | tup s q =>
    cases e
    rcases s with (s | ⟨o, s⟩) | ⟨o, its, n, s, c, _⟩
    · exact .base (.tup s)
    · exact .fTuple s
    · exact .kTuple s c
  | fl s q =>
    simp only [tyName, objOf] at e
    cases e
    obtain ⟨o, s⟩ := s
    exact .base (.frz s)
  | fdK z s q =>
    simp only [tyName, objOf] at e
    split at e
    · cases e; exact .fDict s
    · cases e
  | fdN z ne s m nd q =>
    simp only [tyName, objOf] at e
    split at e
    · rename_i hk
      cases q with
      | nil => exact absurd rfl ne
      | cons a b c =>
        rw [List.all_cons, Bool.and_eq_true] at hk
        exact (noKey hk.1 c).elim
    · cases e
  | fset => simp only [tyName, objOf] at e; cases e
  | fiP => simp only [tyName, objOf] at e; cases e
  | fiS => simp only [tyName, objOf] at e; cases e
  | ref hi =>
    simp only [tyName, objOf] at e
    split at e
    · rename_i ds hx
      cases e
      obtain ⟨vs, e1, _⟩ := rh.obj _ _ _ hx hi
      exact .base (.lst e1)
    · rename_i kvs hx
      split at e
      · rename_i hk
        cases e
        obtain ⟨_, ⟨ks, e1, _⟩ | ⟨xs, ne, e1, _, _, q⟩⟩ := rh.obj _ _ _ hx hi
        · exact .base (.dK e1)
        · cases q with
          | nil => exact absurd rfl ne
          | cons a b =>
            rw [List.all_cons, Bool.and_eq_true] at hk
            have z := hk.1
            have r := a.2.2.1
            exact (noKey z r).elim
      · cases e
    · cases e
theorem strsP_ok : ∀ {ds : List PV} {xs : List Str}, strsP ds = some xs → ds = xs.map PV.str
  | [], _, e => by cases e; rfl
  | d :: ds, xs, e => by
    cases d <;> simp only [strsP] at e <;> first | (cases e; done) | skip
    obtain ⟨ys, e1, e2⟩ := omap e
    cases e2
    rw [strsP_ok e1]; rfl
theorem strsP_map : ∀ (xs : List Str), strsP (xs.map PV.str) = some xs
  | [] => rfl
  | x :: r => by
    show (strsP (r.map PV.str)).map (x :: ·) = _
    rw [strsP_map r]; rfl
theorem repVs_strs : ∀ {xs : List Str} {vs : List V}, RepVs G φ H (xs.map PV.str) vs → vs = xs.map V.str
  | [], _, .nil => rfl
  | x :: r, _, .cons a b => by
    cases a
    rw [repVs_strs b]; rfl
theorem strs_repVs : ∀ (xs : List Str), RepVs G φ H (xs.map PV.str) (xs.map V.str)
  | [] => .nil
  | x :: r => .cons (.str x) (strs_repVs r)
theorem new_set {Q : VK} {w : World} (hw : G.w = w) {xs : List Str} (hl : xs.length < 64) (r : RelH G φ h H) (q : ∀ φ' H' v, Ext φ H φ' H' → RelH G φ' h H' → RepV G φ' H' (.fz (.set (xs.map PV.str))) v → Q v H') :
    ∀ ks p, ks.Perm xs → H p = none → ∀ od, Q (.ref p) (upd (upd H p (TxO w p ks)) p (.frz od (TxO w p ks))) := fun ks p pk hp od => by
  subst hw
  exact new_fz r (.fset rfl upd_same pk hl) hp q
theorem rep_set (r : RelH G φ h H) (rv : RepV G φ H d v) (e : objOf h d = some (.set ds)) : ∃ (a : Addr) (xs ks : List Str), v = .ref a ∧ ds = xs.map PV.str ∧ Rd H a (TxO G.w a ks) ∧ ks.Perm xs ∧ xs.length < 64 := by
  cases rv with
  | fset z e1 p l => simp only [objOf] at e; cases e; exact ⟨_, _, _, rfl, z, .inr ⟨_, e1⟩, p, l⟩
  | ref hi =>
    obtain ⟨xs, ks, z0, z1, z2, z3⟩ := r.obj _ _ _ e hi
    exact ⟨_, xs, ks, rfl, z0, .inl z1, z2, z3⟩
  | _ => simp only [objOf] at e; cases e
theorem repr_Z {x : Str} (e : reprP d = some x) (rv : RepV G φ H d v) {pins : List (Addr × Obj)} {σ : St} {s : Shared} {u : Value} {Q : VK} (I : Inv X pins σ H s) (r : RelV v u) (q : Q (.str x) H) :
    wpAny (model X.prog X.w) X.A (call (.builtin "repr") [u]) (EP X pins σ Q) X.xe s := by
  cases rv with
  | non =>
    cases e; cases r
    exact P.repr_of_none ⟨.str _, H, I.tok _, ⟨_, rfl⟩, q⟩
  | bl b =>
    cases e; cases r
    exact P.repr_of_bool ⟨.str _, H, I.tok _, ⟨_, rfl⟩, q⟩
  | int i =>
    obtain ⟨t, rfl⟩ := r
    unfold reprP at e
    dsimp only at e
    split at e
    · rename_i hb
      cases e
      exact P.repr_of_int hb ⟨.str _, H, I.tok _, ⟨_, rfl⟩, q⟩
    · cases e
  | _ => cases e
theorem reprC_Z (hK : G.K = X.K) (rh : RelH G φ h H) (hg : X.A.guards = some []) (hu : X.A.units + 64 < cLine) {x : Str} (e : reprC h d = some x) (rv : RepV G φ H d v) {pins : List (Addr × Obj)} {σ : St} {s : Shared} {u : Value} {Q : VK} (I : Inv X pins σ H s) (r : RelV v u) (q : Q (.str x) H) :
    wpAny (model X.prog X.w) X.A (call (.builtin "repr") [u]) (EP X pins σ Q) X.xe s := by
  unfold reprC at e
  split at e
  · rename_i y e1
    cases e
    exact repr_Z e1 rv I r q
  · rename_i e0
    split at e
    · cases e
    · rename_i ns e1
      split at e
      · rename_i hz
        cases e
        have dp := rep_data rh _ rv e1
        rw [hK] at dp
        obtain ⟨as, rd⟩ := Dp.reads I _ _ _ dp r
        have isr : ∃ a, v = .ref a := by
          cases rv with
          | tup => exact ⟨_, rfl⟩
          | fl => exact ⟨_, rfl⟩
          | fdK => exact ⟨_, rfl⟩
          | fdN => exact ⟨_, rfl⟩
          | fset => exact ⟨_, rfl⟩
          | fiP => exact ⟨_, rfl⟩
          | fiS => exact ⟨_, rfl⟩
          | ref => exact ⟨_, rfl⟩
          | gl => exact ⟨_, rfl⟩
          | scr => exact ⟨_, rfl⟩
          | str => exact (ns _ rfl).elim
          | non => cases e0
          | bl => cases e0
          | int =>
            exfalso
            simp only [toD] at e1
            cases e1
            simp only [reprP] at e0
            split at e0
            · cases e0
            · rename_i n1
              exact n1 (by simpa [PyData.showable] using hz.1)
          | ty => simp [toD] at e1
        obtain ⟨a, rfl⟩ := isr
        cases r
        refine PySem.repr_of_reads' rd hz.1 (fun z => by rw [hz.2.1] at z; cases z) hg (by have := hz.2.2.1; omega) (fun _ _ e => e) (fun h' u tk k => ⟨.str _, H, I.kept k, ⟨_, rfl⟩, q⟩) hz.2.2.2
      · cases e
    · cases e
theorem call_Z (hK : G.K = X.K) (hw : G.w = X.w) (hc : X.calm = true) (hu : X.A.units + 64 < cLine) (b : Bi) (hg : b = .reprc → X.A.guards = some []) : CallR X (biV b) (rP G (bltF b)) := by
  refine callr_of fun pins s σ H xs us Q φ h ds z h' I rx rh rv e q => ?_
  unfold bltF at e
  split at e
  · -- len str
    split at e
    · rename_i hz
      obtain ⟨rfl, rfl⟩ := some2 e
      obtain ⟨v, rfl, r⟩ := repVs_one rv
      cases r
      exact call_len pins s σ H _ us Q I rx ⟨_, _, rfl, ⟨hz, rfl⟩, q φ H _ .refl rh (.int _)⟩
    · cases e
  · obtain ⟨es, e1, e2⟩ := omap e
    cases e2
    obtain ⟨v, rfl, r⟩ := repVs_one rv
    obtain ⟨a, vs, rfl, sq, q1⟩ := rep_seq rh r e1
    refine call_len_seq pins s σ H _ us Q I rx ⟨_, vs, rfl, hK ▸ sq, ?_⟩
    rw [← q1.length]
    exact q φ H _ .refl rh (.int _)
  · split at e
    · rename_i t e1
      obtain ⟨b, e2, e3⟩ := omap e
      cases e3
      obtain ⟨v, w, rfl, r, r'⟩ := repVs_two rv
      cases r'
      exact call_isi pins s σ H _ us Q I rx ⟨_, _, _, _, _, rfl, .ty _, hK ▸ ty_Z rh r e1, kit_ty e2, q φ H _ .refl rh (.bl _)⟩
    · cases e
  · split at e
    · rename_i es e1
      obtain ⟨bs, e2, e3⟩ := omap e
      cases e3
      obtain ⟨v, rfl, r⟩ := repVs_one rv
      obtain ⟨a, vs, rfl, sq, q1⟩ := rep_lst rh r e1
      have := bools_map q1 e2
      subst this
      exact cr_all hc pins s σ H _ us Q I rx ⟨_, _, rfl, hK ▸ sq, q φ H _ .refl rh (.bl _)⟩
    · cases e
  · cases e
    obtain ⟨v, rfl, r⟩ := repVs_one rv
    cases r
    exact call_abs pins s σ H _ us Q I rx ⟨_, rfl, q φ H _ .refl rh (.int _)⟩
  · cases e
    obtain ⟨v, rfl, r⟩ := repVs_one rv
    cases r
    exact call_int1 pins s σ H _ us Q I rx (.inl ⟨_, rfl, q φ H _ .refl rh (.int _)⟩)
  · cases e
    obtain ⟨v, rfl, r⟩ := repVs_one rv
    cases r
    exact call_int1 pins s σ H _ us Q I rx (.inr ⟨_, rfl, q φ H _ .refl rh (.int _)⟩)
  · cases e
    obtain ⟨v, w, rfl, r, r'⟩ := repVs_two rv
    cases r; cases r'
    exact call_max2 hc pins s σ H _ us Q I rx ⟨_, _, rfl, q φ H _ .refl rh (.int _)⟩
  · cases e
    obtain ⟨v, w, rfl, r, r'⟩ := repVs_two rv
    cases r; cases r'
    exact call_min2 hc pins s σ H _ us Q I rx ⟨_, _, rfl, q φ H _ .refl rh (.int _)⟩
  · cases e
    obtain ⟨v, rfl, r⟩ := repVs_one rv
    cases r with
    | tup s1 q1 => exact call_tuple_of pins s σ H _ us Q I rx ⟨_, _, rfl, .inr ⟨hK ▸ s1, q φ H _ .refl rh (.tup s1 q1)⟩⟩
  · obtain ⟨es, e1, e2⟩ := omap e
    cases e2
    obtain ⟨v, rfl, r⟩ := repVs_one rv
    obtain ⟨a, vs, rfl, sq, q1⟩ := rep_lst rh r e1
    exact call_tuple_of pins s σ H _ us Q I rx ⟨_, _, rfl, .inl ⟨hK ▸ sq, new_tup rh q1 q⟩⟩
  · obtain ⟨es, e1, e2⟩ := omap e
    cases e2
    obtain ⟨v, rfl, r⟩ := repVs_one rv
    obtain ⟨a, vs, rfl, sq, q1⟩ := rep_seq rh r e1
    exact wp_lock (call_list_of pins s σ H _ us _ I rx ⟨_, _, rfl, hK ▸ sq, fun p np => ⟨p, _, rfl, upd_same, trivial, new_fl rh q1 q p np⟩⟩)
  · obtain ⟨es, e1, e2⟩ := omap e
    cases e2
    obtain ⟨v, rfl, r⟩ := repVs_one rv
    obtain ⟨a, vs, rfl, sq, q1⟩ := rep_seq rh r e1
    exact call_list_of pins s σ H _ us Q I rx ⟨_, _, rfl, hK ▸ sq, new_lst rh q1 q⟩
  · unfold setP at e
    split at e
    · rename_i es e1
      split at e
      · rename_i ss e2
        split at e
        · rename_i hl
          obtain ⟨rfl, rfl⟩ := some2 e
          obtain ⟨v, rfl, r⟩ := repVs_one rv
          obtain ⟨a, vs, rfl, sq, q1⟩ := rep_lst rh r e1
          rw [strsP_ok e2] at q1
          have := repVs_strs q1
          subst this
          exact wp_lock (cr_txSet hc pins s σ H _ us _ I rx ⟨_, _, rfl, hK ▸ sq, hl, fun ks p pk hp => ⟨p, _, rfl, upd_same, trivial, new_set hw (Nat.lt_of_le_of_lt (dedS_len ss) hl) rh q ks p pk hp⟩⟩)
        · cases e
      · cases e
    · cases e
  · unfold sortP at e
    split at e
    · rename_i es e1
      obtain ⟨ss, e2, e3⟩ := omap e
      cases e3
      obtain ⟨v, rfl, r⟩ := repVs_one rv
      obtain ⟨a, xs0, ks, rfl, z0, z1, z2, z3⟩ := rep_set rh r e1
      subst z0
      rw [strsP_map] at e2
      cases e2
      refine wp_lock (cr_txSort hc pins s σ H _ us _ I rx ⟨_, ks, rfl, hw ▸ z1, by rw [z2.length_eq]; exact z3, fun ys p y1 y2 hp => ?_⟩)
      rw [sortS_one (y1.trans z2) y2]
      exact ⟨p, _, rfl, upd_same, trivial, new_fl rh (strs_repVs (sortS ss)) q p hp⟩
    · rename_i es e1
      split at e
      · rename_i ss e2
        split at e
        · rename_i hl
          obtain ⟨rfl, rfl⟩ := some2 e
          obtain ⟨v, rfl, r⟩ := repVs_one rv
          obtain ⟨a, vs, rfl, sq, q1⟩ := rep_lst rh r (by unfold lstOf; rw [e1])
          rw [strsP_ok e2] at q1
          have := repVs_strs q1
          subst this
          refine wp_lock (cr_sortedS pins s σ H _ us _ I rx ⟨_, ss, rfl, hK ▸ sq, hl, fun ys p y1 y2 hp => ?_⟩)
          rw [sortS_one y1 y2]
          exact ⟨p, _, rfl, upd_same, trivial, new_fl rh (strs_repVs (sortS ss)) q p hp⟩
        · cases e
      · cases e
    · cases e
  · obtain ⟨x, e1, e2⟩ := omap e
    cases e2
    obtain ⟨v, rfl, r⟩ := repVs_one rv
    cases rx with
    | cons ry rt =>
      cases rt
      exact repr_Z e1 r I ry (q φ H _ .refl rh (.str _))
  · obtain ⟨x, e1, e2⟩ := omap e
    cases e2
    obtain ⟨v, rfl, r⟩ := repVs_one rv
    cases rx with
    | cons ry rt =>
      cases rt
      exact reprC_Z hK rh (hg rfl) hu e1 r I ry (q φ H _ .refl rh (.str _))
  · cases e
end
end Zed
end
section
set_option Elab.async false
set_option linter.all false
set_option maxRecDepth 100000
set_option maxHeartbeats 4000000
namespace Zed
open PySem L2 PySem.Spec PyProof.Rows
/-! ### try with several clauses, with and without a name; what no clause takes is not wished for -/
/-- a clause: the class, the slot of its name, the suite's reading -/
structure Cl where
  cls : Value
  slot : Option Nat
  ts : Addr → Value → Option Addr → TS
/-- where a suite ends, the clause's name goes -/
def endsAt (D : Ends) : Option Nat → Ends
  | none => D
  | some i => { nx := fun σ' H' => D.nx (σ'.set i none) H', rt := D.rt, bk := fun σ' H' => D.bk (σ'.set i none) H', ct := fun σ' H' => D.ct (σ'.set i none) H' }
def slotsAt (σ : L2.St) (a : Addr) : Option Nat → L2.St
  | none => σ
  | some i => σ.set i (some (.ref a))
def wCl (K : PySem.W.Frag) (D : Ends) : List Cl → WX
  | [] => fun _ _ _ _ => False
  | c :: r => fun cls d σ H => ∃ b, PySem.W.exmOne K cls c.cls = some b ∧ (b = true → ∀ a, H a = none → c.ts a cls d (endsAt D c.slot) (slotsAt σ a c.slot) H) ∧ (b = false → wCl K D r cls d σ H)
inductive ClsOk (X : Cx) : List ExceptHandler → List Cl → Prop
  | cut {hds : List ExceptHandler} : ClsOk X hds []
  | bare {x : Str} {c : Value} {ts : Addr → Value → Option Addr → TS} {st : Stmt} {sts : List Stmt} {p1 p2 : Pos} {hds : List ExceptHandler} {l : List Cl} (nm : Names X x c)
      (su : ∀ (a : Addr) (ob : Obj) (cls : Value) (d : Option Addr) (pn : List (Addr × Obj)), Zc cls d ob → (∃ fs, ob.data = .fields fs) → PSs (X.suite a ((a, ob) :: pn)) (st :: sts) (ts a cls d)) (r : ClsOk X hds l) :
      ClsOk X (.ExceptHandler (some (.Name x p1)) none (st :: sts) p2 :: hds) (⟨c, none, ts⟩ :: l)
  | name {x n : Str} {c : Value} {i : Nat} {ts : Addr → Value → Option Addr → TS} {st : Stmt} {sts : List Stmt} {p1 p2 : Pos} {hds : List ExceptHandler} {l : List Cl} (nm : Names X x c) (hi : X.N[i]? = some n) (hl : X.env.kindOf n = some .local)
      (su : ∀ (a : Addr) (ob : Obj) (cls : Value) (d : Option Addr) (pn : List (Addr × Obj)), Zc cls d ob → (∃ fs, ob.data = .fields fs) → PSs (X.suite a ((a, ob) :: pn)) (st :: sts) (ts a cls d)) (r : ClsOk X hds l) :
      ClsOk X (.ExceptHandler (some (.Name x p1)) (some n) (st :: sts) p2 :: hds) (⟨c, some i, ts⟩ :: l)
theorem ps_tryZ {X : Cx} {body : List Stmt} {hd : ExceptHandler} {hds : List ExceptHandler} {l : List Cl} {pos : Pos} {tb : WX → TS} (hs : X.stack = X.env :: X.outer) (hfr : X.env.frame = some X.env.locals) (nd : X.N.Nodup)
    (hb : ∀ (W : WX) (pn : List (Addr × Obj)) (xe : Value → Shared → Prop), Takes (X.tr pn xe) W → PassesOwn (model X.prog X.w) X.A X.env xe → PSs (X.tr pn xe) body (tb W))
    (hc : ClsOk X (hd :: hds) l) : PS X (.Try body (hd :: hds) [] [] pos) (fun D σ H => tb (wCl X.K D l) D σ H) := by
  constructor
  intro pins s σ H D I h
  have ok := I.ok
  have frm : X.A.frames = some (X.env :: X.outer) := by rw [ok.frames, hs]
  refine wpAny_Try_except ?_
  have run := (hb (wCl X.K D l) (X.pn ++ pins) (fun e t1 => wpAny (model X.prog X.w) X.A (noteFrame e X.env) (fun _ t2 => wpAny (model X.prog X.w) X.A (setFlight e none)
    (fun _ t3 => wpAny (model X.prog X.w) X.A (handleBy e X.env (hd :: hds)) (SP X pins D) X.xe t3) X.xe t2) X.xe t1) ?take PassesOwn.looking).run [] s σ H D (I.toTry _) h
  case take =>
    rintro u0 t ⟨a, B, sI, pins1, σ1, H1, cls, d, rfl, J0, nb, up, sky, na, os, ag, w⟩
    have J : Inv X pins σ1 H1 sI := J0.ofTry ok
    have sk : Sky B (X.env :: X.outer) a (Zc cls d) X.env.locals t.heap := hs ▸ sky
    show wpAny (model X.prog X.w) X.A (noteFrame (.ref a) X.env) _ _ _
    refine Sky.land Zc.steady frm hfr sk ?_
    intro g fl upg
    have Jg : Inv X pins σ1 H1 { t with heap := g } := J.landed nb fl.1 (up.trans upg) os ag
    obtain ⟨ob, fs, hob, hz, hfs⟩ := fl.there
    have out : a ∉ frs (X.env :: X.outer) := fun hm => by
      obtain ⟨_, o1, e1, no⟩ := fl.2.2.1.mem hm
      rw [hob] at e1
      cases e1
      exact no _ hfs
    have nL : a ≠ X.env.locals := fun z => out (List.mem_filterMap.mpr ⟨X.env, List.mem_cons_self, by rw [hfr, z]⟩)
    have nF : a ∉ X.fs := fun hm => by
      obtain ⟨e, he, q⟩ := List.mem_filterMap.mp hm
      exact out (List.mem_filterMap.mpr ⟨e, .tail _ he, q⟩)
    have Sg := Jg.suite hob hfs na nL nF
    have go : ∀ (hds : List ExceptHandler) (l : List Cl), ClsOk X hds l → wCl X.K D l cls d σ1 H1 → wpAny (model X.prog X.w) X.A (handleBy (.ref a) X.env hds) (SP X pins D) X.xe { t with heap := g } := by
      intro hds l k
      induction k with
      | cut => exact fun z => z.elim
      | @bare x c ts st sts p1 p2 hds l nm su r ih =>
        rintro ⟨b, eb, yes, no⟩
        refine wpAny_handleBy_cons (codeAny_handlers_test ?_) (by intro z; cases z)
        have ty : PySem.W.Looks (model X.prog X.w) g (typeOf (.ref a)) cls := fun A Q E s k q => wpAny_typeOf_ref (k _ _ hob) (by rw [hz.1]; exact q)
        have look := PySem.W.exm_one (M := model X.prog X.w) Jg.kIn ty eb
        have nam : ∀ {Q E : Value → Shared → Prop}, Q c { t with heap := g } → wpAny (model X.prog X.w) (X.A.mark (some (.ref a))) (eval (.Name x p1) X.env) Q E { t with heap := g } := fun {Q E} q => by
          rcases nm with ⟨n1, n2, n3 | ⟨n3, n4, n5⟩⟩
          · exact ld_glob (X := X.suite a ((a, ob) :: (X.pn ++ pins))) Sg n1 n3 q n2
          · exact ld_blt (X := X.suite a ((a, ob) :: (X.pn ++ pins))) Sg n1 n3 n4 q n5 n2
        refine nam (look.here ?_)
        cases b with
        | false => exact ih (no rfl)
        | true =>
          refine codeAny_handlers_suite (HandSPX.lands_againZ fl fun g2 fl2 up2 => ?_)
          have J2 : Inv X pins σ1 H1 { t with heap := g2 } := J.landed nb fl2.1 ((up.trans upg).trans up2) os ag
          obtain ⟨ob2, fs2, hob2, hz2, hfs2⟩ := fl2.there
          have S2 := J2.suite hob2 hfs2 na nL nF
          refine wpAny_mono ((su a ob2 cls d (X.pn ++ pins) hz2 ⟨_, hfs2⟩).run [] _ _ H1 _ S2 (yes rfl a na)) (fun f s6 z => ?_) (fun _ _ z => z.elim)
          cases f with
          | ret u => obtain ⟨v6, σ6, H6, S6, r6, q6⟩ := z; exact ⟨_, _, _, S6.unsuite ok, r6, q6⟩
          | next => obtain ⟨σ6, H6, S6, q6⟩ := z; exact ⟨_, _, S6.unsuite ok, q6⟩
          | brk => obtain ⟨σ6, H6, S6, q6⟩ := z; exact ⟨_, _, S6.unsuite ok, q6⟩
          | cont => obtain ⟨σ6, H6, S6, q6⟩ := z; exact ⟨_, _, S6.unsuite ok, q6⟩
      | @name x n c i ts st sts p1 p2 hds l nm hi hl su r ih =>
        rintro ⟨b, eb, yes, no⟩
        refine wpAny_handleBy_cons (codeAny_handlers_test ?_) (by intro z; cases z)
        have ty : PySem.W.Looks (model X.prog X.w) g (typeOf (.ref a)) cls := fun A Q E s k q => wpAny_typeOf_ref (k _ _ hob) (by rw [hz.1]; exact q)
        have look := PySem.W.exm_one (M := model X.prog X.w) Jg.kIn ty eb
        have nam : ∀ {Q E : Value → Shared → Prop}, Q c { t with heap := g } → wpAny (model X.prog X.w) (X.A.mark (some (.ref a))) (eval (.Name x p1) X.env) Q E { t with heap := g } := fun {Q E} q => by
          rcases nm with ⟨n1, n2, n3 | ⟨n3, n4, n5⟩⟩
          · exact ld_glob (X := X.suite a ((a, ob) :: (X.pn ++ pins))) Sg n1 n3 q n2
          · exact ld_blt (X := X.suite a ((a, ob) :: (X.pn ++ pins))) Sg n1 n3 n4 q n5 n2
        refine nam (look.here ?_)
        cases b with
        | false => exact ih (no rfl)
        | true =>
          refine codeAny_handlers_suite_as (HandSPX.lands_againZ fl fun g2 fl2 up2 => ?_)
          have J2 : Inv X pins σ1 H1 { t with heap := g2 } := J.landed nb fl2.1 ((up.trans upg).trans up2) os ag
          obtain ⟨ob2, fs2, hob2, hz2, hfs2⟩ := fl2.there
          have S2 := J2.suite hob2 hfs2 na nL nF
          refine store_ok (X := X.suite a ((a, ob2) :: (X.pn ++ pins))) (v := .ref a) S2 nd hi (.inl hl) rfl (fun s5 S5 => ?_) (.inr hl)
          refine wpAny_mono ((su a ob2 cls d (X.pn ++ pins) hz2 ⟨_, hfs2⟩).run [] s5 _ H1 _ S5 (yes rfl a na)) (fun f s6 z => ?_) (fun _ _ z => z.elim)
          cases f with
          | ret u => obtain ⟨v6, σ6, H6, S6, r6, q6⟩ := z; exact gone_ok (S6.unsuite ok) nd hi hl fun s7 J7 => ⟨_, _, _, J7, r6, q6⟩
          | next => obtain ⟨σ6, H6, S6, q6⟩ := z; exact gone_ok (S6.unsuite ok) nd hi hl fun s7 J7 => ⟨_, _, J7, q6⟩
          | brk => obtain ⟨σ6, H6, S6, q6⟩ := z; exact gone_ok (S6.unsuite ok) nd hi hl fun s7 J7 => ⟨_, _, J7, q6⟩
          | cont => obtain ⟨σ6, H6, S6, q6⟩ := z; exact gone_ok (S6.unsuite ok) nd hi hl fun s7 J7 => ⟨_, _, J7, q6⟩
    exact go _ _ hc w
  refine wpAny_mono run (fun f s1 z => ?_) (fun e s1 z => z)
  cases f with
  | ret u => obtain ⟨v, σ6, H6, J6, r6, q6⟩ := z; exact ⟨v, σ6, H6, J6.ofTry ok, r6, q6⟩
  | next => obtain ⟨σ6, H6, J6, q6⟩ := z; exact wpAny_execs_nil ⟨σ6, H6, J6.ofTry ok, q6⟩
  | brk => obtain ⟨σ6, H6, J6, q6⟩ := z; exact ⟨σ6, H6, J6.ofTry ok, q6⟩
  | cont => obtain ⟨σ6, H6, J6, q6⟩ := z; exact ⟨σ6, H6, J6.ofTry ok, q6⟩
end Zed
end
section
set_option Elab.async false
set_option linter.all false
set_option maxRecDepth 100000
namespace Zed
open PySem L2

/-! ### what a law's text has: names by number, defs, constants -/
structure Sg where
  nm : Nat → Str
  fn : Nat → Option (List Str × Fd)
  /-- a def of the module -/
  glo : Nat → Bool
  /-- a class's __init__ -/
  init : Nat → Option Nat
  cst : List (Str × PV)
  blts : List Str
  /-- the def wants to know that no repr is under way -/
  rp : Nat → Bool
  /-- own errors, made with a text -/
  exc : Nat → Bool
  /-- defs that call a lambda -/
  met : Nat → Bool
  /-- the def makes lambdas -/
  lam : Nat → Bool
  /-- known classes -/
  cls : Nat → Bool
  /-- here: no repr is under way; lambdas may be made -/
  gdH : Bool
  lamH : Bool
/-- in a lambda's body -/
def Sg.low (S : Sg) : Sg := { S with gdH := false, lamH := false }
abbrev Nms := List (Str × NameKind)
def isK (ns : Nms) (x : Str) (k : NameKind) : Bool := ns.lookup x == some k
def isVis (ns : Nms) (x : Str) : Bool := isK ns x .local || isK ns x .cell || isK ns x .free
def okNm (x : Str) : Bool := !(x == ("__debug__" : Str)) && !(x == ("__classdict__" : Str)) && !(x == ("__name__" : Str))
def biName : Bi → Str
  | .len => "len" | .isinstance => "isinstance" | .all => "all" | .abs => "abs" | .int => "int" | .max => "max" | .min => "min" | .tuple => "tuple" | .list => "list" | .listm => "list" | .sorted => "sorted" | .set => "set" | .repr => "repr" | .reprc => "repr"
def conIs : PV → Const → Bool
  | .non, .none => true
  | .bl a, .bool b => a == b
  | .int a, .int b => a == b
  | .str a, .str b => a == b
  | _, _ => false
def bopIs : Bop → Operator → Bool
  | .add, .Add | .sub, .Sub | .mul, .Mult | .fdiv, .FloorDiv | .mod, .Mod | .pow, .Pow => true
  | _, _ => false
def copIs : Cop → CmpOp → Bool
  | .lt, .Lt | .le, .LtE | .gt, .Gt | .ge, .GtE | .eq, .Eq | .ne, .NotEq | .isin, .In | .notin, .NotIn | .is, .Is | .isnot, .IsNot => true
  | _, _ => false
def noStar : Expr → Bool
  | .Starred .. => false
  | _ => true
def noSlice : Expr → Bool
  | .Slice .. => false
  | _ => true
def noSuper : Expr → Bool
  | .Call (.Name ..) [] [] _ => false
  | _ => true
def noComp : Expr → Bool
  | .ListComp .. => false
  | .SetComp .. => false
  | .DictComp .. => false
  | _ => true
def noSet : Expr → Bool
  | .Set .. => false
  | _ => true
def tyB : List String := ["int", "bool", "str", "tuple", "list", "dict"]
def miIs : Mi → Str → Bool
  | .append, x => x == ("append" : Str)
  | .pop, x => x == ("pop" : Str)
  | .extend, x => x == ("extend" : Str)
mutual
def chkG (N : List Str) (ns : Nms) : Tg → Expr → Bool
  | .nm i, .Name x _ => (N[i]? == some x) && (isK ns x .local || isK ns x .cell)
  | .tp ts, .Tuple es _ _ => chkGs N ns ts es
  | _, _ => false
def chkGs (N : List Str) (ns : Nms) : Tgs → List Expr → Bool
  | .nil, [] => true
  | .cons t ts, e :: es => noStar e && chkG N ns t e && chkGs N ns ts es
  | _, _ => false
end
mutual
def slotsT : Tg → List Nat
  | .nm i => [i]
  | .tp ts => slotsTs ts
def slotsTs : Tgs → List Nat
  | .nil => []
  | .cons t ts => slotsT t ++ slotsTs ts
end
/-- the block of a comprehension: its own names are at the slots own -/
def ownOf (N : List Str) (own : List Nat) : List (Str × Nat) := own.filterMap fun i => N[i]?.map fun x => (x, i)
def plainX : Exs → Bool
  | .nil => true
  | .cons _ es => plainX es
  | .star _ _ => false
mutual
def chkE (S : Sg) (N : List Str) (sc : Scope) : Ex → Expr → Bool
  | .loc i, e => match e with
    | .Name x _ => (N[i]? == some x) && isVis sc.names x && okNm x
    | _ => false
  | .con d, e => match e with
    | .Constant c _ _ => conIs d c
    | .Name x _ => isK sc.names x .globalImplicit && okNm x && (match S.cst.lookup x with
      | some e => PV.same d e
      | none => match d with
        | .ty n => tyB.contains n && (x == Str.ofString n) && S.blts.contains x
        | .gl k => (x == S.nm k) && S.cls k
        | _ => false)
    | _ => false
  | .bin op a b, e => match e with
    | .BinOp a' op' b' _ => bopIs op op' && chkE S N sc a a' && chkE S N sc b b'
    | _ => false
  | .neg a, e => match e with
    | .UnaryOp .USub a' _ => chkE S N sc a a'
    | _ => false
  | .not a, e => match e with
    | .UnaryOp .Not a' _ => chkE S N sc a a'
    | _ => false
  | .cmp op a b, e => match e with
    | .Compare a' [op'] [b'] _ => copIs op op' && !behindInMarks op' b' && chkE S N sc a a' && chkE S N sc b b'
    | _ => false
  | .chn op p a b c, e => match e with
    | .Compare a' [op', p'] [b', c'] _ => copIs op op' && copIs p p' && !lastMarks [op', p'] [b', c'] && chkE S N sc a a' && chkE S N sc b b' && chkE S N sc c c'
    | _ => false
  | .and a b, e => match e with
    | .BoolOp .And [a', b'] _ => chkE S N sc a a' && chkE S N sc b b'
    | .BoolOp .And (a' :: b' :: c' :: r) pos => chkE S N sc a a' && chkE S N sc b (.BoolOp .And (b' :: c' :: r) pos)
    | _ => false
  | .or a b, e => match e with
    | .BoolOp .Or [a', b'] _ => chkE S N sc a a' && chkE S N sc b b'
    | .BoolOp .Or (a' :: b' :: c' :: r) pos => chkE S N sc a a' && chkE S N sc b (.BoolOp .Or (b' :: c' :: r) pos)
    | _ => false
  | .ite c a b, e => match e with
    | .IfExp c' a' b' _ => chkE S N sc c c' && chkE S N sc a a' && chkE S N sc b b'
    | _ => false
  | .tup es, e => match e with
    | .Tuple es' _ _ => chkA S N sc es es'
    | _ => false
  | .lst _ es, e => match e with
    | .List es' _ => chkA S N sc es es'
    | _ => false
  | .call f es, e => match e with
    | .Call (.Name x _) (a' :: es') [] _ => isK sc.names x .globalImplicit && okNm x && (x == S.nm f) && S.glo f && (!S.rp f || S.gdH) && (S.fn f).isSome && plainX es && chkA S N sc es (a' :: es')
    | _ => false
  | .make c f es, e => match e with
    | .Call (.Name x _) (a' :: es') [] _ => isK sc.names x .globalImplicit && okNm x && (x == S.nm c) && (S.init c == some f) && !S.rp f && (S.fn f).isSome && plainX es && chkA S N sc es (a' :: es')
    | _ => false
  | .blt b es, e => match e with
    | .Call (.Name x _) (a' :: es') [] _ => isK sc.names x .globalImplicit && (x == biName b) && (decide (b ≠ .reprc) || S.gdH) && S.blts.contains x && plainX es && chkA S N sc es (a' :: es')
    | _ => false
  | .meth m o es, e => match e with
    | .Call (.Attribute o' x ap) (a' :: es') [] cp => miIs m x && noSuper o' && (ap.endLine == cp.line) && decide ((a' :: es').length < 30) && chkE S N sc o o' && plainX es && chkA S N sc es (a' :: es')
    | _ => false
  | .sub o i, e => match e with
    | .Subscript o' i' _ => noSlice i' && chkE S N sc o o' && chkE S N sc i i'
    | _ => false
  | .slc o lo hi, e => match e with
    | .Subscript o' (.Slice lo' hi' none _) _ => chkE S N sc o o' && chkOp S N sc lo lo' && chkOp S N sc hi hi'
    | _ => false
  | .attr o f, e => match e with
    | .Attribute o' x _ => (x == S.nm f) && noSuper o' && chkE S N sc o o'
    | _ => false
  | .lc _ elt tg it ifs own, e => match e with
    | .ListComp elt' [⟨tg', it', ifs', 0⟩] sc' _ =>
      chkI S N sc it tg' it' && blkC N sc sc' (ownOf N own) && ((ownOf N own).map (·.2) == own) && chkG N sc'.names tg tg' && (slotsT tg).all own.contains && noSet it' &&
      (match ifs' with
        | [] => match ifs with | .no => true | _ => false
        | [c'] => (match ifs with | .no => false | _ => true) && chkOp S N sc' ifs (some c')
        | _ => false) && chkE S N sc' elt elt'
    | _ => false
  | .dic0 _, e => match e with
    | .Dict [] [] _ => true
    | _ => false
  | .met m b, e => match e with
    | .Call (.Name x _) [.Lambda ⟨[], [], none, [], [], none, []⟩ b' sc' _] [] _ => isK sc.names x .globalImplicit && okNm x && (x == S.nm m) && S.met m && S.lamH && LamX.lamSB sc sc' && chkE S.low N sc' b b'
    | _ => false
  | .pop o, e => match e with
    | .Call (.Attribute o' x ap) [] [] cp => (x == ("pop" : Str)) && noSuper o' && (ap.endLine == cp.line) && chkE S N sc o o'
    | _ => false
  | .rev _ o, e => match e with
    | .Subscript o' (.Slice none none (some (.UnaryOp .USub (.Constant (.int 1) _ _) _)) _) _ => chkE S N sc o o'
    | _ => false
  | .mcl m o es, e => match e with
    | .Call (.Attribute o' x ap) (a' :: es') [] cp => (x == S.nm m) && noSuper o' && (ap.endLine == cp.line) && decide ((a' :: es').length < 30) && chkE S N sc o o' && plainX es && chkA S N sc es (a' :: es')
    | _ => false
  | .mc0 m o, e => match e with
    | .Call (.Attribute o' x ap) [] [] cp => (x == S.nm m) && noSuper o' && (ap.endLine == cp.line) && chkE S N sc o o'
    | _ => false
  | .oeq ne a b, e => match e with
    | .Compare a' [op'] [b'] _ => copIs (if ne then .ne else .eq) op' && !behindInMarks op' b' && chkE S N sc a a' && chkE S N sc b b'
    | _ => false
  | .cmt c m es, e => match e with
    | .Call (.Attribute (.Name y q) x ap) (a' :: es') [] cp => isK sc.names y .globalImplicit && okNm y && (y == S.nm c) && (x == S.nm m) && (ap.endLine == cp.line) && decide ((a' :: es').length < 30) && plainX es && chkA S N sc es (a' :: es')
    | _ => false
  | .mkl i c f es, e => match e with
    | .Call (.Name x _) (a' :: es') [] _ => (N[i]? == some x) && isVis sc.names x && okNm x && (S.init c == some f) && !S.rp f && (S.fn f).isSome && plainX es && chkA S N sc es (a' :: es')
    | _ => false
  | .isi es, e => match e with
    | .Call (.Name x _) (a' :: es') [] _ => isK sc.names x .globalImplicit && (x == ("isinstance" : Str)) && S.blts.contains x && plainX es && chkA S N sc es (a' :: es')
    | _ => false
def chkA (S : Sg) (N : List Str) (sc : Scope) : Exs → List Expr → Bool
  | .nil, es => match es with
    | [] => true
    | _ => false
  | .cons e es, l => match l with
    | e' :: es' => noStar e' && chkE S N sc e e' && chkA S N sc es es'
    | _ => false
  | .star e es, l => match l with
    | .Starred e' _ :: es' => chkE S N sc e e' && chkA S N sc es es'
    | _ => false
def chkOp (S : Sg) (N : List Str) (sc : Scope) : Op → Option Expr → Bool
  | .no, o => o.isNone
  | .yes e, o => match o with
    | some e' => chkE S N sc e e'
    | none => false
def chkI (S : Sg) (N : List Str) (sc : Scope) : Itr → Expr → Expr → Bool
  | .val e, _, e' => chkE S N sc e e'
  | .rng1 e, _, c => match c with
    | .Call (.Name x _) [a'] [] _ => isK sc.names x .globalImplicit && (x == ("range" : Str)) && S.blts.contains x && noStar a' && chkE S N sc e a'
    | _ => false
  | .rng2 a b, _, c => match c with
    | .Call (.Name x _) [a', b'] [] _ => isK sc.names x .globalImplicit && (x == ("range" : Str)) && S.blts.contains x && noStar a' && noStar b' && chkE S N sc a a' && chkE S N sc b b'
    | _ => false
  | .enm e, t, c => match t with
    | .Tuple _ _ _ => match c with
      | .Call (.Name x _) [a'] [] _ => isK sc.names x .globalImplicit && (x == ("enumerate" : Str)) && S.blts.contains x && noStar a' && chkE S N sc e a'
      | _ => false
    | _ => false
  | .zp a b, t, c => match t with
    | .Tuple _ _ _ => match c with
      | .Call (.Name x _) [a', b'] [] _ => isK sc.names x .globalImplicit && (x == ("zip" : Str)) && S.blts.contains x && noStar a' && noStar b' && chkE S N sc a a' && chkE S N sc b b'
      | _ => false
    | _ => false
end

/-! ### where the text stands -/
theorem lookup_mem0 {l : Nms} {x : Str} {d : NameKind} (h : l.lookup x = some d) : (x, d) ∈ l := by
  induction l with
  | nil => cases h
  | cons p r ih =>
    obtain ⟨y, e⟩ := p
    rw [List.lookup_cons] at h
    cases z : x == y with
    | true => rw [z] at h; cases h; rw [beq_iff_eq.mp z]; exact List.mem_cons_self
    | false => rw [z] at h; exact List.mem_cons_of_mem _ (ih h)
def chkH (nm : Nat → Str) (ns : Nms) : List (Nat × Str) → List ExceptHandler → Bool
  | [], _ => true
  | (d, t) :: r, .ExceptHandler (some (.Name x _)) none [.Return (some (.Constant (.str t') _ _)) _] _ :: hds => (x == nm d) && isK ns x .globalImplicit && okNm x && (t == t') && chkH nm ns r hds
  | _, _ => false
/-- a def that calls what it got, and tells how that ended -/
def metB (nm : Nat → Str) (ns : Nms) (a : Str) (hs : List (Nat × Str)) (last : Str) : List Stmt → Bool
  | [.Try [.Expr (.Call (.Name x _) [] [] _) _] (hd :: hds) [] [] _, .Return (some (.Constant (.str t) _ _)) _] => (x == a) && okNm a && (t == last) && chkH nm ns hs (hd :: hds)
  | _ => false
/-- a def's promise; g: no repr is under way -/
structure FnOkZ (g : Bool) (P : Program) (w : World) (K : PySem.W.Frag) (mg : Str → Option Value) (base : Heap) (CX : CXT) (k : Nat) (f : Addr) (fd : FuncData) (ps : List Str) (sp : Sp) : Prop where
  len : ∀ vs H Q E, sp vs H Q E → vs.length = ps.length
  run : ∀ (A : Around) (outer : List Env) (s : Shared) (H : Hp) (args : Args) (us : List Value) (vs : List V) (Q : VK) (E : XK), (g = true → A.guards = some []) → Room k A → Env0 P w K mg base A outer s H → BindsTo s fd args (ps.zip us) → Vals vs us → sp vs H Q E →
    codeAny (model P w) A (.call (.ref f) args) (CR CX outer P w H s Q E) s
theorem FnOkZ.fnOk {P : Program} {w : World} {K : PySem.W.Frag} {mg : Str → Option Value} {base : Heap} {CX : CXT} {k : Nat} {f : Addr} {fd : FuncData} {ps : List Str} {sp : Sp} {g : Bool} (F : FnOkZ g P w K mg base CX k f fd ps sp) (h : g = false) : FnOk P w K mg base CX k f fd ps sp :=
  ⟨F.len, fun A outer s H args us vs Q E => F.run A outer s H args us vs Q E (fun z => by rw [h] at z; cases z)⟩
def spF (G : Gc) (F : List PV → PHeap → R PV) : Sp := fun vs H Q E => ∃ φ h ds, RelH G φ h H ∧ RepVs G φ H ds vs ∧ Post G φ H (F ds h) Q E
structure Scp (ns : Nms) (X : Cx) : Prop where
  loc : ∀ x, isK ns x .local = true → X.env.scope.names.lookup x = some .local
  cel : ∀ x, isK ns x .cell = true → X.env.scope.names.lookup x = some .cell ∧ X.fn x = true
  vis : ∀ x, isVis ns x = true → Vis X.env.scope x
  gl : ∀ x, isK ns x .globalImplicit = true → Gl X x
  cf : ∀ x, ns.lookup x = some .cell ∨ ns.lookup x = some .free → X.env.scope.names.lookup x = some .cell ∨ X.env.scope.names.lookup x = some .free
structure Glob (S : Sg) (G : Gc) (C : Orc) (k : Nat) (X : Cx) : Prop where
  K : G.K = X.K
  mg : G.mg = X.mg
  nm : G.nm = S.nm
  P : G.P = X.prog
  w : G.w = X.w
  sl : G.isSl = C.ct.isSl
  slo : G.slot = C.ct.slot
  fdl : G.fld = C.ct.fld
  nd : X.N.Nodup
  calm : X.calm = true
  room : Room (k + 1) X.A
  gd : S.gdH = true → X.A.guards = some []
  kind : X.env.scope.kind = .function
  fns : ∀ f ps fd, S.fn f = some (ps, fd) → S.glo f = true → ∃ a fdt, X.mg (S.nm f) = some (.ref a) ∧ PySem.W.keepIn X.K (.ref a) = true ∧ Binds X.K fdt ps [] ∧ FnOkZ (S.rp f) X.prog X.w X.K X.mg X.base (L2.CX X.prog X.w) k a fdt ps (spF G (C.call f))
  mks : ∀ c f ps fd, S.fn f = some (ps, fd) → S.init c = some f → ∃ D a fdt, X.mg (S.nm c) = some (.ref D) ∧ Mk X.K D a ∧ Binds X.K fdt ps [] ∧ FnOkZ (S.rp f) X.prog X.w X.K X.mg X.base (L2.CX X.prog X.w) k a fdt ps (spF G (C.call f))
  scl : ∀ c D, C.ct.isSl c = true → X.mg (S.nm c) = some (.ref D) → SlX.SCls X.K D
  sls : ∀ c f i D, C.ct.slot c f = some i → X.mg (S.nm c) = some (.ref D) → ∃ p, SlX.Slot1 X.K D (S.nm f) p i
  pcl : ∀ c f D, C.ct.isSl c = false → C.ct.fld c f = true → X.mg (S.nm c) = some (.ref D) → Cls X.K D ∧ NoAttr X.K D (S.nm f)
  inj : ∀ c f g i, C.ct.slot c f = some i → C.ct.slot c g = some i → f = g
  inn : ∀ c f g, C.ct.fld c f = true → C.ct.fld c g = true → S.nm f = S.nm g → f = g
  cst : ∀ x d, S.cst.lookup x = some d → ∃ u v, X.mg x = some u ∧ RelV v u ∧ ∀ φ H, RepV G φ H d v
  blt : ∀ x, S.blts.contains x = true → X.mg x = none
  exc : ∀ c, S.exc c = true → ∃ D, X.mg (S.nm c) = some (.ref D) ∧ PySem.W.keepIn X.K (.ref D) = true ∧ PySem.W.excIn X.K D [.type "ValueError", .type "Exception", .type "BaseException", .type "object"] "ValueError.__new__" = true ∧
    PySem.W.subIn X.K (.ref D) (.type "BaseException") = some true ∧ PySem.W.typeIn X.K (.ref D) = some (.type "type")
  exm : ∀ c d b, C.ct.exm c d = some b → ∃ D E, X.mg (S.nm c) = some (.ref D) ∧ X.mg (S.nm d) = some (.ref E) ∧ PySem.W.exmOne X.K (.ref D) (.ref E) = some b
  met : ∀ m, S.met m = true → ∃ hs last g fdt st a Ng, C.ct.met m = some (hs, last) ∧ X.mg (S.nm m) = some (.ref g) ∧ FunD X.K (S.nm m) (S.nm m) (defArgs st) (defBody st) (defScope st) [] [] g fdt ∧ Binds X.K fdt [a] [] ∧ FnScope Ng [a] (defScope st) ∧
    metB S.nm (defScope st).names a hs last (defBody st) = true ∧ ∀ p ∈ hs, ∃ E, X.mg (S.nm p.1) = some (.ref E)
  cls : ∀ c, S.cls c = true → ∃ D, X.mg (S.nm c) = some (.ref D)
  mts : ∀ c m f, C.ct.mth c m = some f → ∃ ps fd D a fdt, S.fn f = some (ps, fd) ∧ X.mg (S.nm c) = some (.ref D) ∧ Cls X.K D ∧ Meth X.K D (S.nm m) a ∧ (∀ g, C.ct.fld c g = true → S.nm g ≠ S.nm m) ∧ Binds X.K fdt ps [] ∧ FnOkZ false X.prog X.w X.K X.mg X.base (L2.CX X.prog X.w) k a fdt ps (spF G (C.call f))
  sub : ∀ d c b, C.ct.sub d c = some b → ∃ D E, X.mg (S.nm d) = some (.ref D) ∧ X.mg (S.nm c) = some (.ref E) ∧ SlX.SIsi X.K D ∧ (C.ct.isSl d = false → Cls X.K D) ∧ PySem.W.kitOne X.K (.ref D) (.ref E) = some b
  eqs : ∀ c f, C.ct.eqm c = some f → ∃ ps fd D a fdt, S.fn f = some (ps, fd) ∧ X.mg (S.nm c) = some (.ref D) ∧ PySem.W.findIn X.K (.ref D) "__eq__" = some (some (.ref a)) ∧ PySem.W.isFn X.K (.ref a) = true ∧
    PySem.W.findIn X.K (.ref D) "__ne__" = some (some (.builtin "object.__ne__")) ∧ PySem.W.subIn X.K (.ref D) (.type "object") = some true ∧ Binds X.K fdt ps [] ∧ FnOkZ false X.prog X.w X.K X.mg X.base (L2.CX X.prog X.w) k a fdt ps (spF G (C.call f))
  cms : ∀ c m f, C.ct.cmt c m = some f → ∃ ps fd D mc p a fdt, S.fn f = some (ps, fd) ∧ X.mg (S.nm c) = some (.ref D) ∧ ClX.CRead X.K D mc ∧ ClX.CMet X.K D mc (S.nm m) p a ∧ Binds X.K fdt ps [] ∧ FnOkZ false X.prog X.w X.K X.mg X.base (L2.CX X.prog X.w) k a fdt ps (spF G (C.call f))
  isb : ∀ c t, (C.ct.sub c c).isSome = true → t ∈ ["NoneType", "bool", "int", "str", "tuple", "list", "dict"] → ∃ E, X.mg (S.nm c) = some (.ref E) ∧ PySem.W.kitOne X.K (.type t) (.ref E) = some false
  lam : S.lamH = true → Room (k + 3) X.A ∧ ∃ c P, X.env.code = .ref c ∧ LamX.TabB X.base X.mg c P ∧ (P, X.env.qual ++ "<lambda>") ∈ G.T ∧ ∀ p ∈ G.T, p.1 = P → p.2 = X.env.qual ++ "<lambda>"
section
variable {S : Sg} {G : Gc} {C : Orc} {k : Nat} {X : Cx}
/-- the context of a lambda's body -/
theorem Glob.lamC (g : Glob S G C k X) {A : Around} {outer : List Env} {s : Shared} {H : Hp} {E : XK} {sc : Scope} {f c' : Addr} (hk : sc.kind = .function) (hr : Room (k + 1) (A.deeper (LamX.lamEnv X sc s.heap.objs.size f c'))) : Glob S.low G C k (LamX.lamCx X A outer s H E sc f c') :=
  ⟨g.K, g.mg, g.nm, g.P, g.w, g.sl, g.slo, g.fdl, g.nd, rfl, hr, (fun z => nomatch z), hk, g.fns, g.mks, g.scl, g.sls, g.pcl, g.inj, g.inn, g.cst, g.blt, g.exc, g.exm, g.met, g.cls, g.mts, g.sub, g.eqs, g.cms, g.isb, fun z => nomatch z⟩
theorem Scp.lamC {A : Around} {outer : List Env} {s : Shared} {H : Hp} {E : XK} {sc : Scope} {f c' : Addr} (L : LamX.LamS X.env.scope sc) : Scp sc.names (LamX.lamCx X A outer s H E sc f c') where
  loc := fun x h => by
    have h : sc.names.lookup x = some .local := by simpa [isK] using h
    exact h
  cel := fun x h => by
    have h : sc.names.lookup x = some .cell := by simpa [isK] using h
    exact absurd rfl (L.own (x, .cell) (lookup_mem0 h)).2
  vis := fun x h => by
    simp only [isVis, isK, Bool.or_eq_true, beq_iff_eq] at h
    rcases h with (h | h) | h
    · exact .inl h
    · exact .inr (.inl h)
    · exact .inr (.inr h)
  gl := fun x h => by
    have z : sc.names.lookup x = some .globalImplicit := by simpa [isK] using h
    exact z
  cf := fun x h => h
theorem Glob.blk (g : Glob S G C k X) {s : Shared} {H : Hp} {sc : Scope} {cl : List (Str × Addr)} {A : Addr} {fp : List Addr} (hk : sc.kind = .function) : Glob S G C k (X.blk s H sc (compEnvC sc cl A X.env) fp) :=
  ⟨g.K, g.mg, g.nm, g.P, g.w, g.sl, g.slo, g.fdl, g.nd, g.calm, g.room, g.gd, hk, g.fns, g.mks, g.scl, g.sls, g.pcl, g.inj, g.inn, g.cst, g.blt, g.exc, g.exm, g.met, g.cls, g.mts, g.sub, g.eqs, g.cms, g.isb, g.lam⟩
theorem lookup_rel {env : Env} : ∀ {names : Nms} {x : Str} {kd : NameKind}, names.lookup x = some kd →
    (names.map fun (n, k) => if (k == NameKind.free && env.scope.kind == .function && env.kindOf n == some .cell) then (n, NameKind.cell) else (n, k)).lookup x = some kd ∨
    (kd = .free ∧ (names.map fun (n, k) => if (k == NameKind.free && env.scope.kind == .function && env.kindOf n == some .cell) then (n, NameKind.cell) else (n, k)).lookup x = some .cell)
  | [], _, _, h => by simp at h
  | (n, k) :: r, x, kd, h => by
    have ih := @lookup_rel env r x kd
    rw [List.map_cons, List.lookup_cons] at *
    by_cases e : x == n
    · rw [e] at h
      cases h
      by_cases c : (k == NameKind.free && env.scope.kind == .function && env.kindOf n == some .cell) = true
      · right
        simp only [c, if_true, e]
        simp only [Bool.and_eq_true, beq_iff_eq] at c
        exact ⟨c.1.1, trivial⟩
      · left
        simp only [c, Bool.false_eq_true, if_false, e]
    · have e' : (x == n) = false := by simpa using e
      rw [e'] at h
      have z : ∀ (q : Bool), (x == (if q = true then (n, NameKind.cell) else (n, k)).1) = false := fun q => by cases q <;> exact e'
      rw [z]
      exact ih h
theorem Scp.blk {s : Shared} {H : Hp} {sc : Scope} {cl : List (Str × Addr)} {A : Addr} {fp : List Addr} : Scp sc.names (X.blk s H sc (compEnvC sc cl A X.env) fp) where
  loc := fun x h => by
    have h : sc.names.lookup x = some .local := by simpa [isK] using h
    rcases lookup_rel (env := X.env) h with z | ⟨z, _⟩
    · exact z
    · cases z
  cel := fun x h => by
    have h : sc.names.lookup x = some .cell := by simpa [isK] using h
    refine ⟨?_, by show (sc.names.lookup x == some .cell) = true; rw [h]; rfl⟩
    rcases lookup_rel (env := X.env) h with z | ⟨z, _⟩
    · exact z
    · cases z
  gl := fun x h => by
    have h : sc.names.lookup x = some .globalImplicit := by simpa [isK] using h
    rcases lookup_rel (env := X.env) h with z | ⟨z, _⟩
    · exact z
    · cases z
  cf := fun x h => by
    rcases h with h | h
    · rcases lookup_rel (env := X.env) h with z | ⟨z, _⟩
      · exact .inl z
      · cases z
    · rcases lookup_rel (env := X.env) h with z | ⟨_, z⟩
      · exact .inr z
      · exact .inl z
  vis := fun x h => by
    simp only [isVis, isK, Bool.or_eq_true, beq_iff_eq] at h
    rcases h with (h | h) | h
    · rcases lookup_rel (env := X.env) h with z | ⟨z, _⟩
      · exact .inl z
      · cases z
    · rcases lookup_rel (env := X.env) h with z | ⟨z, _⟩
      · exact .inr (.inl z)
      · cases z
    · rcases lookup_rel (env := X.env) h with z | ⟨_, z⟩
      · exact .inr (.inr z)
      · exact .inr (.inl z)
end
end Zed
end
section
set_option Elab.async false
set_option linter.all false
set_option maxRecDepth 100000
namespace Zed
open PySem L2
section
variable {G : Gc} {W : WX} {X : Cx}
/-! ### syntax: small facts -/
theorem starEach_cons {e : Expr} {es : List Expr} {env : Env} (h : noStar e = true) : starEach (e :: es) env = (false, eval e env) :: starEach es env := by
  cases e <;> first | rfl | (cases h)
theorem isTrue_pl {e : Expr} {env : Env} (h1 : ∀ x p, e ≠ .UnaryOp .Not x p) (h2 : ∀ o v p, e ≠ .BoolOp o v p) (h3 : ∀ a b c p, e ≠ .IfExp a b c p) (h4 : ∀ a b c p, e ≠ .Compare a b c p) (whole : Sem Value) :
    PySem.isTrue e env whole = (do let v ← whole; standAt e.pos; holding [v] (truthy v)) := by
  cases e with
  | UnaryOp op x p => cases op <;> first | rfl | exact absurd rfl (h1 _ _)
  | BoolOp o v p => exact absurd rfl (h2 _ _ _)
  | IfExp a b c p => exact absurd rfl (h3 _ _ _ _)
  | Compare a b c p => exact absurd rfl (h4 _ _ _ _)
  | _ => rfl
theorem pw_of_pt {op : BoolOp} {vs : List Expr} {pos : Pos} {t : TT} (h : PT X (.BoolOp op vs pos) t) : PW X (.BoolOp op vs pos) t := ⟨fun whole pins s σ H Q I q => h.run pins s σ H Q I q⟩
theorem noSlice_plain {i : Expr} (h : noSlice i = true) : PlainIx i := by
  intro o j
  cases i <;> first | rfl | (cases h)
/-! ### from readings by functions to the layer's readings -/
theorem tVar_ev {C : Orc} {i : Nat} (σ : St) (H : Hp) (Q : VK) (t : tEv G W (evE C (.loc i)) σ H Q) : tVar i σ H Q := by
  obtain ⟨φ, l, h, rh, rl, p⟩ := t
  unfold evE at p
  split at p
  · rename_i d e
    obtain ⟨v, e1, e2⟩ := rl.2 i d e
    exact ⟨v, e1, p φ H v .refl rh e2⟩
  · exact p.elim
theorem tC_ev {C : Orc} {d : PV} {v : V} (r : ∀ φ H, RepV G φ H d v) (σ : St) (H : Hp) (Q : VK) (t : tEv G W (evE C (.con d)) σ H Q) : tC v σ H Q := by
  obtain ⟨φ, l, h, rh, rl, p⟩ := t
  unfold evE at p
  exact p φ H v .refl rh (r φ H)
theorem tNeg_ev {C : Orc} {a : Ex} (σ : St) (H : Hp) (Q : VK) (t : tEv G W (evE C (.neg a)) σ H Q) : tUn (rU fun i => V.int (-i)) (tEv G W (evE C a)) σ H Q := by
  obtain ⟨φ, l, h, rh, rl, p⟩ := t
  unfold evE at p
  refine ⟨φ, l, h, rh, rl, Post.mono (Post.bind p) fun v H1 ⟨φ1, h1, d1, x1, rh1, rv1, p1⟩ => ?_⟩
  cases rv1 <;> simp only at p1 <;> first | exact p1.elim | skip
  exact ⟨_, rfl, (Post.ext x1 p1) φ1 H1 _ .refl rh1 (.int _)⟩
theorem truthR_post {r : R PV} {φ : List Addr} {H : Hp} {Q : Bool → Hp → Prop} {E : XK} (p : PostT G φ H (truthR r) Q E) :
    Post G φ H r (fun v H1 => ∃ φ1 h1 d1 b, Ext φ H φ1 H1 ∧ RelH G φ1 h1 H1 ∧ RepV G φ1 H1 d1 v ∧ truthF h1 d1 = some b ∧ Q b H1) E := by
  refine Post.mono (Post.bindT p) fun v H1 ⟨φ1, h1, d1, x1, rh1, rv1, p1⟩ => ?_
  cases z : truthF h1 d1 with
  | none => simp only [z] at p1; exact p1.elim
  | some b => simp only [z] at p1; exact ⟨φ1, h1, d1, b, x1, rh1, rv1, z, p1 φ1 H1 x1 rh1⟩
/-- an expression as a test -/
theorem tTru_ev {f : Loc → PHeap → R PV} (σ : St) (H : Hp) (Q : Bool → Hp → Prop) (t : tEvT G W (fun l h => truthR (f l h)) σ H Q) : tEv G W f σ H fun x H' => ∃ k, TruV G.K x H' k ∧ Q k H' := by
  obtain ⟨φ, l, h, rh, rl, p⟩ := t
  exact ⟨φ, l, h, rh, rl, Post.mono (truthR_post p) fun v H1 ⟨φ1, h1, d1, b, x1, rh1, rv1, z, q⟩ => ⟨b, truth_Z rh1 rv1 z, q⟩⟩
theorem tTest_ev {f : Loc → PHeap → R PV} (hb : ∀ l h d h', f l h = .ok d h' → ∃ b, d = .bl b) (σ : St) (H : Hp) (Q : Bool → Hp → Prop) (t : tEvT G W (fun l h => truthR (f l h)) σ H Q) : tTest (tEv G W f) σ H Q := by
  obtain ⟨φ, l, h, rh, rl, p⟩ := t
  refine ⟨φ, l, h, rh, rl, ?_⟩
  have p : PostT G φ H (truthR (f l h)) Q (fun c d H' => W c d σ H') := p
  cases e : f l h with
  | ok d h' =>
    obtain ⟨b, rfl⟩ := hb _ _ _ _ e
    rw [e] at p
    intro φ' H' v x rh' rv
    cases rv
    exact ⟨b, rfl, p φ' H' x rh'⟩
  | exc c fs h' => rw [e] at p; exact p
  | stuck => rw [e] at p; exact p
theorem cmp_bl {fa fb : Loc → PHeap → R PV} {op : Cop} (l : Loc) (h : PHeap) (d : PV) (h' : PHeap) (e : ev2 fa fb (cmpF op) l h = .ok d h') : ∃ b, d = .bl b := by
  unfold ev2 at e
  cases e1 : fa l h with
  | ok x h1 =>
    rw [e1] at e
    simp only [R.bind_ok] at e
    cases e2 : fb l h1 with
    | ok y h2 =>
      rw [e2] at e
      simp only [R.bind_ok, cmpF] at e
      cases z : cmpB op h2 x y with
      | none => rw [z] at e; cases e
      | some b => rw [z] at e; cases e; exact ⟨b, rfl⟩
    | exc c fs h' => rw [e2] at e; cases e
    | stuck => rw [e2] at e; cases e
  | exc c fs h' => rw [e1] at e; cases e
  | stuck => rw [e1] at e; cases e
theorem tNot_ev {C : Orc} {a : Ex} (σ : St) (H : Hp) (Q : VK) (t : tEv G W (evE C (.not a)) σ H Q) : tNotT G.K (tEv G W (evE C a)) σ H Q := by
  obtain ⟨φ, l, h, rh, rl, p⟩ := t
  unfold evE at p
  have p2 : PostT G φ H (truthR (evE C a l h)) (fun b H1 => Q (.bl !b) H1) (fun c d H' => W c d σ H') := PostT.mono (PostT.bind p) fun b H1 ⟨φ1, h1, x1, rh1, p1⟩ => (Post.ext x1 p1) φ1 H1 _ .refl rh1 (.bl _)
  exact tTru_ev (f := evE C a) σ H (fun b H1 => Q (.bl !b) H1) ⟨φ, l, h, rh, rl, p2⟩
theorem tAnd_ev {C : Orc} {a b : Ex} (σ : St) (H : Hp) (Q : VK) (t : tEv G W (evE C (.and a b)) σ H Q) : tAndT G.K (tEv G W (evE C a)) (tEv G W (evE C b)) σ H Q := by
  obtain ⟨φ, l, h, rh, rl, p⟩ := t
  unfold evE at p
  refine ⟨φ, l, h, rh, rl, Post.mono (Post.bind p) fun v H1 ⟨φ1, h1, d1, x1, rh1, rv1, p1⟩ => ?_⟩
  split at p1
  · rename_i z
    exact ⟨true, truth_Z rh1 rv1 z, by rw [if_pos rfl]; exact ⟨φ1, l, h1, rh1, repL_ext rh x1 rl, Post.ext x1 p1⟩⟩
  · rename_i z
    refine ⟨false, truth_Z rh1 rv1 z, ?_⟩
    rw [if_neg Bool.false_ne_true]
    exact (Post.ext x1 p1) φ1 H1 _ .refl rh1 rv1
  · exact p1.elim
theorem tOr_ev {C : Orc} {a b : Ex} (σ : St) (H : Hp) (Q : VK) (t : tEv G W (evE C (.or a b)) σ H Q) : tOrT G.K (tEv G W (evE C a)) (tEv G W (evE C b)) σ H Q := by
  obtain ⟨φ, l, h, rh, rl, p⟩ := t
  unfold evE at p
  refine ⟨φ, l, h, rh, rl, Post.mono (Post.bind p) fun v H1 ⟨φ1, h1, d1, x1, rh1, rv1, p1⟩ => ?_⟩
  split at p1
  · rename_i z
    refine ⟨true, truth_Z rh1 rv1 z, ?_⟩
    rw [if_pos rfl]
    exact (Post.ext x1 p1) φ1 H1 _ .refl rh1 rv1
  · rename_i z
    refine ⟨false, truth_Z rh1 rv1 z, ?_⟩
    rw [if_neg Bool.false_ne_true]
    exact ⟨φ1, l, h1, rh1, repL_ext rh x1 rl, Post.ext x1 p1⟩
  · exact p1.elim
theorem tIte_ev {C : Orc} {c a b : Ex} (σ : St) (H : Hp) (Q : VK) (t : tEv G W (evE C (.ite c a b)) σ H Q) : tIf (tEvT G W (fun l h => truthR (evE C c l h))) (tEv G W (evE C a)) (tEv G W (evE C b)) σ H Q := by
  obtain ⟨φ, l, h, rh, rl, p⟩ := t
  unfold evE at p
  refine ⟨φ, l, h, rh, rl, PostT.mono (PostT.bind p) fun k H1 ⟨φ1, h1, x1, rh1, p1⟩ => ?_⟩
  cases k with
  | true => rw [if_pos rfl]; exact ⟨φ1, l, h1, rh1, repL_ext rh x1 rl, Post.ext x1 p1⟩
  | false => rw [if_neg Bool.false_ne_true]; exact ⟨φ1, l, h1, rh1, repL_ext rh x1 rl, Post.ext x1 p1⟩
theorem tChn_ev {C : Orc} {op op' : Cop} {a b c : Ex} (σ : St) (H : Hp) (Q : VK) (t : tEv G W (evE C (.chn op op' a b c)) σ H Q) :
    tChain (r2 G (cmpF op)) (r2 G (cmpF op')) (tEv G W (evE C a)) (tEv G W (evE C b)) (tEv G W (evE C c)) σ H Q := by
  obtain ⟨φ, l, h, rh, rl, p⟩ := t
  unfold evE at p
  refine ⟨φ, l, h, rh, rl, Post.mono (Post.bind p) fun v H1 ⟨φ1, h1, d1, x1, rh1, rv1, p1⟩ => ?_⟩
  refine ⟨φ1, l, h1, rh1, repL_ext rh x1 rl, Post.mono (Post.bind (Post.ext x1 p1)) fun w H2 ⟨φ2, h2, d2, x2, rh2, rv2, p2⟩ => ?_⟩
  have p3 := Post.bind (Post.ext x2 p2)
  obtain ⟨d3, h3, e3, q3⟩ := Post.lift p3
  refine ⟨φ2, h2, [d1, d2], d3, h3, rh2, .cons (repV_ext rh1 x2 rv1) (.cons rv2 .nil), e3, fun φ' H' z x rh' rz => ?_⟩
  obtain ⟨φ4, h4, d4, x4, rh4, rv4, p4⟩ := q3 φ' H' z x rh' rz
  clear q3
  split at p4
  · cases rv4
    refine ⟨true, rfl, ?_⟩
    rw [if_pos rfl]
    refine ⟨φ4, l, h4, rh4, repL_ext rh2 x4 (repL_ext rh1 x2 (repL_ext rh x1 rl)), Post.mono (Post.bind (Post.ext x4 p4)) fun y H5 ⟨φ5, h5, d5, x5, rh5, rv5, p5⟩ => ?_⟩
    obtain ⟨d6, h6, e6, q6⟩ := Post.lift (Post.ext x5 p5)
    exact ⟨φ5, h5, [d2, d5], d6, h6, rh5, .cons (repV_ext rh4 x5 (repV_ext rh2 x4 rv2)) (.cons rv5 .nil), e6, q6⟩
  · cases rv4
    refine ⟨false, rfl, ?_⟩
    rw [if_neg Bool.false_ne_true]
    exact (Post.ext x4 p4) φ4 H' _ .refl rh4 (.bl _)
  · exact p4.elim
theorem tTup_ev {C : Orc} {es : Exs} (σ : St) (H : Hp) (Q : VK) (t : tEv G W (evE C (.tup es)) σ H Q) : tTup (tEvA G W (evA C es)) σ H Q := by
  obtain ⟨φ, l, h, rh, rl, p⟩ := t
  unfold evE at p
  refine ⟨φ, l, h, rh, rl, PostA.mono (PostA.bind p) fun vs H1 ⟨φ1, h1, ds, x1, rh1, rv1, p1⟩ => ?_⟩
  split at p1
  · rename_i hz
    refine ⟨by rw [← rv1.length]; exact hz, ?_⟩
    exact new_tup rh1 rv1 (Post.ext x1 p1)
  · exact p1.elim
/-- .. and what is new is locked -/
def lkQ (Q : VK) : VK := fun v H' => ∃ d u, v = .ref d ∧ H' d = some u ∧ Mut (some u) ∧ ∀ od, Q v (upd H' d (.frz od u))
theorem lk_fl {Q : VK} {φ : List Addr} {h : PHeap} {H : Hp} {ds : List PV} {vs : List V} (r : RelH G φ h H) (rv : RepVs G φ H ds vs) (q : ∀ φ' H' v, Ext φ H φ' H' → RelH G φ' h H' → RepV G φ' H' (.fl ds) v → Q v H') :
    ∀ p, H p = none → lkQ Q (.ref p) (upd H p (.lst vs)) := fun p np => ⟨p, _, rfl, upd_same, trivial, new_fl r rv q p np⟩
theorem tLst_ev {C : Orc} {es : Exs} (σ : St) (H : Hp) (Q : VK) (t : tEv G W (evE C (.lst false es)) σ H Q) : tLst (tEvA G W (evA C es)) σ H Q := by
  obtain ⟨φ, l, h, rh, rl, p⟩ := t
  unfold evE at p
  refine ⟨φ, l, h, rh, rl, PostA.mono (PostA.bind p) fun vs H1 ⟨φ1, h1, ds, x1, rh1, rv1, p1⟩ => ?_⟩
  split at p1
  · rename_i hz
    refine ⟨by rw [← rv1.length]; exact hz, ?_⟩
    exact new_lst rh1 rv1 (Post.ext x1 p1)
  · exact p1.elim
theorem tLstF_ev {C : Orc} {es : Exs} (σ : St) (H : Hp) (Q : VK) (t : tEv G W (evE C (.lst true es)) σ H Q) : tLst (tEvA G W (evA C es)) σ H (lkQ Q) := by
  obtain ⟨φ, l, h, rh, rl, p⟩ := t
  unfold evE at p
  refine ⟨φ, l, h, rh, rl, PostA.mono (PostA.bind p) fun vs H1 ⟨φ1, h1, ds, x1, rh1, rv1, p1⟩ => ?_⟩
  split at p1
  · rename_i hz
    refine ⟨by rw [← rv1.length]; exact hz, ?_⟩
    exact lk_fl rh1 rv1 (Post.ext x1 p1)
  · exact p1.elim
theorem tCall_ev {C : Orc} {f : Nat} {es : Exs} (σ : St) (H : Hp) (Q : VK) (t : tEv G W (evE C (.call f es)) σ H Q) : tCallS (spF G (C.call f)) (WE W) (tEvA G W (evA C es)) σ H Q := by
  obtain ⟨φ, l, h, rh, rl, p⟩ := t
  unfold evE at p
  refine ⟨φ, l, h, rh, rl, PostA.mono (PostA.bind p) fun vs H1 ⟨φ1, h1, ds, x1, rh1, rv1, p1⟩ => ?_⟩
  exact ⟨φ1, h1, ds, rh1, rv1, Post.ext x1 p1⟩
theorem tBlt_ev {C : Orc} {b : Bi} {es : Exs} (σ : St) (H : Hp) (Q : VK) (t : tEv G W (evE C (.blt b es)) σ H Q) : tCB (rP G (bltF b)) (tEvA G W (evA C es)) σ H Q := tCB_ev (fa := evA C es) (F := bltF b) σ H Q t
def PostO (G : Gc) (φ : List Addr) (H : Hp) (r : R (Option Int)) (Q : Option Int → Hp → Prop) (E : XK) : Prop :=
  match r with
  | .ok d h' => ∀ φ' H', Ext φ H φ' H' → RelH G φ' h' H' → Q d H'
  | .exc c fs h' => ∀ φ' H' cls dd, Ext φ H φ' H' → RelH G φ' h' H' → RepX G φ' H' c fs cls dd → E cls dd H'
  | .stuck => False
def tEvO (G : Gc) (W : WX) (f : Loc → PHeap → R (Option Int)) : TO := fun σ H Q =>
  ∃ φ l h, RelH G φ h H ∧ RepL G φ H l σ ∧ PostO G φ H (f l h) Q (fun c d H' => W c d σ H')
theorem PostO.bind {φ : List Addr} {H : Hp} {r : R (Option Int)} {k : Option Int → PHeap → R PV} {Q : VK} {E : XK} (p : Post G φ H (r.bind k) Q E) :
    PostO G φ H r (fun b H1 => ∃ φ1 h1, Ext φ H φ1 H1 ∧ RelH G φ1 h1 H1 ∧ Post G φ H (k b h1) Q E) E := by
  cases r with
  | ok d h' => exact fun φ' H' x rh => ⟨φ', h', x, rh, p⟩
  | exc c fs h' => exact p
  | stuck => exact p
theorem PostO.mono {φ : List Addr} {H : Hp} {r : R (Option Int)} {Q Q' : Option Int → Hp → Prop} {E : XK} (p : PostO G φ H r Q E) (hq : ∀ v H', Q v H' → Q' v H') : PostO G φ H r Q' E := by
  cases r with
  | ok d h' => exact fun φ' H' x1 rh => hq _ _ (p φ' H' x1 rh)
  | exc c fs h' => exact p
  | stuck => exact p
theorem tNoPart_ev {C : Orc} (σ : St) (H : Hp) (Q : Option Int → Hp → Prop) (t : tEvO G W (evOp C .no) σ H Q) : tNoPart σ H Q := by
  obtain ⟨φ, l, h, rh, rl, p⟩ := t
  unfold evOp at p
  exact p φ H .refl rh
theorem tPart_ev {C : Orc} {e : Ex} (σ : St) (H : Hp) (Q : Option Int → Hp → Prop) (t : tEvO G W (evOp C (.yes e)) σ H Q) : tPart (tEv G W (evE C e)) σ H Q := by
  obtain ⟨φ, l, h, rh, rl, p⟩ := t
  unfold evOp at p
  refine ⟨φ, l, h, rh, rl, ?_⟩
  cases z : evE C e l h with
  | ok d h' =>
    rw [z] at p
    intro φ' H' v x rh' rv
    cases rv <;> simp only [optI] at p <;> first | exact p.elim | skip
    exact ⟨_, rfl, p φ' H' x rh'⟩
  | exc c fs h' => rw [z] at p; exact p
  | stuck => rw [z] at p; exact p
theorem tSlc_ev {C : Orc} {o : Ex} {lo hi : Op} (σ : St) (H : Hp) (Q : VK) (t : tEv G W (evE C (.slc o lo hi)) σ H Q) : tSl (rSlZ G) (tEv G W (evE C o)) (tEvO G W (evOp C lo)) (tEvO G W (evOp C hi)) σ H Q := by
  obtain ⟨φ, l, h, rh, rl, p⟩ := t
  unfold evE at p
  refine ⟨φ, l, h, rh, rl, Post.mono (Post.bind p) fun v H1 ⟨φ1, h1, d1, x1, rh1, rv1, p1⟩ => ?_⟩
  have rl1 := repL_ext rh x1 rl
  refine ⟨φ1, l, h1, rh1, rl1, PostO.mono (PostO.bind (Post.ext x1 p1)) fun a H2 ⟨φ2, h2, x2, rh2, p2⟩ => ?_⟩
  have rl2 := repL_ext rh1 x2 rl1
  refine ⟨φ2, l, h2, rh2, rl2, PostO.mono (PostO.bind (Post.ext x2 p2)) fun b H3 ⟨φ3, h3, x3, rh3, p3⟩ => ?_⟩
  obtain ⟨d4, h4, e4, q4⟩ := Post.lift (Post.ext x3 p3)
  exact ⟨φ3, h3, d1, d4, h4, rh3, repV_ext rh2 x3 (repV_ext rh1 x2 rv1), e4, q4⟩
end
end Zed
end
section
set_option Elab.async false
set_option linter.all false
set_option maxRecDepth 100000
namespace Zed
open PySem L2
section
variable {G : Gc} {W : WX} {X : Cx} {φ φ' : List Addr} {h h' : PHeap} {H H' : Hp} {l : Loc} {σ : St} {D : Addr}
/-! ### targets -/
def Upd (is : List Nat) (σ σ' : St) : Prop := σ'.length = σ.length ∧ ∀ i, i ∉ is → σ'[i]? = σ[i]?
theorem wipe_upd {is : List Nat} {σ σ' : St} (u : Upd is σ σ') : ∀ {vs : List Nat}, (∀ i, i ∈ is → i ∈ vs) → wipe σ' vs = wipe σ vs := by
  have get : ∀ (vs : List Nat) (τ : St) (i : Nat), (wipe τ vs)[i]? = if i ∈ vs then (if i < τ.length then some none else none) else τ[i]? := by
    intro vs τ
    induction vs with
    | nil => intro i; simp [wipe]
    | cons v vs ih =>
      intro i
      show ((wipe τ vs).set v none)[i]? = _
      by_cases e : v = i
      · subst e
        rw [if_pos List.mem_cons_self, List.getElem?_set_self', ih]
        by_cases hm : v ∈ vs
        · rw [if_pos hm]; split <;> rfl
        · rw [if_neg hm]
          by_cases hv : v < τ.length
          · rw [if_pos hv, List.getElem?_eq_getElem hv]; rfl
          · rw [if_neg hv, List.getElem?_eq_none (by omega)]; rfl
      · rw [List.getElem?_set_ne e, ih]
        by_cases hm : i ∈ vs
        · rw [if_pos hm, if_pos (List.mem_cons_of_mem _ hm)]
        · rw [if_neg hm, if_neg (by simp only [List.mem_cons, not_or]; exact ⟨fun q => e q.symm, hm⟩)]
  intro vs hs
  apply List.ext_getElem?
  intro i
  rw [get, get]
  by_cases hm : i ∈ vs
  · rw [if_pos hm, if_pos hm, u.1]
  · rw [if_neg hm, if_neg hm]
    exact u.2 i fun q => hm (hs i q)
def gEv (G : Gc) (t : Tg) : TG := fun v σ H Q => ∃ φ h l d l', RelH G φ h H ∧ RepL G φ H l σ ∧ RepV G φ H d v ∧ bindT t d l = some l' ∧ ∀ σ', RepL G φ H l' σ' → Upd (slotsT t) σ σ' → Q σ' H
def gEvs (G : Gc) (t : Tgs) : TGs := fun vs σ H Q => ∃ φ h l ds l', RelH G φ h H ∧ RepL G φ H l σ ∧ RepVs G φ H ds vs ∧ bindTs t ds l = some l' ∧ ∀ σ', RepL G φ H l' σ' → Upd (slotsTs t) σ σ' → Q σ' H
theorem assignEach_cons {e : Expr} {es : List Expr} {env : Env} (h : noStar e = true) : assignEach (e :: es) env = (false, assign e env) :: assignEach es env := by
  cases e <;> first | rfl | (cases h)
theorem assignEach_noStar {ns : Nms} {N : List Str} : ∀ {ts : Tgs} {es : List Expr} {env : Env}, chkGs N ns ts es = true → (assignEach es env).findIdx? (fun x => x.1) = none ∧ (assignEach es env).length = es.length
  | .nil, [], env, _ => ⟨rfl, rfl⟩
  | .nil, _ :: _, _, c => by simp [chkGs] at c
  | .cons _ _, [], _, c => by simp [chkGs] at c
  | .cons t ts, e :: es, env, c => by
    simp only [chkGs, Bool.and_eq_true] at c
    obtain ⟨i1, i2⟩ := assignEach_noStar (env := env) c.2
    rw [assignEach_cons c.1.1]
    refine ⟨?_, by simp [i2]⟩
    rw [List.findIdx?_cons]
    simp [i1]
theorem Upd.trans {is js : List Nat} {σ σ1 σ2 : St} (a : Upd is σ σ1) (b : Upd js σ1 σ2) : Upd (is ++ js) σ σ2 :=
  ⟨b.1.trans a.1, fun i hi => by
    rw [List.mem_append, not_or] at hi
    exact (b.2 i hi.2).trans (a.2 i hi.1)⟩
theorem lenT : ∀ {ts : Tgs} {ds : List PV} {l l' : Loc}, bindTs ts ds l = some l' → ∀ {N : List Str} {ns : Nms} {es : List Expr}, chkGs N ns ts es = true → ds.length = es.length
  | .nil, [], _, _, _, _, _, [], _ => rfl
  | .nil, [], _, _, _, _, _, _ :: _, c => by simp [chkGs] at c
  | .nil, _ :: _, _, _, e, _, _, _, _ => by simp [bindTs] at e
  | .cons _ _, [], _, _, e, _, _, _, _ => by simp [bindTs] at e
  | .cons _ _, _ :: _, _, _, _, _, _, [], c => by simp [chkGs] at c
  | .cons t ts, d :: ds, l, l', e, N, ns, x :: es, c => by
    simp only [bindTs] at e
    simp only [chkGs, Bool.and_eq_true] at c
    split at e
    · rename_i l1 h1
      have := lenT e c.2
      simp [this]
    · cases e
mutual
theorem soundG : ∀ (t : Tg) {X : Cx} {ns : Nms} {e : Expr}, G.K = X.K → X.N.Nodup → X.calm = true → Scp ns X → chkG X.N ns t e = true → PG X e (gEv G t)
  | .nm i, X, ns, e, hK, nd, hc, sp, c => by
    unfold chkG at c
    split at c
    · rename_i i' x pos hh
      cases hh
      simp only [Bool.and_eq_true, beq_iff_eq] at c
      have lc : L2.Loc X.env.scope x ∧ (X.fn x = true ∨ X.env.scope.names.lookup x = some .local) := by
        rcases Bool.or_eq_true _ _ ▸ c.2 with z | z
        · exact ⟨.inl (sp.loc x z), .inr (sp.loc x z)⟩
        · exact ⟨.inr (sp.cel x z).1, .inl (sp.cel x z).2⟩
      have g := pg_name (pos := pos) nd c.1 lc.1 lc.2
      refine ⟨fun pins s σ H v u Q I rv q => g.run pins s σ H v u Q I rv ?_⟩
      obtain ⟨φ, h, l, d, l', rh, rl, rd, eb, q⟩ := q
      simp only [bindT] at eb
      split at eb
      · cases eb
        refine q _ (rl.set rd) ⟨by simp, fun j hj => ?_⟩
        have : i ≠ j := fun z => hj (by simp [slotsT, z])
        exact List.getElem?_set_ne this
      · cases eb
    · rename_i hh; cases hh
    · cases c
  | .tp ts, X, ns, e, hK, nd, hc, sp, c => by
    unfold chkG at c
    split at c
    · rename_i hh; cases hh
    · rename_i ts' es kk pos hh
      cases hh
      obtain ⟨i1, i2⟩ := assignEach_noStar (env := X.env) c
      have g := pg_tup (pos := pos) (k := kk) (n := es.length) hc (soundGs ts hK nd hc sp c) i2 i1
      refine ⟨fun pins s σ H v u Q I rv q => g.run pins s σ H v u Q I rv ?_⟩
      obtain ⟨φ, h, l, d, l', rh, rl, rd, eb, q⟩ := q
      cases rd <;> simp only [bindT] at eb <;> first | (cases eb; done) | skip
      rename_i a vs ds s1 q1
      refine ⟨a, vs, rfl, hK ▸ s1, ?_, φ, h, l, ds, l', rh, rl, q1, eb, q⟩
      rw [← q1.length]
      exact lenT eb c
    · cases c
theorem soundGs : ∀ (t : Tgs) {X : Cx} {ns : Nms} {es : List Expr}, G.K = X.K → X.N.Nodup → X.calm = true → Scp ns X → chkGs X.N ns t es = true → PGs X es (gEvs G t)
  | .nil, X, ns, es, hK, nd, hc, sp, c => by
    cases es with
    | cons _ _ => simp [chkGs] at c
    | nil =>
      have g := pgs_nil (X := X)
      refine ⟨fun pins s σ H v u Q I rv q => g.run pins s σ H v u Q I rv ?_⟩
      obtain ⟨φ, h, l, ds, l', rh, rl, rd, eb, q⟩ := q
      cases ds with
      | cons _ _ => simp [bindTs] at eb
      | nil =>
        simp only [bindTs] at eb
        cases eb
        cases rd
        exact ⟨rfl, q σ rl ⟨rfl, fun _ _ => rfl⟩⟩
  | .cons t ts, X, ns, es, hK, nd, hc, sp, c => by
    cases es with
    | nil => simp [chkGs] at c
    | cons e es =>
      simp only [chkGs, Bool.and_eq_true] at c
      have g := pgs_cons (soundG t hK nd hc sp c.1.2) (soundGs ts hK nd hc sp c.2) (by rw [assignEach_cons c.1.1]; rfl)
      refine ⟨fun pins s σ H v u Q I rv q => g.run pins s σ H v u Q I rv ?_⟩
      obtain ⟨φ, h, l, ds, l', rh, rl, rd, eb, q⟩ := q
      cases ds with
      | nil => simp [bindTs] at eb
      | cons d ds =>
        cases rd with
        | cons r1 r2 =>
          simp only [bindTs] at eb
          split at eb
          · rename_i l1 e1
            refine ⟨_, _, rfl, φ, h, l, d, l1, rh, rl, r1, e1, fun σ1 rl1 u1 => ?_⟩
            exact ⟨φ, h, l1, ds, l', rh, rl1, r2, eb, fun σ2 rl2 u2 => q σ2 rl2 (u1.trans u2)⟩
          · cases eb
end
end
end Zed
end
section
set_option Elab.async false
set_option linter.all false
set_option maxRecDepth 100000
namespace Zed
open PySem L2
section
variable {G : Gc} {W : WX} {X : Cx} {φ φ' : List Addr} {h h' : PHeap} {H H' : Hp} {l : Loc} {σ : St} {D : Addr}
/-! ### what is walked -/
def ItOk (G : Gc) (φ0 : List Addr) (H0 : Hp) (src : Src) (J : It) : Prop :=
  ∀ φ h H, Ext φ0 H0 φ H → RelH G φ h H → ∀ i, (srcAt h i src = some none → J.stop i H) ∧ ∀ d, srcAt h i src = some (some d) → J.go i H ∧ ∀ x H', J.yld i H x H' → Ext φ H φ H' ∧ RelH G φ h H' ∧ RepV G φ H' d x
def PostI (G : Gc) (φ : List Addr) (H : Hp) (r : R Src) (Q : It → Hp → Prop) (E : XK) : Prop :=
  match r with
  | .ok src h' => ∀ φ' H' J, Ext φ H φ' H' → RelH G φ' h' H' → ItOk G φ' H' src J → Q J H'
  | .exc c fs h' => ∀ φ' H' cls dd, Ext φ H φ' H' → RelH G φ' h' H' → RepX G φ' H' c fs cls dd → E cls dd H'
  | .stuck => False
def iEv (G : Gc) (W : WX) (f : Loc → PHeap → R Src) : TI := fun σ H R =>
  ∃ φ l h, RelH G φ h H ∧ RepL G φ H l σ ∧ PostI G φ H (f l h) R (fun c d H' => W c d σ H')
theorem PostI.ext {φ1 : List Addr} {H1 : Hp} {r : R Src} {Q : It → Hp → Prop} {E : XK} (x : Ext φ H φ1 H1) (p : PostI G φ H r Q E) : PostI G φ1 H1 r Q E := by
  cases r with
  | ok d h' => exact fun φ' H' v x1 rh rv => p φ' H' v (x.trans x1) rh rv
  | exc c fs h' => exact fun φ' H' cls dd x1 rh rx => p φ' H' cls dd (x.trans x1) rh rx
  | stuck => exact p
theorem it_tup {a : Addr} {ds : List PV} {vs : List V} (rh : RelH G φ h H) (s : SqT G.K H a vs) (q : RepVs G φ H ds vs) : ItOk G φ H (.seq ds) (Itt G.K a) := by
  intro φ1 h1 H1 x rh1 i
  have s1 := sqT_ext rh x s
  have q1 := repVs_ext rh x q
  refine ⟨fun e => ?_, fun d e => ?_⟩
  · simp only [srcAt, Option.some.injEq] at e
    exact ⟨vs, s1, by rw [← q1.length]; exact List.getElem?_eq_none_iff.mp e⟩
  · simp only [srcAt, Option.some.injEq] at e
    obtain ⟨v, e1, r⟩ := q1.get e
    refine ⟨⟨vs, v, s1, e1⟩, fun y H' ⟨hh, f⟩ => ?_⟩
    subst hh
    have := f vs s1
    rw [e1] at this
    cases this
    exact ⟨.refl, rh1, r⟩
theorem it_fl {a : Addr} {ds : List PV} {vs : List V} (rh : RelH G φ h H) (s : FzL G.K H a vs) (q : RepVs G φ H ds vs) : ItOk G φ H (.seq ds) (Itl G.K a) := by
  intro φ1 h1 H1 x rh1 i
  have s1 := (fzL_ext rh x s).sq
  have q1 := repVs_ext rh x q
  refine ⟨fun e => ?_, fun d e => ?_⟩
  · simp only [srcAt, Option.some.injEq] at e
    exact ⟨vs, s1, by rw [← q1.length]; exact List.getElem?_eq_none_iff.mp e⟩
  · simp only [srcAt, Option.some.injEq] at e
    obtain ⟨v, e1, r⟩ := q1.get e
    refine ⟨⟨vs, v, s1, e1⟩, fun y H' ⟨hh, f⟩ => ?_⟩
    subst hh
    have := f vs s1
    rw [e1] at this
    cases this
    exact ⟨.refl, rh1, r⟩
theorem it_lst {a : Addr} {r : Nat} (hr : φ[r]? = some a) : ItOk G φ H (.lst r) (Itl G.K a) := by
  intro φ1 h1 H1 x rh1 i
  have hr1 := pre_get x.pre hr
  refine ⟨fun e => ?_, fun d e => ?_⟩
  · simp only [srcAt] at e
    split at e
    · rename_i ds hx
      obtain ⟨vs, e1, q⟩ := rh1.obj r _ a hx hr1
      simp only [Option.some.injEq] at e
      exact ⟨vs, SqL.of e1, by rw [← q.length]; exact List.getElem?_eq_none_iff.mp e⟩
    · cases e
  · simp only [srcAt] at e
    split at e
    · rename_i ds hx
      obtain ⟨vs, e1, q⟩ := rh1.obj r _ a hx hr1
      simp only [Option.some.injEq] at e
      obtain ⟨v, e2, r⟩ := q.get e
      refine ⟨⟨vs, v, SqL.of e1, e2⟩, fun y H' ⟨hh, f⟩ => ?_⟩
      subst hh
      have := f vs (SqL.of e1)
      rw [e2] at this
      cases this
      exact ⟨.refl, rh1, r⟩
    · cases e
theorem it_str {x : Str} : ItOk G φ H (.seq (x.cps.toList.map fun c => .str ⟨#[c]⟩)) (Its x) := by
  intro φ1 h1 H1 x1 rh1 i
  have g : ∀ i : Nat, (x.cps.toList.map fun c => PV.str ⟨#[c]⟩)[i]? = x.cps[i]?.map fun c => PV.str ⟨#[c]⟩ := fun i => by
    rw [List.getElem?_map, Array.getElem?_toList]
  refine ⟨fun e => ?_, fun d e => ?_⟩
  · simp only [srcAt, Option.some.injEq] at e
    rw [g] at e
    cases z : x.cps[i]? with
    | none => exact Array.getElem?_eq_none_iff.mp z
    | some c => rw [z] at e; cases e
  · simp only [srcAt, Option.some.injEq] at e
    rw [g] at e
    cases z : x.cps[i]? with
    | none => rw [z] at e; cases e
    | some c =>
      rw [z] at e
      cases e
      refine ⟨(Array.getElem?_eq_some_iff.mp z).1, fun y H' ⟨hh, c', e2, e3⟩ => ?_⟩
      subst hh
      rw [z] at e2
      cases e2
      rw [e3]
      exact ⟨.refl, rh1, .str _⟩
theorem it_rng {lo : Int} {n : Nat} : ItOk G φ H (.seq ((List.range n).map fun (i : Nat) => .int (lo + i))) (L2.Itr lo n) := by
  intro φ1 h1 H1 x1 rh1 i
  have g : ∀ i : Nat, ((List.range n).map fun (i : Nat) => PV.int (lo + i))[i]? = if i < n then some (PV.int (lo + i)) else none := fun i => by
    rw [List.getElem?_map]
    by_cases z : i < n
    · rw [if_pos z, List.getElem?_range z]; rfl
    · rw [if_neg z, List.getElem?_eq_none (by simp; omega)]; rfl
  refine ⟨fun e => ?_, fun d e => ?_⟩
  · simp only [srcAt, Option.some.injEq] at e
    rw [g] at e
    split at e
    · cases e
    · show n ≤ i; omega
  · simp only [srcAt, Option.some.injEq] at e
    rw [g] at e
    split at e
    · rename_i hz
      cases e
      refine ⟨hz, fun y H' ⟨hh, e3⟩ => ?_⟩
      subst hh
      rw [e3]
      exact ⟨.refl, rh1, .int _⟩
    · cases e
theorem postI_val {f : Loc → PHeap → R PV} {R' : It → Hp → Prop} {E : XK} (p : PostI G φ H ((f l h).bind fun d h1 => srcR (srcOf h1 d) h1) R' E) :
    Post G φ H (f l h) (fun v H1 => ∃ φ1 h1 d1 src, Ext φ H φ1 H1 ∧ RelH G φ1 h1 H1 ∧ RepV G φ1 H1 d1 v ∧ f l h = .ok d1 h1 ∧ srcOf h1 d1 = some src ∧ ∀ J, ItOk G φ1 H1 src J → R' J H1) E := by
  cases e : f l h with
  | ok d h' =>
    rw [e] at p
    simp only [R.bind_ok] at p
    intro φ' H' v x rh rv
    cases z : srcOf h' d with
    | none => rw [z] at p; exact p.elim
    | some src => rw [z] at p; exact ⟨φ', h', d, src, x, rh, rv, rfl, z, fun J hj => p φ' H' J x rh hj⟩
  | exc c fs h' => rw [e] at p; exact p
  | stuck => rw [e] at p; exact p
/-- a walked value: by what it is -/
theorem pi_valZ {tg e : Expr} {f : Loc → PHeap → R PV} (hK : G.K = X.K) (he : PE X e (tEv G W f)) : PI X tg e (iEv G W fun l h => (f l h).bind fun d h1 => srcR (srcOf h1 d) h1) := by
  refine ⟨fun pins s σ H R' I q => ?_⟩
  obtain ⟨φ, l, h, rh, rl, p⟩ := q
  have p2 := postI_val p
  -- by the value's kind
  cases ev : f l h with
  | stuck => rw [ev] at p2; exact p2.elim
  | exc c fs h' =>
    rw [ev] at p2
    refine (pi_tup he).run pins s σ H R' I ⟨φ, l, h, rh, rl, ?_⟩
    rw [ev]; exact p2
  | ok d h1 =>
    cases z : srcOf h1 d with
    | none =>
      have p : PostI G φ H ((f l h).bind fun d h1 => srcR (srcOf h1 d) h1) R' (fun c d H' => W c d σ H') := p
      rw [ev] at p
      simp only [R.bind_ok] at p
      rw [z] at p
      exact p.elim
    | some src =>
      cases d with
      | tup ds =>
        refine (pi_tup he).run pins s σ H R' I ⟨φ, l, h, rh, rl, ?_⟩
        refine Post.mono p2 fun v H1 ⟨φ1, h2, d1, src1, x, rh1, rv, e1, e2, k⟩ => ?_
        rw [ev] at e1; cases e1
        simp only [srcOf] at e2; cases e2
        cases rv with
        | tup s1 q1 => exact ⟨_, rfl, ⟨_, hK ▸ s1⟩, hK ▸ k _ (it_tup rh1 s1 q1)⟩
      | fz ob =>
        cases ob <;> first | (simp only [srcOf] at z; cases z; done) | skip
        refine (pi_list he).run pins s σ H R' I ⟨φ, l, h, rh, rl, ?_⟩
        refine Post.mono p2 fun v H1 ⟨φ1, h2, d1, src1, x, rh1, rv, e1, e2, k⟩ => ?_
        rw [ev] at e1; cases e1
        simp only [srcOf] at e2; cases e2
        cases rv with
        | fl s1 q1 => exact ⟨_, rfl, ⟨_, hK ▸ s1.sq⟩, hK ▸ k _ (it_fl rh1 s1 q1)⟩
      | str y =>
        refine (pi_str he).run pins s σ H R' I ⟨φ, l, h, rh, rl, ?_⟩
        refine Post.mono p2 fun v H1 ⟨φ1, h2, d1, src1, x, rh1, rv, e1, e2, k⟩ => ?_
        rw [ev] at e1; cases e1
        simp only [srcOf] at e2; cases e2
        cases rv
        exact ⟨_, rfl, k _ it_str⟩
      | ref r =>
        refine (pi_list he).run pins s σ H R' I ⟨φ, l, h, rh, rl, ?_⟩
        refine Post.mono p2 fun v H1 ⟨φ1, h2, d1, src1, x, rh1, rv, e1, e2, k⟩ => ?_
        rw [ev] at e1; cases e1
        simp only [srcOf] at e2
        split at e2
        · rename_i ds hx
          cases e2
          cases rv with
          | ref hr =>
            obtain ⟨vs, e3, q3⟩ := rh1.obj r _ _ hx hr
            exact ⟨_, rfl, ⟨vs, SqL.of e3⟩, hK ▸ k _ (it_lst hr)⟩
        · cases e2
      | _ => simp only [srcOf] at z; cases z
theorem iRng1_ev {C : Orc} {e : Ex} (σ : St) (H : Hp) (R' : It → Hp → Prop) (t : iEv G W (evI C (.rng1 e)) σ H R') : iRng1 (tEvA G W (evCons (evE C e) evNil)) σ H R' := by
  obtain ⟨φ, l, h, rh, rl, p⟩ := t
  unfold evI at p
  refine ⟨φ, l, h, rh, rl, ?_⟩
  unfold evCons evNil
  cases z : evE C e l h with
  | ok d h1 =>
    rw [z] at p
    simp only [R.bind_ok] at p ⊢
    intro φ' H' vs x rh' rv
    obtain ⟨v, rfl, r⟩ := repVs_one rv
    split at p
    · rename_i j
      cases r
      unfold rngOf srcR at p
      split at p
      · rename_i s1 hs
        split at hs
        · rename_i hz
          cases hs
          refine ⟨j, rfl, hz.2.2.1, hz.2.2.2, p φ' H' _ x rh' ?_⟩
          have := it_rng (G := G) (φ := φ') (H := H') (lo := 0) (n := j.toNat)
          simpa using this
        · cases hs
      · exact p.elim
    · exact p.elim
  | exc c fs h' => rw [z] at p; exact p
  | stuck => rw [z] at p; exact p
theorem iRng2_ev {C : Orc} {a b : Ex} (σ : St) (H : Hp) (R' : It → Hp → Prop) (t : iEv G W (evI C (.rng2 a b)) σ H R') : iRng2 (tEvA G W (evCons (evE C a) (evCons (evE C b) evNil))) σ H R' := by
  obtain ⟨φ, l, h, rh, rl, p⟩ := t
  unfold evI at p
  refine ⟨φ, l, h, rh, rl, ?_⟩
  unfold evCons evNil
  cases z : evE C a l h with
  | ok d h1 =>
    rw [z] at p
    simp only [R.bind_ok] at p ⊢
    cases z2 : evE C b l h1 with
    | ok e h2 =>
      rw [z2] at p
      simp only [R.bind_ok] at p ⊢
      intro φ' H' vs x rh' rv
      obtain ⟨v, w, rfl, r, r'⟩ := repVs_two rv
      split at p
      · rename_i i j
        cases r; cases r'
        unfold rngOf srcR at p
        split at p
        · rename_i s1 hs
          split at hs
          · rename_i hz
            cases hs
            exact ⟨i, j, rfl, hz, p φ' H' _ x rh' it_rng⟩
          · cases hs
        · exact p.elim
      · exact p.elim
    | exc c fs h' => rw [z2] at p; exact p
    | stuck => rw [z2] at p; exact p
  | exc c fs h' => rw [z] at p; exact p
  | stuck => rw [z] at p; exact p
/-! ### comprehensions -/
mutual
theorem repV_pre (pr : φ <+: φ') (hn : ∀ b, b ∈ φ' → b ∉ φ → ∃ xs, H b = some (.lst xs)) : ∀ {d : PV} {v : V}, RepV G φ H d v → RepV G φ' H d v
  | _, _, .non => .non
  | _, _, .bl b => .bl b
  | _, _, .int i => .int i
  | _, _, .str s => .str s
  | _, _, .ty n => .ty n
  | _, _, .tup s q => .tup s (repVs_pre pr hn q)
  | _, _, .fl s q => .fl s (repVs_pre pr hn q)
  | _, _, .fdK (ob := _) z e q => .fdK z e (repKs_pre pr hn q)
  | _, _, .fdN (ob := _) z ne e m nd q => .fdN z ne e m nd (repEs_pre pr hn q)
  | _, _, .fset (ob := _) z e p l => .fset z e p l
  | _, _, .fiP vs u n c s e l k q w => .fiP vs u (fun hm => by obtain ⟨xs, z⟩ := hn _ hm n; rw [e] at z; cases z) c s e l k (fun f d hf => repV_pre pr hn (q f d hf)) w
  | _, _, .fiS vs u n c s e l k q => .fiS vs u (fun hm => by
      obtain ⟨xs, z⟩ := hn _ hm n
      rcases e with ⟨e, _⟩ | ⟨e, _⟩ <;> (rw [e] at z; cases z)) c s e l k (fun f d hf => repV_pre pr hn (q f d hf))
  | _, _, .scr e => .scr e
  | _, _, .ref e => .ref (pre_get pr e)
  | _, _, .gl e => .gl e
theorem repVs_pre (pr : φ <+: φ') (hn : ∀ b, b ∈ φ' → b ∉ φ → ∃ xs, H b = some (.lst xs)) : ∀ {ds : List PV} {vs : List V}, RepVs G φ H ds vs → RepVs G φ' H ds vs
  | _, _, .nil => .nil
  | _, _, .cons a b => .cons (repV_pre pr hn a) (repVs_pre pr hn b)
theorem repKs_pre (pr : φ <+: φ') (hn : ∀ b, b ∈ φ' → b ∉ φ → ∃ xs, H b = some (.lst xs)) : ∀ {l : List (PV × PV)} {m : List (Key × V)}, RepKs G φ H l m → RepKs G φ' H l m
  | _, _, .nil => .nil
  | _, _, .cons a b c => .cons a (repV_pre pr hn b) (repKs_pre pr hn c)
theorem repEs_pre (pr : φ <+: φ') (hn : ∀ b, b ∈ φ' → b ∉ φ → ∃ xs, H b = some (.lst xs)) : ∀ {l : List (PV × PV)} {m : List (NestedKey × Addr × Value)}, RepEs G φ H l m → RepEs G φ' H l m
  | _, _, .nil => .nil
  | _, _, .cons a b c d e f => .cons a b (repV_pre pr hn c) d (repV_pre pr hn e) (repEs_pre pr hn f)
end
theorem repO_pre (pr : φ <+: φ') (hn : ∀ b, b ∈ φ' → b ∉ φ → ∃ xs, H b = some (.lst xs)) {a : Addr} {o : PObj} (ro : RepO G φ H a o) : RepO G φ' H a o := repO_imp (repV_pre pr hn) (repVs_pre pr hn) (fun _ _ q => q) (fun _ _ q => .inl q) rfl ro
/-- all but lists stay -/
def Stay (H H' : Hp) : Prop := ∀ a o, H a = some o → (∀ xs, o ≠ .lst xs) → (∀ ps, o ≠ .tbl ps) → H' a = some o
theorem Slt.stay {a : Addr} (k : Stay H H') {C dx : Addr} {ws : List (Option V)} (s : SlX.Slt H a C dx ws) : SlX.Slt H' a C dx ws := by
  rcases s with ⟨h1, h2⟩ | ⟨h1, h2⟩
  · exact .inl ⟨k _ _ h1 (fun _ z => nomatch z) (fun _ z => nomatch z), h2⟩
  · exact .inr ⟨k _ _ h1 (fun _ z => nomatch z) (fun _ z => nomatch z), k _ _ h2 (fun _ z => nomatch z) (fun _ z => nomatch z)⟩
theorem SlW.stay {a : Addr} (k : Stay H H') {dx : Addr} (s : SlW H a dx) : SlW H' a dx := ⟨s.1, s.2.imp (fun q => k _ _ q (fun _ z => nomatch z) (fun _ z => nomatch z)) (fun q => k _ _ q (fun _ z => nomatch z) (fun _ z => nomatch z))⟩
mutual
theorem repV_stay (k : Stay H H') : ∀ {d : PV} {v : V}, RepV G φ H d v → RepV G φ H' d v
  | _, _, .non => .non
  | _, _, .bl b => .bl b
  | _, _, .int i => .int i
  | _, _, .str s => .str s
  | _, _, .ty n => .ty n
  | _, _, .tup s q => .tup (match s with | .inl (.inl s) => .inl (.inl (k _ _ s (fun _ z => nomatch z) (fun _ z => nomatch z))) | .inl (.inr ⟨o, s⟩) => .inl (.inr ⟨o, k _ _ s (fun _ z => nomatch z) (fun _ z => nomatch z)⟩) | .inr s => .inr s) (repVs_stay k q)
  | _, _, .fl s q => .fl (let ⟨o, s⟩ := s; ⟨o, k _ _ s (fun _ z => nomatch z) (fun _ z => nomatch z)⟩) (repVs_stay k q)
  | _, _, .fdK (ob := _) z e q => .fdK z (k _ _ e (fun _ z => nomatch z) (fun _ z => nomatch z)) (repKs_stay k q)
  | _, _, .fdN (ob := _) z ne e m nd q => .fdN z ne (k _ _ e (fun _ z => nomatch z) (fun _ z => nomatch z)) m nd (repEs_stay k q)
  | _, _, .fset (ob := _) z e p l => .fset z (k _ _ e (fun _ z => nomatch z) (fun _ z => nomatch z)) p l
  | _, _, .fiP vs u n c s e l k' q w => .fiP vs u n c s (k _ _ e (fun _ z => nomatch z) (fun _ z => nomatch z)) l k' (fun f d hf => repV_stay k (q f d hf)) w
  | _, _, .fiS vs u n c s e l k' q => .fiS vs u n c s (Slt.stay k e) (SlW.stay k l) k' (fun f d hf => repV_stay k (q f d hf))
  | _, _, .scr e => .scr (e.imp (fun ⟨o, s⟩ => ⟨o, k _ _ s (fun _ z => nomatch z) (fun _ z => nomatch z)⟩) id)
  | _, _, .ref e => .ref e
  | _, _, .gl e => .gl e
theorem repVs_stay (k : Stay H H') : ∀ {ds : List PV} {vs : List V}, RepVs G φ H ds vs → RepVs G φ H' ds vs
  | _, _, .nil => .nil
  | _, _, .cons a b => .cons (repV_stay k a) (repVs_stay k b)
theorem repKs_stay (k : Stay H H') : ∀ {l : List (PV × PV)} {m : List (Key × V)}, RepKs G φ H l m → RepKs G φ H' l m
  | _, _, .nil => .nil
  | _, _, .cons a b c => .cons a (repV_stay k b) (repKs_stay k c)
theorem repEs_stay (k : Stay H H') : ∀ {l : List (PV × PV)} {m : List (NestedKey × Addr × Value)}, RepEs G φ H l m → RepEs G φ H' l m
  | _, _, .nil => .nil
  | _, _, .cons a b c d e f => .cons a b (repV_stay k c) d (repV_stay k e) (repEs_stay k f)
end
theorem repO_stay (k : Stay H H') {a : Addr} {o : PObj} (e : H' a = H a) (ro : RepO G φ H a o) : RepO G φ H' a o := repO_imp (repV_stay k) (repVs_stay k) (fun b fs q => k _ _ q (fun _ z => nomatch z) (fun _ z => nomatch z)) (fun b x q => .inl (k _ _ q (fun _ z => nomatch z) (fun _ z => nomatch z))) e ro
theorem stay_lst {a : Addr} {xs : List V} {u : HO} (e : H a = some (.lst xs)) : Stay H (upd H a u) := fun b o q n _ => by rw [upd_ne (ne_of q e (n xs))]; exact q
/-- a tracked list outside changes -/
theorem RelH.out (r : RelH G φ h H) {a : Addr} {xs : List V} {u : HO} (e : H a = some (.lst xs)) (na : a ∉ φ) : RelH G φ h (upd H a u) where
  tab := r.tabs (fun b hb nb => absurd hb nb) fun b o q _ _ nl => by rw [upd_ne fun z => nl xs (by rw [z, e] at q; cases q; rfl)]; exact q
  len := r.len
  nd := r.nd
  obj := fun j o b e1 e2 => repO_stay (stay_lst e) (upd_ne fun z => na (by rw [← z]; exact List.mem_of_getElem? e2)) (r.obj j o b e1 e2)
/-- a tracked thing comes into the heap -/
theorem RelH.adopt (r : RelH G φ h H) {o : PObj} {zs : List V} (eZ : H D = some (.lst zs)) (hD : D ∉ φ) (ro : RepO G (φ ++ [D]) H D o) : RelH G (φ ++ [D]) (h ++ [o]) H where
  tab := fun p hp => by
    obtain ⟨ps, e, k, f⟩ := r.tab p hp
    refine ⟨ps, e, k, fun pos cv hc => ?_⟩
    obtain ⟨c, e1, n, e2⟩ := f pos cv hc
    refine ⟨c, e1, fun hm => ?_, e2⟩
    rcases List.mem_append.mp hm with z | z
    · exact n z
    · rw [List.mem_singleton.mp z, eZ] at e2; cases e2
  len := by simp [r.len]
  nd := by
    refine List.nodup_append.mpr ⟨r.nd, by simp, fun b hb c hc => ?_⟩
    rw [List.mem_singleton.mp hc]
    intro e
    rw [e] at hb
    exact hD hb
  obj := fun j o' b e1 e2 => by
    have hl := r.len
    by_cases hj : j < h.length
    · rw [List.getElem?_append_left hj] at e1
      rw [List.getElem?_append_left (by omega)] at e2
      exact repO_pre (List.prefix_append _ _) (fun c hc nc => ⟨zs, by rcases List.mem_append.mp hc with z | z; exact absurd z nc; rw [List.mem_singleton.mp z]; exact eZ⟩) (r.obj j o' b e1 e2)
    · rw [List.getElem?_append_right (by omega)] at e1 e2
      have z1 : j - h.length = 0 := by
        have := (List.getElem?_eq_some_iff.mp e1).1
        simp at this; omega
      have z2 : j - φ.length = 0 := by omega
      rw [z1] at e1; rw [z2] at e2
      simp at e1 e2
      subst e1; subst e2
      exact ro
theorem wipeP_len (l : Loc) : ∀ vs, (wipeP l vs).length = l.length
  | [] => rfl
  | v :: vs => by unfold wipeP; rw [List.length_set, wipeP_len l vs]
theorem repL_wipe (rl : RepL G φ H l σ) : ∀ vs, RepL G φ H (wipeP l vs) (wipe σ vs)
  | [] => rl
  | v :: vs => by
    have ih := repL_wipe rl vs
    unfold wipeP wipe
    refine ⟨by simpa using ih.1, fun i d e => ?_⟩
    by_cases z : v = i
    · subst z
      by_cases hl : v < (wipeP l vs).length
      · rw [List.getElem?_set_self hl] at e; cases e
      · rw [List.getElem?_eq_none (by simpa using hl)] at e; cases e
    · rw [List.getElem?_set_ne z] at e ⊢
      exact ih.2 i d e
abbrev W0 : WX := fun _ _ _ _ => False
/-- a list's end: in the heap, or locked -/
def zQ (z : Bool) (Q : VK) : VK := match z with
  | true => lkQ Q
  | false => Q
/-- one for; the ifs' test tt, the element el: functions -/
theorem tLc_ev {z : Bool} {tg : Tg} {fi : Loc → PHeap → R Src} {tt : Loc → PHeap → R Bool} {el : Loc → PHeap → R PV} {own : List Nat} (hs : ∀ i, i ∈ slotsT tg → i ∈ own) (σ : St) (H : Hp) (Q Q' : VK) (hQ : ∀ v H', zQ z Q v H' → Q' v H')
    (t : tEv G W (fun l h => (fi l h).bind fun src h1 => (lcLoop tg src tt el (wipeP l own) (srcLen h1 src + 1) 0 [] h1).bind fun ds h2 => liftP (some (mkL z ds h2))) σ H Q) :
    tLc (iEv G W fi) (gEv G tg) (tEvT G W0 tt) (tEv G W0 el) own σ H Q' := by
  obtain ⟨φ, l, h, rh, rl, p⟩ := t
  refine ⟨φ, l, h, rh, rl, ?_⟩
  have p : Post G φ H ((fi l h).bind fun src h1 => (lcLoop tg src tt el (wipeP l own) (srcLen h1 src + 1) 0 [] h1).bind fun ds h2 => liftP (some (mkL z ds h2))) Q (fun c d H' => W c d σ H') := p
  cases e0 : fi l h with
  | exc c fs h' => rw [e0] at p; exact p
  | stuck => rw [e0] at p; exact p
  | ok src h1 =>
    rw [e0] at p
    simp only [R.bind_ok] at p
    intro φ1 H1 J x1 rh1 hj D hD
    -- the loop ends well
    cases e1 : lcLoop tg src tt el (wipeP l own) (srcLen h1 src + 1) 0 [] h1 with
    | stuck => rw [e1] at p; exact p.elim
    | exc c fs h' =>
      exfalso
      have no : ∀ n i acc h, lcLoop tg src tt el (wipeP l own) n i acc h ≠ .exc c fs h' := by
        intro n
        induction n with
        | zero => intro i acc h q; simp [lcLoop] at q
        | succ n ih =>
          intro i acc h q
          unfold lcLoop at q
          split at q
          · cases q
          · cases q
          · split at q
            · cases q
            · split at q
              · exact ih _ _ _ q
              · split at q
                · split at q
                  · exact ih _ _ _ q
                  · cases q
                · cases q
              · cases q
      exact no _ _ _ _ e1
    | ok ds h2 =>
      rw [e1] at p
      simp only [R.bind_ok, liftP] at p
      refine ⟨fun i m H' => ∃ φ' h' accP accV, Ext φ1 H1 φ' H' ∧ RelH G φ' h' H' ∧ D ∉ φ' ∧ H' D = some (.lst accV) ∧ RepVs G φ' H' accP accV ∧ lcLoop tg src tt el (wipeP l own) m i accP h' = .ok ds h2,
        ⟨srcLen h1 src + 1, φ1, h1, [], [], ext_tup hD, rh1.tup hD, rh1.free hD, upd_same, .nil, e1⟩, ?_⟩
      rintro i m H2 ⟨φ2, h', accP, accV, x2, rh2, nD, eD, racc, ev⟩
      cases m with
      | zero => simp [lcLoop] at ev
      | succ m =>
        unfold lcLoop at ev
        have J2 := hj φ2 h' H2 x2 rh2 i
        cases es : srcAt h' i src with
        | none => rw [es] at ev; cases ev
        | some so =>
          rw [es] at ev
          cases so with
          | none =>
            simp only [R.ok.injEq] at ev
            obtain ⟨rfl, rfl⟩ := ev
            refine .inl ⟨J2.1 es, hQ _ _ ?_⟩
            cases z with
            | false =>
              have hn : ∀ c, c ∈ φ2 ++ [D] → c ∉ φ2 → ∃ xs, H2 c = some (.lst xs) := fun c hc nc => ⟨accV, by rcases List.mem_append.mp hc with z | z; exact absurd z nc; rw [List.mem_singleton.mp z]; exact eD⟩
              have ad := rh2.adopt (o := .lst accP) eD nD ⟨accV, eD, repVs_pre (List.prefix_append _ _) hn racc⟩
              refine p (φ2 ++ [D]) H2 (.ref D) (x1.trans ⟨x2.pre.trans (List.prefix_append _ _), fun a ha na o eo nt => ?_, x2.keep, x2.own⟩) ad (.ref ?_)
              · rcases List.mem_append.mp ha with z | z
                · exact x2.new a z na o eo nt
                · rw [List.mem_singleton.mp z, hD] at eo; cases eo
              · rw [← rh2.len, List.getElem?_append_right (Nat.le_refl _)]; simp
            | true =>
              refine ⟨D, _, rfl, eD, trivial, fun od => ?_⟩
              refine p φ2 _ (.ref D) (x1.trans ⟨x2.pre, x2.new, fun a o ea na no => ?_, fun a o ea na => ?_⟩) (rh2.out eD nD) (.fl ⟨od, upd_same⟩ (repVs_stay (stay_lst eD) racc))
              · rw [upd_ne (ne_of_none ea hD)]; exact x2.keep a o ea na no
              · rw [upd_ne (ne_of_none ea hD)]; exact x2.own a o ea na
          | some d =>
            refine .inr ⟨(J2.2 d es).1, _, fun H' hn => ⟨m, Nat.lt_succ_self _, hn⟩, fun x H3 hy => ?_⟩
            obtain ⟨x3, rh3, rx⟩ := (J2.2 d es).2 x H3 hy
            have eD3 : H3 D = some (.lst accV) := x3.keep D _ eD nD trivial
            simp only at ev
            cases eb : bindT tg d (wipeP l own) with
            | none => rw [eb] at ev; cases ev
            | some l1 =>
              rw [eb] at ev
              simp only at ev
              have rlw : RepL G φ2 H3 (wipeP l own) (wipe σ own) := repL_ext rh2 x3 (repL_ext rh1 x2 (repL_ext rh x1 (repL_wipe rl own)))
              refine ⟨φ2, h', wipeP l own, d, l1, rh3, rlw, rx, eb, fun σ2 rl2 u2 => ⟨?_, ?_⟩⟩
              · have := wipe_upd u2 hs
                rw [this]
                exact wipe_upd (is := own) ⟨by rw [wipe_length], fun i hi => by
                  have get : ∀ (vs : List Nat), i ∉ vs → (wipe σ vs)[i]? = σ[i]? := by
                    intro vs
                    induction vs with
                    | nil => intro _; rfl
                    | cons v vs ih =>
                      intro hv
                      rw [List.mem_cons, not_or] at hv
                      show ((wipe σ vs).set v none)[i]? = _
                      rw [List.getElem?_set_ne (fun q => hv.1 q.symm)]
                      exact ih hv.2
                  exact get own hi⟩ (fun i hi => hi)
              · refine ⟨φ2, l1, h', rh3, rl2, ?_⟩
                cases et : tt l1 h' with
                | stuck => rw [et] at ev; cases ev
                | exc c fs h'' => rw [et] at ev; cases ev
                | ok b h3 =>
                  rw [et] at ev
                  intro φ4 H4 x4 rh4
                  have nD4 : D ∉ φ4 := fun hm => by
                    exact x4.new D hm nD _ eD3 fun _ z => nomatch z
                  have eD4 : H4 D = some (.lst accV) := x4.keep D _ eD3 nD trivial
                  have racc4 : RepVs G φ4 H4 accP accV := repVs_ext rh3 x4 (repVs_ext rh2 x3 racc)
                  have x14 : Ext φ1 H1 φ4 H4 := x2.trans (x3.trans x4)
                  cases b with
                  | false =>
                    rw [if_neg Bool.false_ne_true]
                    exact ⟨φ4, h3, accP, accV, x14, rh4, nD4, eD4, racc4, ev⟩
                  | true =>
                    rw [if_pos rfl]
                    refine ⟨φ4, l1, h3, rh4, repL_ext rh3 x4 rl2, ?_⟩
                    simp only at ev
                    cases ee : el l1 h3 with
                    | stuck => rw [ee] at ev; cases ev
                    | exc c fs h'' => rw [ee] at ev; cases ev
                    | ok y h4 =>
                      rw [ee] at ev
                      simp only at ev
                      intro φ5 H5 v x5 rh5 rv5
                      have nD5 : D ∉ φ5 := fun hm => by
                        exact x5.new D hm nD4 _ eD4 fun _ z => nomatch z
                      have eD5 : H5 D = some (.lst accV) := x5.keep D _ eD4 nD4 trivial
                      have racc5 := repVs_ext rh4 x5 racc4
                      split at ev
                      · rename_i hz
                        refine ⟨accV, eD5, by rw [← racc5.length]; exact hz, ?_⟩
                        -- the list under construction grows
                        have x15 : Ext φ1 H1 φ5 H5 := x14.trans x5
                        refine ⟨φ5, h4, accP ++ [y], accV ++ [v], ⟨x15.pre, x15.new, fun a o ea na no => ?_, fun a o ea na => ?_⟩, rh5.out eD5 nD5, nD5, upd_same, repVs_stay (stay_lst eD5) (racc5.append (.cons rv5 .nil)), ev⟩
                        · rw [upd_ne (ne_of_none ea hD)]
                          exact x15.keep a o ea na no
                        · rw [upd_ne (ne_of_none ea hD)]
                          exact x15.own a o ea na
                      · cases ev
end
end Zed
end
section
set_option Elab.async false
set_option linter.all false
set_option maxRecDepth 100000
/-! ZedW: enumerate of a tuple. -/
namespace L2
open PySem PySem.Spec PyProof.Rows
set_option maxHeartbeats 1000000 in
theorem newEnumB {v : Value} {o : Obj} {H : Heap → Prop} (B : Begins v o H) :
    Meets (Builtin.«enumerate.__new__» ⟨[.type "enumerate", v], []⟩) (fun _ R s => H s.heap ∧
      R (.ok (.ret (.ref (s.heap.push o).objs.size))) { s with heap := (s.heap.push o).push { cls := .type "enumerate", data := .fields #[.none, .bool false, .ref s.heap.objs.size, rawInt 0, .none, .none] } }) :=
  .of_wp fun prog w A R s h => by
    obtain ⟨hp, g, d, tk, os⟩ := s; obtain ⟨h1, h⟩ := h
    have hsub := sub_enumerate
    have q1 : ∀ {A' : Around} {E : Value → Shared → Prop} {Q : Value → Shared → Prop}, Q (.ref hp.objs.size) ⟨hp.push o, g, d, tk, os⟩ → wpAny (model prog w) A' (pyIter v) Q E ⟨hp, g, d, tk, os⟩ :=
      fun q => B.iter prog w _ _ ⟨hp, g, d, tk, os⟩ _ h1 q
    wp_walk using q1
    refine wpAny_stack_any fun st => wpAny_pure ?_
    split
    · rename_i c _ _ _ _ _
      cases (c == Value.type "enumerate")
      · wp_walk using q1
        exact ⟨_, rfl, h⟩
      · wp_walk using q1
        exact ⟨_, rfl, h⟩
    · wp_walk using q1
      exact ⟨_, rfl, h⟩
theorem call_enumB {prog : Program} {w : World} {A : Around} {E : Value → Shared → Prop} {s : Shared} {v : Value} {o : Obj} {H : Heap → Prop} {Q : Value → Shared → Prop} (B : Begins v o H) (h1 : H s.heap)
    (h : ∀ h', IsEnum h' (s.heap.objs.size + 1) s.heap.objs.size 0 .none → h'.get? s.heap.objs.size = some o → h'.objs.size = s.heap.objs.size + 2 →
      (∀ b o, s.heap.get? b = some o → h'.get? b = some o) → Q (.ref (s.heap.objs.size + 1)) { s with heap := h' }) :
    wpAny (model prog w) A (call (.type "enumerate") [v]) Q E s := by
  refine callType_new F.called_enumerate (by decide) (F.typeCall_enumerate_1 _) (F.newCall_enumerate_1 _) (fun obj => F.args_object_init_2 obj _) F.entry_enumerate_new
    (newEnumB B) ⟨h1, ?_⟩
  have hz : (s.heap.push o).objs.size = s.heap.objs.size + 1 := Heap.size_push ..
  show _ ∧ _
  rw [hz]
  have he : IsEnum ((s.heap.push o).push { cls := .type "enumerate", data := .fields #[.none, .bool false, .ref s.heap.objs.size, rawInt 0, .none, .none] }) (s.heap.objs.size + 1) s.heap.objs.size 0 .none := by
    have := Heap.get?_push_size (s.heap.push o) (o := { cls := .type "enumerate", data := .fields #[.none, .bool false, .ref s.heap.objs.size, rawInt 0, .none, .none] }) rfl
    rw [hz] at this; exact this
  refine ⟨⟨_, he, rfl⟩, h _ he (Heap.get?_push_of_some _ (Heap.get?_push_size _ B.free)) (by rw [Heap.size_push, hz]) fun b o x => Heap.get?_push_of_some _ (Heap.get?_push_of_some _ x)⟩
theorem enumT_end {prog : Program} {w : World} {A : Around} {E : Value → Shared → Prop} {s : Shared} {e it l : Addr} {i : Nat} {items : Array Value} {old : Value} {Q : Option Value → Shared → Prop} (hh : A.handled = none)
    (he : IsEnum s.heap e it i old) (hit : s.heap.IsTupleIter it l i) (hl : s.heap.IsTuple l items) (hx : items[i]? = none)
    (hQ : ∀ h', Heap.ExtBut it s.heap h' → Q none { s with heap := h' }) : wpAny (model prog w) A (pyNext (.ref e)) Q E s := by
  have hT : s.TypeIs (.ref e) "enumerate" := ⟨_, he, rfl⟩
  unfold pyNext
  refine wpAny_bind (wpAny_attempt (wpAny_callSpecial?_slot (name := Str.ofString "__next__") hT F.slot_enumerate_next
    (wpAny_call_entry F.slot_enumerate_next hT F.entry_enumerate_next ?_ (F.args_enumerate_next_1 _))))
  show wpAny _ _ (field (.ref e) 2 >>= _) _ _ _
  refine wpAny_bind (wpAny_field he rfl (x := .ref it) rfl ?_)
  refine wpAny_bind (wpAny_nextOf_tuple_end hh hit hl hx fun h' x he' hx' => ?_)
  obtain ⟨o, ho, hc⟩ := hx'
  refine wpAny_bind (wpAny_isInstance (T := "StopIteration") (b := true) ⟨o, ho, hc⟩ isSubtype_stop ?_)
  exact wpAny_pure (hQ _ he')
/-- the tuple at a, each item in a new pair -/
def IteT (K : PySem.W.Frag) (a : Addr) : It :=
  ⟨fun i H => ∃ (xs : List V) (x : V), SqT K H a xs ∧ xs[i]? = some x, fun i H v H' => ∃ T x, v = .ref T ∧ H T = none ∧ H' = upd H T (.tup [.int (i : Nat), x]) ∧ ∀ xs, SqT K H a xs → xs[i]? = some x, fun i H => ∃ xs : List V, SqT K H a xs ∧ xs.length ≤ i⟩
theorem turn_enumT {P : Program} {w : World} {K : PySem.W.Frag} {elts : List Expr} {kk : Nat} {tpos : Pos} (a e it : Addr) :
    Turn P w K (.Tuple elts kk tpos) (IteT K a) [e, it] e (fun i h => (∃ old, IsEnum h e it ((i : Nat) : Int) old) ∧ h.IsTupleIter it a i ∧ e ≠ it ∧ a ≠ e ∧ a ≠ it) where
  mem := by simp
  obj := fun i h st b hb => by
    obtain ⟨⟨old, he⟩, ⟨o, ho, hc, hd⟩, _⟩ := st
    have e' : b = e ∨ b = it := by simpa using hb
    rcases e' with z | z
    · rw [z]; exact ⟨_, he, fun v q => nomatch q⟩
    · rw [z]; exact ⟨o, ho, fun v q => by rw [hd] at q; cases q⟩
  keep := fun i h h' st k => let ⟨⟨old, he⟩, hi, hne, ha, hb⟩ := st; ⟨⟨old, k e (by simp) _ he⟩, hi.at fun o q => k it (by simp) o q, hne, ha, hb⟩
  item := by
    intro X hP hw hK hc i pins s σ H E I hf st hg
    subst hP hw hK
    obtain ⟨⟨old, he⟩, hit, hne, hae, hai⟩ := st
    obtain ⟨xs, x, hq, hx⟩ := hg
    obtain ⟨its, rv, p, hz⟩ := I.tuple hq
    obtain ⟨u, hu, ru⟩ := rv.get hx
    have hel : e < s.heap.objs.size := Heap.lt_size he
    have hil : it < s.heap.objs.size := by obtain ⟨_, q, _⟩ := hit; exact Heap.lt_size q
    have pT : s.heap.IsTuple a its.toArray := p
    have hlt : i < its.toArray.size := by
      rw [List.size_toArray]
      exact (List.getElem?_eq_some_iff.mp hu).1
    refine wpAny_pyNext_enum_itemD (Draws.tuple (A := X.A.in1) (I.ok.hd hc) it a hai its.toArray) he ⟨hit, pT⟩ hlt hne (by simp; exact ⟨hne, Ne.symm hae⟩) fun x' h' tk hx' ho hst' hT hsz hk => ?_
    obtain rfl : x' = u := by
      have : its.toArray[i]? = some u := by simpa using hu
      rw [this] at hx'; exact (Option.some.inj hx').symm
    refine ⟨_, rfl, wpAny_letOwnedTupleGo_enum (s := { s with heap := h', toks := tk + 1 }) ho fun h'' he' sb => ?_⟩
    have hT2 : h''.get? s.heap.objs.size = some { cls := .type "tuple", data := .seq #[.int i tk, x'] } := (sb.2 _ (Nat.ne_of_gt hel)).trans hT
    have new : ObjOk X.prog X.w (upd H s.heap.objs.size (.tup [.int (i : Nat), x])) h'' s.heap.objs.size (.tup [.int (i : Nat), x]) :=
      ⟨by show 2 ≤ sizeLine; decide, [.int i tk, x'], .cons ⟨_, rfl⟩ (.cons ru .nil), ⟨_, hT2, rfl, _, rfl⟩⟩
    have I1 : Inv X pins σ (upd H s.heap.objs.size (.tup [.int (i : Nat), x])) { s with heap := h'', toks := tk + 1 } :=
      I.turnedNew (ch := [e, it]) (fun b ob hb q => (sb.2 b (fun z => hb (by simp [z]))).trans (hk b ob (fun z => hb (by simp [z])) (fun z => hb (by simp [z])) q)) hf (Nat.le_refl _) new
    refine ⟨.ref s.heap.objs.size, _, I1, rfl, ⟨_, x, rfl, I.hok.fresh (Nat.le_refl _), rfl, fun ys hy => by rw [I.tuple_inj hy hq]; exact hx⟩, ⟨⟨x', ?_⟩, hst'.1.at fun o q => (sb.2 it (Ne.symm hne)).trans q, hne, hae, hai⟩, fun b hb => ?_⟩
    · have e1 : ((i + 1 : Nat) : Int) = (i : Int) + 1 := by omega
      rw [e1]; exact he'
    · have hb' : b < s.heap.objs.size := by
        have e' : b = e ∨ b = it := by simpa using hb
        rcases e' with z | z
        · rw [z]; exact hel
        · rw [z]; exact hil
      rw [upd_ne (Nat.ne_of_lt hb')]
      exact (hf b hb).1
  done := by
    intro X hP hw hK hc i pins s σ H E I hf st hg
    subst hP hw hK
    obtain ⟨⟨old, he⟩, hit, hne, hae, hai⟩ := st
    obtain ⟨xs, hq, hx⟩ := hg
    obtain ⟨its, rv, p, hz⟩ := I.tuple hq
    obtain ⟨f0, f1, f2, f3, f4, f5⟩ := hf it (by simp)
    have hl := rv.length
    exact enumT_end (I.ok.hd hc) he hit p (by simp; omega) fun h' eb => ⟨rfl, I.turned (t' := s.toks) (fun b o hb q => eb b o hb q) f0 f1 f3 f4 f5⟩
  self := fun A i s Q E st h => let ⟨⟨_, he⟩, _⟩ := st; wpAny_pyIter_enum he h
/-- what enumerate is handed: a list or a tuple -/
def iEnumA (K : PySem.W.Frag) (ta : TA) : TI := fun σ H R => ta σ H fun vs H1 => ∃ a xs, vs = [.ref a] ∧ ((SqL K H1 a xs ∧ R (Ite K a) H1) ∨ (SqT K H1 a xs ∧ R (IteT K a) H1))
theorem pi_enumA {X : Cx} {e : Expr} {ta : TA} {p pos tpos : Pos} {elts : List Expr} {kk : Nat} (hg : Gl X "enumerate") (hm : X.mg "enumerate" = none) (ha : PA X [e] ta) (hs : starEach [e] X.env = [(false, eval e X.env)] := by rfl) :
    PI X (.Tuple elts kk tpos) (.Call (.Name "enumerate" p) [e] [] pos) (iEnumA X.K ta) := by
  refine ⟨fun pins s σ H R I h => ?_⟩
  refine Call_ (ld_blt I hg hm boot_enumerate (PyProof.Rows.callWith_type1 (thn (ha.run pos pins s σ H _ I h) fun us s1 ⟨vs, H1, I1, r1, q1⟩ => ?_) hs rfl))
  obtain ⟨a, xs, ex, q1⟩ := q1
  subst ex
  cases r1 with
  | cons r rr =>
    cases rr
    cases r
    rcases q1 with ⟨hq, q⟩ | ⟨hq, q⟩
    · obtain ⟨its, rv, p', hz⟩ := I1.list hq
      refine call_enumerate_list p'.isList fun h' he hit hsz hk => wpAny_pyIter_enum he ?_
      have I2 : Inv X pins σ H1 { s1 with heap := h' } := I1.kept (t' := s1.toks) hk
      refine ⟨s1.heap.objs.size + 1, [s1.heap.objs.size + 1, s1.heap.objs.size], _, _, H1, rfl, I2, turn_enum a (s1.heap.objs.size + 1) s1.heap.objs.size, ⟨⟨.none, he⟩, hit, Nat.succ_ne_self _⟩, fun b hb => ?_, q⟩
      have hb' : s1.heap.objs.size ≤ b := by
        have e' : b = s1.heap.objs.size + 1 ∨ b = s1.heap.objs.size := by simpa using hb
        rcases e' with z | z
        · rw [z]; exact Nat.le_add_right _ _
        · rw [z]; exact Nat.le_refl _
      exact I1.fpOk hb' (I1.hok.fresh hb')
    · obtain ⟨its, rv, p', hz⟩ := I1.tuple hq
      have pT : s1.heap.IsTuple a its.toArray := p'
      have hla : a < s1.heap.objs.size := by obtain ⟨_, q, _⟩ := pT; exact Heap.lt_size q
      refine call_enumB (begins_tuple a its.toArray) pT fun h' he hit hsz hk => wpAny_pyIter_enum he ?_
      have I2 : Inv X pins σ H1 { s1 with heap := h' } := I1.kept (t' := s1.toks) hk
      refine ⟨s1.heap.objs.size + 1, [s1.heap.objs.size + 1, s1.heap.objs.size], _, _, H1, rfl, I2, turn_enumT a (s1.heap.objs.size + 1) s1.heap.objs.size, ⟨⟨.none, he⟩, ⟨_, hit, rfl, rfl⟩, Nat.succ_ne_self _, Nat.ne_of_lt (Nat.lt_succ_of_lt hla), Nat.ne_of_lt hla⟩, fun b hb => ?_, q⟩
      have hb' : s1.heap.objs.size ≤ b := by
        have e' : b = s1.heap.objs.size + 1 ∨ b = s1.heap.objs.size := by simpa using hb
        rcases e' with z | z
        · rw [z]; exact Nat.le_add_right _ _
        · rw [z]; exact Nat.le_refl _
      exact I1.fpOk hb' (I1.hok.fresh hb')
end L2
end
section
set_option Elab.async false
set_option linter.all false
set_option maxRecDepth 100000
/-! ZedV: enumerate and zip are walked. -/
namespace Zed
open PySem L2 RZ
section
variable {G : Gc} {W : WX} {X : Cx} {φ φ' : List Addr} {h h' : PHeap} {H H' : Hp} {l : Loc} {σ : L2.St} {D : Addr}
theorem it_pair {T : Addr} {a b : PV} {x y : V} (rh : RelH G φ h H) (r1 : RepV G φ H a x) (r2 : RepV G φ H b y) (hT : H T = none) :
    Ext φ H φ (upd H T (.tup [x, y])) ∧ RelH G φ h (upd H T (.tup [x, y])) ∧ RepV G φ (upd H T (.tup [x, y])) (.tup [a, b]) (.ref T) := by
  have e := ext_tup (φ := φ) (u := HO.tup [x, y]) hT
  exact ⟨e, rh.tup hT, .tup (SqT.of upd_same) (.cons (repV_ext rh e r1) (.cons (repV_ext rh e r2) .nil))⟩
theorem enm_get {ds : List PV} {i : Nat} : (ds.mapIdx fun i x => PV.tup [.int i, x])[i]? = ds[i]?.map fun x => PV.tup [.int i, x] := by
  rw [List.getElem?_mapIdx]
theorem it_enmL {a : Addr} {ds : List PV} {vs : List V} (rh : RelH G φ h H) (s : FzL G.K H a vs) (q : RepVs G φ H ds vs) : ItOk G φ H (.seq (ds.mapIdx fun i x => .tup [.int i, x])) (Ite G.K a) := by
  intro φ1 h1 H1 x rh1 i
  have s1 := (fzL_ext rh x s).sq
  have q1 := repVs_ext rh x q
  refine ⟨fun e => ?_, fun d e => ?_⟩
  · simp only [srcAt, Option.some.injEq, enm_get, Option.map_eq_none_iff] at e
    exact ⟨vs, s1, by rw [← q1.length]; exact List.getElem?_eq_none_iff.mp e⟩
  · simp only [srcAt, Option.some.injEq, enm_get] at e
    obtain ⟨d0, e0, rfl⟩ := omap e
    obtain ⟨v, e1, r⟩ := q1.get e0
    refine ⟨⟨vs, v, s1, e1⟩, fun y H' ⟨T, v', ey, hT, hh, f⟩ => ?_⟩
    subst ey; subst hh
    have := f vs s1
    rw [e1] at this
    cases this
    exact it_pair rh1 (.int _) r hT
theorem it_enmT {a : Addr} {ds : List PV} {vs : List V} (rh : RelH G φ h H) (s : SqT G.K H a vs) (q : RepVs G φ H ds vs) : ItOk G φ H (.seq (ds.mapIdx fun i x => .tup [.int i, x])) (IteT G.K a) := by
  intro φ1 h1 H1 x rh1 i
  have s1 := sqT_ext rh x s
  have q1 := repVs_ext rh x q
  refine ⟨fun e => ?_, fun d e => ?_⟩
  · simp only [srcAt, Option.some.injEq, enm_get, Option.map_eq_none_iff] at e
    exact ⟨vs, s1, by rw [← q1.length]; exact List.getElem?_eq_none_iff.mp e⟩
  · simp only [srcAt, Option.some.injEq, enm_get] at e
    obtain ⟨d0, e0, rfl⟩ := omap e
    obtain ⟨v, e1, r⟩ := q1.get e0
    refine ⟨⟨vs, v, s1, e1⟩, fun y H' ⟨T, v', ey, hT, hh, f⟩ => ?_⟩
    subst ey; subst hh
    have := f vs s1
    rw [e1] at this
    cases this
    exact it_pair rh1 (.int _) r hT
theorem zip_get {xs ys : List PV} {i : Nat} : (List.zipWith (fun x y => PV.tup [x, y]) xs ys)[i]? = match xs[i]?, ys[i]? with | some x, some y => some (PV.tup [x, y]) | _, _ => none := by
  rw [List.getElem?_zipWith]
  cases xs[i]? <;> cases ys[i]? <;> rfl
theorem it_zipL {a b : Addr} {ds es : List PV} {vs ws : List V} (rh : RelH G φ h H) (s : FzL G.K H a vs) (q : RepVs G φ H ds vs) (s' : FzL G.K H b ws) (q' : RepVs G φ H es ws) : ItOk G φ H (.seq (List.zipWith (fun x y => .tup [x, y]) ds es)) (Itz G.K a b) := by
  intro φ1 h1 H1 x rh1 i
  have s1 := (fzL_ext rh x s).sq
  have q1 := repVs_ext rh x q
  have s2 := (fzL_ext rh x s').sq
  have q2 := repVs_ext rh x q'
  refine ⟨fun e => ?_, fun d e => ?_⟩
  · simp only [srcAt, Option.some.injEq] at e
    have := List.getElem?_eq_none_iff.mp e
    rw [List.length_zipWith] at this
    refine ⟨vs, ws, s1, s2, ?_⟩
    rw [← q1.length, ← q2.length]; omega
  · simp only [srcAt, Option.some.injEq, zip_get] at e
    split at e
    · rename_i d0 d1 e0 e1
      cases e
      obtain ⟨v, f0, r⟩ := q1.get e0
      obtain ⟨w, f1, r'⟩ := q2.get e1
      refine ⟨⟨vs, ws, v, w, s1, s2, f0, f1⟩, fun y H' ⟨T, v', w', ey, hT, hh, g0, g1⟩ => ?_⟩
      subst ey; subst hh
      have z0 := g0 vs s1
      have z1 := g1 ws s2
      rw [f0] at z0
      rw [f1] at z1
      cases z0; cases z1
      exact it_pair rh1 r r' hT
    · cases e
theorem it_zipT {a b : Addr} {ds es : List PV} {vs ws : List V} (rh : RelH G φ h H) (s : SqT G.K H a vs) (q : RepVs G φ H ds vs) (s' : SqT G.K H b ws) (q' : RepVs G φ H es ws) : ItOk G φ H (.seq (List.zipWith (fun x y => .tup [x, y]) ds es)) (ItzT G.K a b) := by
  intro φ1 h1 H1 x rh1 i
  have s1 := sqT_ext rh x s
  have q1 := repVs_ext rh x q
  have s2 := sqT_ext rh x s'
  have q2 := repVs_ext rh x q'
  refine ⟨fun e => ?_, fun d e => ?_⟩
  · simp only [srcAt, Option.some.injEq] at e
    have := List.getElem?_eq_none_iff.mp e
    rw [List.length_zipWith] at this
    refine ⟨vs, ws, s1, s2, ?_⟩
    rw [← q1.length, ← q2.length]; omega
  · simp only [srcAt, Option.some.injEq, zip_get] at e
    split at e
    · rename_i d0 d1 e0 e1
      cases e
      obtain ⟨v, f0, r⟩ := q1.get e0
      obtain ⟨w, f1, r'⟩ := q2.get e1
      refine ⟨⟨vs, ws, v, w, s1, s2, f0, f1⟩, fun y H' ⟨T, v', w', ey, hT, hh, g0, g1⟩ => ?_⟩
      subst ey; subst hh
      have z0 := g0 vs s1
      have z1 := g1 ws s2
      rw [f0] at z0
      rw [f1] at z1
      cases z0; cases z1
      exact it_pair rh1 r r' hT
    · cases e
theorem iEnm_ev {C : Orc} {e : Ex} (σ : L2.St) (H : Hp) (R' : It → Hp → Prop) (t : iEv G W (evI C (.enm e)) σ H R') : iEnumA G.K (tEvA G W (evCons (evE C e) evNil)) σ H R' := by
  obtain ⟨φ, l, h, rh, rl, p⟩ := t
  unfold evI at p
  refine ⟨φ, l, h, rh, rl, ?_⟩
  unfold evCons evNil
  cases z : evE C e l h with
  | ok d h1 =>
    rw [z] at p
    simp only [R.bind_ok] at p ⊢
    intro φ' H' vs x rh' rv
    obtain ⟨v, rfl, r⟩ := repVs_one rv
    unfold enmP fzS srcR at p
    cases r with
    | tup s q => exact ⟨_, _, rfl, .inr ⟨s, p φ' H' _ x rh' (it_enmT rh' s q)⟩⟩
    | fl s q => exact ⟨_, _, rfl, .inl ⟨s.sq, p φ' H' _ x rh' (it_enmL rh' s q)⟩⟩
    | _ => exact p.elim
  | exc c fs h' => rw [z] at p; exact p
  | stuck => rw [z] at p; exact p
theorem iZip_ev {C : Orc} {a b : Ex} (σ : L2.St) (H : Hp) (R' : It → Hp → Prop) (t : iEv G W (evI C (.zp a b)) σ H R') : iZipA G.K (tEvA G W (evCons (evE C a) (evCons (evE C b) evNil))) σ H R' := by
  obtain ⟨φ, l, h, rh, rl, p⟩ := t
  unfold evI at p
  refine ⟨φ, l, h, rh, rl, ?_⟩
  unfold evCons evNil
  cases z : evE C a l h with
  | ok d h1 =>
    rw [z] at p
    simp only [R.bind_ok] at p ⊢
    cases z2 : evE C b l h1 with
    | ok e h2 =>
      rw [z2] at p
      simp only [R.bind_ok] at p ⊢
      intro φ' H' vs x rh' rv
      obtain ⟨v, w, rfl, r, r'⟩ := repVs_two rv
      unfold zipP fzS srcR at p
      cases r with
      | tup s q =>
        cases r' with
        | tup s' q' => exact ⟨_, _, _, _, rfl, .inr ⟨s, s', p φ' H' _ x rh' (it_zipT rh' s q s' q')⟩⟩
        | _ => exact p.elim
      | fl s q =>
        cases r' with
        | fl s' q' => exact ⟨_, _, _, _, rfl, .inl ⟨s.sq, s'.sq, p φ' H' _ x rh' (it_zipL rh' s q s' q')⟩⟩
        | _ => exact p.elim
      | _ => exact p.elim
    | exc c fs h' => rw [z2] at p; exact p
    | stuck => rw [z2] at p; exact p
  | exc c fs h' => rw [z] at p; exact p
  | stuck => rw [z] at p; exact p
end
end Zed
end
section
set_option Elab.async false
set_option linter.all false
set_option maxRecDepth 100000
set_option maxHeartbeats 1000000
namespace Zed
open PySem L2
/-! ### lambdas: tables of code objects turn, all else stays -/
def heapOf (c : Addr) (o : Obj) : Heap := { objs := Array.replicate (c + 1) o }
theorem heapOf_get {c : Addr} {o : Obj} (h : o.data ≠ .freed) : (heapOf c o).get? c = some o := by
  have e : (heapOf c o).objs[c]? = some o := by simp [heapOf]
  unfold Heap.get?
  rw [e]
  split
  · rename_i q; cases q; exact absurd rfl h
  · rfl
def codeOb (q : Str) : Obj := ⟨.none, none, .fields #[.none, .str q default], #[]⟩
theorem codeO_at (c : Addr) (q : Str) : ∃ (oc : Obj) (vs : Array Value) (t : Tok), (heapOf c (codeOb q)).get? c = some oc ∧ oc.data = .fields vs ∧ vs[1]? = some (.str q t) :=
  ⟨codeOb q, _, default, heapOf_get (fun z => nomatch z), rfl, rfl⟩
theorem ext_inj {f g : Heap → Prop} (h : HO.ext f = HO.ext g) : f = g := by cases h; rfl
section
variable {G : Gc} {φ : List Addr} {h : PHeap} {H H' : Hp} {c : Addr} {q : Str} {o : PObj}
theorem code_not (r : RepO G φ H c o) (e : H c = some (LamX.CodeO c q)) : False := by
  have no : ∀ {f : Heap → Prop}, H c = some (.ext f) → (f (heapOf c (codeOb q)) → False) → False := fun {f} e1 n => by
    rw [e] at e1
    have z := ext_inj (Option.some.inj e1)
    apply n
    rw [← z]
    exact codeO_at c q
  have gt : (heapOf c (codeOb q)).get? c = some (codeOb q) := heapOf_get (fun z => nomatch z)
  cases o with
  | lst ds => obtain ⟨vs, e1, _⟩ := r; rw [e] at e1; cases e1
  | dic kvs =>
    obtain ⟨_, ⟨ks, e1, _⟩ | ⟨xs, _, e1, _⟩⟩ := r
    · rw [e] at e1; cases e1
    · refine no e1 fun ⟨ob, es, ep, z1, _, z3, _⟩ => ?_
      rw [gt] at z1; cases z1; cases z3
  | set ds =>
    obtain ⟨xs, ks, _, e1, _⟩ := r
    refine no e1 fun z => ?_
    have ⟨ob, es, ep, x, z1, z2⟩ := z
    rw [gt] at z1; cases z1; simp_all [codeOb]
  | ins cc fs =>
    obtain ⟨_, C, dx, _, ⟨_, ws, e1, _⟩ | ⟨_, vs, hs, _⟩⟩ := r
    · rw [e] at e1; cases e1
    · rcases hs with ⟨e1, _⟩ | ⟨e1, _⟩
      · rw [e] at e1; cases e1
      · refine no e1 fun ⟨sl, z1, _⟩ => ?_
        rw [gt] at z1; cases z1
theorem RelH.lam (r : RelH G φ h H) (x : LamX.ExtN H H') (t : LamX.Tabs G.T H') : RelH G φ h H' ∧ Ext φ H φ H' := by
  have st : Stay H H' := fun a o e _ nt => x a o e nt
  have ob : ∀ (i : Nat) (o : PObj) (a : Addr), h[i]? = some o → φ[i]? = some a → RepO G φ H' a o := fun i o a h1 h2 => by
    have ro := r.obj i o a h1 h2
    obtain ⟨u, eu, _, _, _, _, nt⟩ := ro.some
    exact repO_stay st ((x a u eu nt).trans eu.symm) ro
  refine ⟨⟨fun p hp => ?_, r.len, r.nd, ob⟩, List.prefix_refl _, fun a ha na => absurd ha na, fun a o e n s => x a o e s.nt, fun a y e n => .inl (x a _ e fun _ z => nomatch z)⟩
  obtain ⟨ps, e1, e2, e3⟩ := t p hp
  refine ⟨ps, e1, e2, fun pos cv hc => ?_⟩
  obtain ⟨cc, e4, e5⟩ := e3 pos cv hc
  refine ⟨cc, e4, fun hm => ?_, e5⟩
  obtain ⟨i, hi, e6⟩ := List.mem_iff_getElem.mp hm
  have hi' : i < h.length := by rw [← r.len]; exact hi
  exact code_not (ob i h[i] cc (List.getElem?_eq_getElem hi') (by rw [List.getElem?_eq_getElem hi, e6])) e5
theorem RelH.tabs' (r : RelH G φ h H) : LamX.Tabs G.T H := fun p hp => by
  obtain ⟨ps, e1, e2, e3⟩ := r.tab p hp
  refine ⟨ps, e1, e2, fun pos cv hc => ?_⟩
  obtain ⟨cc, e4, _, e5⟩ := e3 pos cv hc
  exact ⟨cc, e4, e5⟩
end
end Zed
end
section
set_option Elab.async false
set_option linter.all false
set_option maxRecDepth 100000
set_option maxHeartbeats 1000000
namespace Zed
open PySem L2
section
variable {S : Sg} {G : Gc} {C : Orc} {k : Nat}
theorem bop_ok {X : Cx} (g : Glob S G C k X) {op : Bop} {o : Operator} (h : bopIs op o = true) : OpR X (binaryOp o) (r2 G (bopF op)) := by
  cases op <;> cases o <;> first | (cases h; done) | skip
  · exact op_addZ g.K
  · exact op_subZ
  · exact op_mulZ g.K
  · exact op_fdivZ
  · exact op_modZ
  · exact op_powZ
theorem cop_ok {X : Cx} (g : Glob S G C k X) {op : Cop} {o : CmpOp} (h : copIs op o = true) : OpR X (compareOp o) (r2 G (cmpF op)) := by
  have hu := g.room.units
  cases op <;> cases o <;> first | (cases h; done) | skip
  · exact op_ltZ
  · exact op_leZ
  · exact op_gtZ
  · exact op_geZ
  · exact op_eqZ g.K hu
  · exact op_neZ g.K hu
  · exact op_inZ g.K
  · exact op_notinZ g.K
  · exact op_isZ
  · exact op_isnotZ
theorem bi_boot (b : Bi) : (∃ id, bootBuiltins (biName b) = some (.builtin id) ∧ biV b = .builtin id) ∨ ∃ T, bootBuiltins (biName b) = some (.type T) ∧ biV b = .type T := by
  cases b
  all_goals first
    | exact .inl ⟨_, by decide +kernel, rfl⟩
    | exact .inr ⟨_, by decide +kernel, rfl⟩
theorem bi_nm (b : Bi) : biName b ≠ "__name__" ∧ (biName b == ("__debug__" : Str)) = false := by
  cases b <;> exact ⟨by decide +kernel, by decide +kernel⟩
theorem ty_boot : ∀ n, tyB.contains n = true → bootBuiltins (Str.ofString n) = some (.type n) ∧ Str.ofString n ≠ "__name__" ∧ (Str.ofString n == ("__debug__" : Str)) = false := by
  intro n h
  simp only [tyB, List.contains_cons, List.contains_nil, Bool.or_false, Bool.or_eq_true, beq_iff_eq] at h
  rcases h with rfl | rfl | rfl | rfl | rfl | rfl <;> exact ⟨by decide +kernel, by decide +kernel, by decide +kernel⟩
theorem okNm_dbg {x : Str} (h : okNm x = true) : (x == ("__debug__" : Str)) = false ∧ (x == ("__classdict__" : Str)) = false ∧ x ≠ "__name__" := by
  unfold okNm at h
  simp only [Bool.and_eq_true, Bool.not_eq_true'] at h
  exact ⟨h.1.1, h.1.2, fun e => by rw [e] at h; simp at h⟩
theorem noStars {N : List Str} {sc : Scope} : ∀ {es : Exs} {l : List Expr} {env : Env} {pos : Pos}, plainX es = true → chkA S N sc es l = true → (backTo pos (starEach l env)).any (·.1) = false ∧ (backTo pos (starEach l env)).all (fun x => !x.1) = true
  | .nil, [], _, _, _, _ => ⟨rfl, rfl⟩
  | .nil, _ :: _, _, _, _, c => by simp [chkA] at c
  | .cons _ _, [], _, _, _, c => by simp [chkA] at c
  | .star _ _, _, _, _, p, c => by simp [plainX] at p
  | .cons e es, x :: l, env, pos, p, c => by
    simp only [chkA, Bool.and_eq_true] at c
    obtain ⟨i1, i2⟩ := noStars (env := env) (pos := pos) (by simpa [plainX] using p) c.2
    rw [starEach_cons c.1.1]
    unfold backTo at *
    rw [List.map_cons, List.any_cons, List.all_cons, i1, i2]
    exact ⟨rfl, rfl⟩
theorem noSuper_base {o : Expr} {m : Str} {env : Env} (h : noSuper o = true) : attributeBase o m env (eval o env) = eval o env := by
  unfold attributeBase
  split
  · cases h
  · rfl
theorem foldedSet {e : Expr} {env : Env} (h : noSet e = true) : ∀ x, foldedSetIterable e env x = pure x := by
  intro x
  cases e <;> first | rfl | (cases h)
theorem mt_app {X : Cx} : MtR X "list.append" (fun x vs H Q => rP G appP (x :: vs) H Q) := by
  intro pins s σ H x xs v us Q I rx rxs ⟨φ, h, ds, z, h', rh, rv, e, q⟩
  unfold appP at e
  split at e
  · split at e
    · rename_i hx
      split at e
      · rename_i hz
        obtain ⟨rfl, rfl⟩ := some2 e
        obtain ⟨w1, w2, ew, r1, r2⟩ := repVs_two rv
        cases ew
        cases r1 with
        | ref hr =>
          obtain ⟨vs, e1, q1⟩ := rh.obj _ _ _ hx hr
          refine mt_append pins s σ H _ _ v us Q I rx rxs ⟨_, _, _, rfl, rfl, e1, by rw [← q1.length]; exact hz, ?_⟩
          have x := ext_put (H := H) (u := HO.lst (vs ++ [w2])) hr
          exact q φ _ _ x (rh.put hr ⟨_, upd_same, repVs_ext rh x (q1.append (.cons r2 .nil))⟩) .non
      · cases e
    · cases e
  · cases e
open PyProof.Rows in
/-- xs.extend(ys), ys read -/
theorem mt_ext {X : Cx} : MtR X "list.extend" (fun x vs H Q => rP G extP (x :: vs) H Q) := by
  intro pins s σ H x xs v us Q I rx rxs ⟨φ, h, ds, z, h', rh, rv, e, q⟩
  unfold extP at e
  split at e
  · split at e
    · rename_i hx hy
      split at e
      · rename_i hz
        obtain ⟨rfl, rfl⟩ := some2 e
        obtain ⟨w1, w2, ew, r1, r2⟩ := repVs_two rv
        cases ew
        cases r1 with
        | @ref _ la hr =>
          obtain ⟨b, ws, rfl, rdB, q2⟩ := rep_lstR rh r2 hy
          obtain ⟨vs, hA, q1⟩ := rh.obj _ _ _ hx hr
          have t1 := q1.length
          have t2 := q2.length
          cases rx
          cases rxs with
          | cons ry rt =>
            cases rt
            cases ry
            obtain ⟨is, n, v1, e1⟩ := rd_list I (Or.inl hA)
            obtain ⟨js, m, v2, e2⟩ := rd_list I rdB
            have z1 := v1.length
            have z2 := v2.length
            have fits : is.toArray.size + js.toArray.size ≤ sizeLine := by simp only [List.size_toArray]; omega
            have notLong : ¬ (!is.toArray.isEmpty && Builtin.List.listTooLong (is.toArray.size + js.toArray.size)) = true := fun z => by rw [Bool.and_eq_true, notLongL fits] at z; cases z.2
            have work := AutoSeq1.list_extend_list_list_0 la is.toArray n b js.toArray m notLong (by simp only [List.size_toArray] at *; omega) (by omega)
            refine call_meets F.slot_list_extend ⟨_, e1, rfl⟩ F.entry_list_extend (F.args_list_extend_2 _ _) work ⟨e1, e2, .non, _, I.lset (its' := is ++ js) hA e1 (by simp) (v1.append v2) (by simp; omega), rfl, ?_⟩
            have x := ext_put (H := H) (u := HO.lst (vs ++ ws)) hr
            exact q φ _ _ x (rh.put hr ⟨_, upd_same, repVs_ext rh x (q1.append q2)⟩) .non
      · cases e
    · cases e
  · cases e
theorem rcv_ty {φ : List Addr} {h : PHeap} {H : Hp} {d : PV} {v : V} {m : Mi} {K : PySem.W.Frag} (rh : RelH G φ h H) (rv : RepV G φ H d v) (e : rcvOk m d h = true) : tyV K "list" v H := by
  unfold rcvOk at e
  split at e
  · split at e
    · rename_i hx
      cases rv with
      | ref hr =>
        obtain ⟨vs, e1, _⟩ := rh.obj _ _ _ hx hr
        exact .inl ⟨rfl, _, SqL.of e1⟩
    · cases e
  · cases e
theorem tMeth_ev {W : WX} {K : PySem.W.Frag} {m : Mi} {o : Ex} {es : Exs} (σ : St) (H : Hp) (Q : VK) (t : tEv G W (evE C (.meth m o es)) σ H Q) :
    tBM K "list" (fun x vs H Q => rP G (methF m) (x :: vs) H Q) (tEv G W (evE C o)) (tEvA G W (evA C es)) σ H Q := by
  obtain ⟨φ, l, h, rh, rl, p⟩ := t
  unfold evE at p
  refine ⟨φ, l, h, rh, rl, Post.mono (Post.bind p) fun v H1 ⟨φ1, h1, d1, x1, rh1, rv1, p1⟩ => ?_⟩
  split at p1
  · rename_i hr
    refine ⟨rcv_ty rh1 rv1 hr, φ1, l, h1, rh1, repL_ext rh x1 rl, PostA.mono (PostA.bind (Post.ext x1 p1)) fun vs H2 ⟨φ2, h2, ds, x2, rh2, rv2, p2⟩ => ?_⟩
    obtain ⟨d3, h3, e3, q3⟩ := Post.lift (Post.ext x2 p2)
    exact ⟨φ2, h2, d1 :: ds, d3, h3, rh2, .cons (repV_ext rh1 x2 rv1) rv2, e3, q3⟩
  · exact p1.elim
/-- a test, from an expression's truth -/
theorem pt_of {X : Cx} {W : WX} {e : Expr} {f : Loc → PHeap → R PV} (hK : G.K = X.K) (h : PE X e (tEv G W f)) (h1 : ∀ x p, e ≠ .UnaryOp .Not x p) (h2 : ∀ o v p, e ≠ .BoolOp o v p) (h3 : ∀ a b c p, e ≠ .IfExp a b c p) (h4 : ∀ a b c p, e ≠ .Compare a b c p) :
    PT X e (tEvT G W fun l h => truthR (f l h)) := by
  refine pt_imp (pt_truth h (isTrue_pl h1 h2 h3 h4)) fun σ H Q q => ?_
  have z := tTru_ev (f := f) σ H Q q
  rw [hK] at z
  exact z
theorem truthR_bl {r : R Bool} : truthR (r.bind fun b h1 => .ok (.bl !b) h1) = r.bind fun b h1 => .ok (!b) h1 := by
  cases r <;> rfl
theorem truthR_and {a b : Ex} {l : Loc} {h : PHeap} : truthR (evE C (.and a b) l h) = (truthR (evE C a l h)).bind fun k h1 => match k with | true => truthR (evE C b l h1) | false => .ok false h1 := by
  conv => lhs; unfold evE
  cases evE C a l h with
  | ok x h1 =>
    unfold truthR
    simp only [R.bind_ok]
    cases z : truthF h1 x with
    | none => rfl
    | some b =>
      cases b
      · simp only [R.bind_ok, z]
      · rfl
  | exc => rfl
  | stuck => rfl
theorem truthR_or {a b : Ex} {l : Loc} {h : PHeap} : truthR (evE C (.or a b) l h) = (truthR (evE C a l h)).bind fun k h1 => match k with | true => .ok true h1 | false => truthR (evE C b l h1) := by
  conv => lhs; unfold evE
  cases evE C a l h with
  | ok x h1 =>
    unfold truthR
    simp only [R.bind_ok]
    cases z : truthF h1 x with
    | none => rfl
    | some b =>
      cases b
      · rfl
      · simp only [R.bind_ok, z]
  | exc => rfl
  | stuck => rfl
theorem ttNot_ev {W : WX} {a : Ex} (σ : St) (H : Hp) (Q : Bool → Hp → Prop) (t : tEvT G W (fun l h => truthR (evE C (.not a) l h)) σ H Q) : tNot (tEvT G W fun l h => truthR (evE C a l h)) σ H Q := by
  obtain ⟨φ, l, h, rh, rl, p⟩ := t
  have p : PostT G φ H (truthR (evE C (.not a) l h)) Q (fun c d H' => W c d σ H') := p
  unfold evE at p
  rw [truthR_bl] at p
  exact ⟨φ, l, h, rh, rl, PostT.mono (PostT.bindT p) fun b H1 ⟨φ1, h1, x1, rh1, p1⟩ => (PostT.ext x1 p1) φ1 H1 .refl rh1⟩
theorem ttAnd_ev {W : WX} {a b : Ex} (σ : St) (H : Hp) (Q : Bool → Hp → Prop) (t : tEvT G W (fun l h => truthR (evE C (.and a b) l h)) σ H Q) :
    tAnd (tEvT G W fun l h => truthR (evE C a l h)) (tEvT G W fun l h => truthR (evE C b l h)) σ H Q := by
  obtain ⟨φ, l, h, rh, rl, p⟩ := t
  have p : PostT G φ H (truthR (evE C (.and a b) l h)) Q (fun c d H' => W c d σ H') := p
  rw [truthR_and] at p
  refine ⟨φ, l, h, rh, rl, PostT.mono (PostT.bindT p) fun k H1 ⟨φ1, h1, x1, rh1, p1⟩ => ?_⟩
  cases k with
  | true => rw [if_pos rfl]; exact ⟨φ1, l, h1, rh1, repL_ext rh x1 rl, PostT.ext x1 p1⟩
  | false => rw [if_neg Bool.false_ne_true]; exact (PostT.ext x1 p1) φ1 H1 .refl rh1
theorem ttOr_ev {W : WX} {a b : Ex} (σ : St) (H : Hp) (Q : Bool → Hp → Prop) (t : tEvT G W (fun l h => truthR (evE C (.or a b) l h)) σ H Q) :
    tOr (tEvT G W fun l h => truthR (evE C a l h)) (tEvT G W fun l h => truthR (evE C b l h)) σ H Q := by
  obtain ⟨φ, l, h, rh, rl, p⟩ := t
  have p : PostT G φ H (truthR (evE C (.or a b) l h)) Q (fun c d H' => W c d σ H') := p
  rw [truthR_or] at p
  refine ⟨φ, l, h, rh, rl, PostT.mono (PostT.bindT p) fun k H1 ⟨φ1, h1, x1, rh1, p1⟩ => ?_⟩
  cases k with
  | true => rw [if_pos rfl]; exact (PostT.ext x1 p1) φ1 H1 .refl rh1
  | false => rw [if_neg Bool.false_ne_true]; exact ⟨φ1, l, h1, rh1, repL_ext rh x1 rl, PostT.ext x1 p1⟩
theorem chn_bl {op op' : Cop} {a b c : Ex} (l : Loc) (h : PHeap) (d : PV) (h' : PHeap) (e : evE C (.chn op op' a b c) l h = .ok d h') : ∃ b, d = .bl b := by
  unfold evE at e
  cases e1 : evE C a l h with
  | ok x h1 =>
    rw [e1] at e
    simp only [R.bind_ok] at e
    cases e2 : evE C b l h1 with
    | ok y h2 =>
      rw [e2] at e
      simp only [R.bind_ok] at e
      simp only [cmpF] at e
      cases z : cmpB op h2 x y with
      | none => rw [z] at e; cases e
      | some k =>
        rw [z] at e
        simp only [Option.map_some, liftP, R.bind_ok] at e
        cases k with
        | false => simp only [R.ok.injEq] at e; exact ⟨false, e.1.symm⟩
        | true =>
          simp only at e
          cases e3 : evE C c l h2 with
          | ok w h3 =>
            rw [e3] at e
            simp only [R.bind_ok] at e
            cases z2 : cmpB op' h3 y w with
            | none => rw [z2] at e; cases e
            | some k2 => rw [z2] at e; cases e; exact ⟨k2, rfl⟩
          | exc c fs h' => rw [e3] at e; cases e
          | stuck => rw [e3] at e; cases e
    | exc c fs h' => rw [e2] at e; cases e
    | stuck => rw [e2] at e; cases e
  | exc c fs h' => rw [e1] at e; cases e
  | stuck => rw [e1] at e; cases e
/-! ### instances -/
theorem lookup_setFl {fs : List (Nat × PV)} {f g : Nat} {v : PV} : (setFl fs f v).lookup g = if g = f then some v else fs.lookup g := by
  induction fs with
  | nil =>
    simp only [setFl, List.lookup_cons, List.lookup_nil]
    by_cases e : g = f
    · simp [e]
    · have : (g == f) = false := by simpa using e
      rw [this]; simp [e]
  | cons p r ih =>
    obtain ⟨k, w⟩ := p
    simp only [setFl]
    by_cases e : k = f
    · rw [if_pos e, List.lookup_cons, List.lookup_cons]
      by_cases e2 : g = f
      · subst e; subst e2; simp
      · have : (g == k) = false := by rw [e]; simpa using e2
        rw [this, if_neg e2]
    · rw [if_neg e, List.lookup_cons, List.lookup_cons]
      by_cases e3 : g = k
      · subst e3; simp [e]
      · have : (g == k) = false := by simpa using e3
        rw [this]; exact ih
theorem len_setFl {fs : List (Nat × PV)} {f : Nat} {v : PV} (h : fs.lookup f = none) : (setFl fs f v).length = fs.length + 1 := by
  induction fs with
  | nil => rfl
  | cons p r ih =>
    obtain ⟨k, w⟩ := p
    rw [List.lookup_cons] at h
    by_cases e : f = k
    · subst e; simp at h
    · have z : (f == k) = false := by simpa using e
      rw [z] at h
      simp only [setFl]
      rw [if_neg (Ne.symm e)]
      simp [ih h]
theorem len_setFl' {fs : List (Nat × PV)} {f : Nat} {v : PV} : fs.length ≤ (setFl fs f v).length := by
  induction fs with
  | nil => simp
  | cons p r ih =>
    obtain ⟨k, w⟩ := p
    simp only [setFl]
    split
    · simp
    · simp only [List.length_cons]; omega
theorem len_putF {f : Str} {v : V} : ∀ {fs : List (Str × V)}, (L2.putF f v fs).length ≤ fs.length + 1 ∧ ((fs.lookup f).isSome = true → (L2.putF f v fs).length = fs.length)
  | [] => ⟨by simp [L2.putF], fun h => by simp at h⟩
  | (k, w) :: r => by
    have ih := len_putF (f := f) (v := v) (fs := r)
    by_cases e : k = f
    · have z : L2.putF f v ((k, w) :: r) = (k, v) :: r := by
        show (if k = f then (k, v) :: r else (k, w) :: L2.putF f v r) = _
        rw [if_pos e]
      rw [z]; simp
    · have z : L2.putF f v ((k, w) :: r) = (k, w) :: L2.putF f v r := by
        show (if k = f then (k, v) :: r else (k, w) :: L2.putF f v r) = _
        rw [if_neg e]
      rw [z]
      refine ⟨by simp only [List.length_cons]; omega, fun h => ?_⟩
      have z2 : (f == k) = false := by simpa using fun q => e q.symm
      rw [List.lookup_cons, z2] at h
      simp only [List.length_cons]
      rw [ih.2 h]
/-- what an instance has: by a reading -/
theorem rep_ins {φ : List Addr} {h : PHeap} {H : Hp} {x : PV} {v : V} {c : Nat} {fs : List (Nat × PV)} (rh : RelH G φ h H) (rv : RepV G φ H x v) (e : objOf h x = some (.ins c fs)) : ∃ a D dx, v = .ref a ∧ G.mg (G.nm c) = some (.ref D) ∧
    ((G.isSl c = false ∧ ∃ ws, H a = some (.ins D dx ws) ∧ ∀ f d, fs.lookup f = some d → G.fld c f = true ∧ ∃ w, ws.lookup (G.nm f) = some w ∧ RepV G φ H d w) ∨
     (G.isSl c = true ∧ ∃ vs, SlX.Slt H a D dx vs ∧ ∀ f d, fs.lookup f = some d → ∃ i w, G.slot c f = some i ∧ vs[i]? = some (some w) ∧ RepV G φ H d w)) := by
  cases rv with
  | fiP vs u n m s e1 l k q w =>
    simp only [objOf] at e
    cases e
    exact ⟨_, _, _, rfl, m, .inl ⟨s, _, e1, fun f d hf => ⟨(k f d hf).1, _, (k f d hf).2, q f d hf⟩⟩⟩
  | fiS vs u n m s e1 l k q =>
    simp only [objOf] at e
    cases e
    exact ⟨_, _, _, rfl, m, .inr ⟨s, _, e1, fun f d hf => let ⟨i, k1, k2⟩ := k f d hf; ⟨i, _, k1, k2, q f d hf⟩⟩⟩
  | ref hi =>
    obtain ⟨_, D, dx, hD, ⟨z, ws, a0, al, qf, q2⟩ | ⟨z, vs, hs, _, qf⟩⟩ := rh.obj _ _ _ e hi
    · exact ⟨_, D, dx, rfl, hD, .inl ⟨z, ws, a0, qf⟩⟩
    · exact ⟨_, D, dx, rfl, hD, .inr ⟨z, vs, hs, qf⟩⟩
  | _ => simp only [objOf] at e; cases e
/-- reading an attribute -/
theorem attr_post {φ : List Addr} {H : Hp} {W : WX} {f : Loc → PHeap → R PV} {l : Loc} {h : PHeap} {ct : Ct} {n : Nat} {Q : VK} {E : XK} (p : Post G φ H (ev1 f (attrF ct n) l h) Q E) :
    Post G φ H (f l h) (fun v H1 => ∃ φ1 h1 x c fs d, Ext φ H φ1 H1 ∧ RelH G φ1 h1 H1 ∧ RepV G φ1 H1 x v ∧ f l h = .ok x h1 ∧ objOf h1 x = some (.ins c fs) ∧ ownF ct c n = true ∧ fs.lookup n = some d ∧ ∀ w, RepV G φ1 H1 d w → Q w H1) E := by
  unfold ev1 at p
  cases e : f l h with
  | ok x h1 =>
    rw [e] at p
    simp only [R.bind_ok] at p
    obtain ⟨d, h2, e2, q⟩ := Post.lift p
    intro φ1 H1 v x1 rh1 rv
    simp only [attrF] at e2
    split at e2
    · rename_i c fs hx
      split at e2
      · rename_i ow
        obtain ⟨d', e3, e4⟩ := omap e2
        cases e4
        exact ⟨φ1, _, x, c, fs, d, x1, rh1, rv, rfl, hx, ow, e3, fun w rw => q φ1 H1 w x1 rh1 rw⟩
      · cases e2
    · cases e2
  | exc c fs h' => rw [e] at p; exact p
  | stuck => rw [e] at p; exact p
theorem pe_attrZ {X : Cx} {W : WX} {e : Expr} {n : Nat} {f : Loc → PHeap → R PV} {pos : Pos} (g : Glob S G C k X) (he : PE X e (tEv G W f)) (hb : attributeBase e (S.nm n) X.env (eval e X.env) = eval e X.env) :
    PE X (.Attribute e (S.nm n) pos) (tEv G W (ev1 f (attrF C.ct n))) := by
  refine ⟨fun pins s σ H Q I q => ?_⟩
  obtain ⟨φ, l, h, rh, rl, p⟩ := q
  have p2 := attr_post (W := W) p
  cases ev : f l h with
  | stuck => rw [ev] at p2; exact p2.elim
  | exc c fs h' =>
    rw [ev] at p2
    refine (pe_fld he hb).run pins s σ H Q I ⟨φ, l, h, rh, rl, ?_⟩
    rw [ev]; exact p2
  | ok x h1 =>
    by_cases sl : ∃ c fs, objOf h1 x = some (.ins c fs) ∧ C.ct.isSl c = true
    · obtain ⟨c, fs, hx, sl⟩ := sl
      refine (SlX.pe_sl he hb).run pins s σ H Q I ⟨φ, l, h, rh, rl, ?_⟩
      refine Post.mono p2 fun v H1 ⟨φ1, h2, x2, c2, fs2, d, x1, rh1, rv, e1, e2, ow, e3, q⟩ => ?_
      rw [ev] at e1
      cases e1
      rw [hx] at e2
      cases e2
      obtain ⟨a, D, dx, rfl, hD, ⟨z, _⟩ | ⟨z, vs, hs, qf⟩⟩ := rep_ins rh1 rv hx
      · rw [g.sl, sl] at z; cases z
      · obtain ⟨j, w, a1, a2, a3⟩ := qf n d e3
        rw [g.slo] at a1
        rw [g.mg, g.nm] at hD
        obtain ⟨pp, s1⟩ := g.sls c n j D a1 hD
        exact ⟨_, D, dx, pp, vs, j, w, rfl, hs, g.scl c D sl hD, s1, a2, q w a3⟩
    · refine (pe_fld he hb).run pins s σ H Q I ⟨φ, l, h, rh, rl, ?_⟩
      refine Post.mono p2 fun v H1 ⟨φ1, h2, x2, c2, fs2, d, x1, rh1, rv, e1, e2, ow, e3, q⟩ => ?_
      rw [ev] at e1
      cases e1
      have nsl : C.ct.isSl c2 = false := by
        cases zz : C.ct.isSl c2 with
        | false => rfl
        | true => exact absurd ⟨c2, fs2, e2, zz⟩ sl
      obtain ⟨a, D, dx, rfl, hD, ⟨z, ws, a0, qf⟩ | ⟨z, _⟩⟩ := rep_ins rh1 rv e2
      · obtain ⟨b0, w, b1, b2⟩ := qf n d e3
        rw [g.mg, g.nm] at hD
        rw [g.fdl] at b0
        obtain ⟨c1, c3⟩ := g.pcl c2 n D nsl b0 hD
        rw [g.nm] at b1
        exact ⟨_, D, dx, ws, w, rfl, a0, c1, c3, b1, q w b2⟩
      · rw [g.sl, nsl] at z; cases z
end
end Zed
end
section
set_option Elab.async false
set_option linter.all false
set_option maxRecDepth 100000
set_option maxHeartbeats 1000000
/-! ZedN: pop, [::-1], own methods, isinstance of own classes. -/
namespace Zed
open PySem L2
section
variable {G : Gc} {S : Sg} {C : Orc} {k : Nat}
theorem mt_popZ {X : Cx} : MtR X "list.pop" (fun x vs H Q => vs = [] ∧ rP G popP [x] H Q) := by
  intro pins s σ H x xs v us Q I rx rxs ⟨e0, φ, h, ds, z, h', rh, rv, e, q⟩
  subst e0
  unfold popP at e
  split at e
  · split at e
    · rename_i ys hx
      split at e
      · rename_i y hy
        obtain ⟨rfl, rfl⟩ := some2 e
        obtain ⟨w, ew, r1⟩ := repVs_one rv
        cases ew
        cases r1 with
        | ref hr =>
          obtain ⟨vs, e1, q1⟩ := rh.obj _ _ _ hx hr
          have l1 := q1.length
          obtain ⟨u, hu, ru⟩ := q1.get hy
          have x := ext_put (H := H) (u := HO.lst vs.dropLast) hr
          refine mt_pop pins s σ H _ _ v us Q I rx rxs ⟨_, _, u, rfl, rfl, e1, by rw [← l1]; exact hu, ?_⟩
          refine q φ _ _ x (rh.put hr ⟨_, upd_same, repVs_ext rh x ?_⟩) (repV_ext rh x ru)
          rw [List.dropLast_eq_take, List.dropLast_eq_take, l1]
          exact q1.take _
      · cases e
    · cases e
  · cases e
theorem RepVs.erase {φ : List Addr} {H : Hp} : ∀ {ds : List PV} {vs : List V} (n : Nat), RepVs G φ H ds vs → RepVs G φ H (ds.eraseIdx n) (vs.eraseIdx n)
  | _, _, _, .nil => .nil
  | _, _, 0, .cons _ q => q
  | _, _, n + 1, .cons r q => .cons r (RepVs.erase n q)
theorem RepVs.rev {φ : List Addr} {H : Hp} : ∀ {ds : List PV} {vs : List V}, RepVs G φ H ds vs → RepVs G φ H ds.reverse vs.reverse
  | _, _, .nil => .nil
  | _, _, .cons r q => by
    rw [List.reverse_cons, List.reverse_cons]
    exact (RepVs.rev q).append (.cons r .nil)
theorem mt_popiZ {X : Cx} : MtR X "list.pop" (fun x vs H Q => rP G popiP (x :: vs) H Q) := by
  intro pins s σ H x xs v us Q I rx rxs ⟨φ, h, ds, z, h', rh, rv, e, q⟩
  unfold popiP at e
  split at e
  · split at e
    · rename_i i j _ ys hx
      split at e
      · rename_i hj
        split at e
        · rename_i y hy
          obtain ⟨rfl, rfl⟩ := some2 e
          obtain ⟨w1, w2, ew, r1, r2⟩ := repVs_two rv
          cases ew
          cases r2
          cases r1 with
          | ref hr =>
            obtain ⟨vs, e1, q1⟩ := rh.obj _ _ _ hx hr
            have l1 := q1.length
            obtain ⟨u, hu, ru⟩ := q1.get hy
            have x := ext_put (H := H) (u := HO.lst (vs.eraseIdx j.toNat)) hr
            have hlt : j.toNat < vs.length := (List.getElem?_eq_some_iff.mp hu).1
            have hs : seqIndex? j vs.length = some j.toNat := by
              unfold seqIndex?
              have e0 : (if j < 0 then j + (vs.length : Int) else j) = j := if_neg (by omega)
              simp only [e0]
              exact if_pos (by simp only [Bool.and_eq_true, decide_eq_true_eq]; omega)
            refine mt_popAt pins s σ H _ _ v us Q I rx rxs ⟨_, _, _, _, u, rfl, rfl, e1, by omega, by omega, hs, hu, ?_⟩
            exact q φ _ _ x (rh.put hr ⟨_, upd_same, repVs_ext rh x (q1.erase _)⟩) (repV_ext rh x ru)
        · cases e
      · cases e
    · cases e
  · cases e
theorem tPop_ev {W : WX} {K : PySem.W.Frag} {o : Ex} (σ : St) (H : Hp) (Q : VK) (t : tEv G W (evE C (.pop o)) σ H Q) :
    tBM0 K "list" (fun x vs H Q => vs = [] ∧ rP G popP [x] H Q) (tEv G W (evE C o)) σ H Q := by
  obtain ⟨φ, l, h, rh, rl, p⟩ := t
  unfold evE ev1 at p
  refine ⟨φ, l, h, rh, rl, Post.mono (Post.bind p) fun v H1 ⟨φ1, h1, d1, x1, rh1, rv1, p1⟩ => ?_⟩
  obtain ⟨d3, h3, e3, q3⟩ := Post.lift (Post.ext x1 p1)
  refine ⟨?_, rfl, φ1, h1, [d1], d3, h3, rh1, .cons rv1 .nil, e3, q3⟩
  unfold popP at e3
  split at e3
  · rename_i i he
    cases he
    split at e3
    · rename_i hx
      cases rv1 with
      | ref hr =>
        obtain ⟨vs, e1, _⟩ := rh1.obj _ _ _ hx hr
        exact .inl ⟨rfl, _, SqL.of e1⟩
    · cases e3
  · cases e3
theorem tRev_ev {W : WX} {z : Bool} {o : Ex} (σ : St) (H : Hp) (Q : VK) (t : tEv G W (evE C (.rev z o)) σ H Q) : tRevL G.K (tEv G W (evE C o)) σ H (zQ z Q) := by
  obtain ⟨φ, l, h, rh, rl, p⟩ := t
  unfold evE ev1 at p
  refine ⟨φ, l, h, rh, rl, Post.mono (Post.bind p) fun v H1 ⟨φ1, h1, d1, x1, rh1, rv1, p1⟩ => ?_⟩
  unfold revP at p1
  simp only at p1
  cases e : lstOf h1 d1 with
  | none => rw [e] at p1; exact p1.elim
  | some xs =>
    rw [e] at p1
    obtain ⟨a, vs, rfl, sq, rv⟩ := rep_lst rh1 rv1 e
    refine ⟨a, vs, rfl, sq, ?_⟩
    cases z with
    | false => exact new_lst rh1 rv.rev (Post.ext x1 p1)
    | true => exact lk_fl rh1 rv.rev (Post.ext x1 p1)
/-! ### isinstance of own classes -/
theorem tyName_in {h : PHeap} {v : PV} {t : String} (e : tyName h v = some t) : t ∈ ["NoneType", "bool", "int", "str", "tuple", "list", "dict"] := by
  unfold tyName at e
  split at e <;> first | (cases e; decide) | skip
  split at e
  · cases e; decide
  · split at e
    · cases e; decide
    · cases e
  · cases e
theorem call_isiZ {X : Cx} (g : Glob S G C k X) : CallR X (.builtin "isinstance") (rP G (isiP C.ct)) := by
  refine callr_of fun pins s σ H xs us Q φ h ds z h' I rx rh rv e q => ?_
  unfold isiP at e
  split at e
  · rename_i v c
    obtain ⟨w1, w2, ew, r1, r2⟩ := repVs_two rv
    subst ew
    have hc2 : ∃ E, w2 = V.ref E ∧ G.mg (G.nm c) = some (.ref E) := by cases r2 with | gl m => exact ⟨_, rfl, m⟩
    obtain ⟨E, rfl, mE⟩ := hc2
    rw [g.mg, g.nm] at mE
    split at e
    · rename_i d fs ho
      obtain ⟨b, e1, e2⟩ := omap e
      obtain ⟨rfl, rfl⟩ := Prod.mk.inj e2
      obtain ⟨D, E', m1, m2, si, cl, kk⟩ := g.sub d c b e1
      rw [mE] at m2; cases m2
      obtain ⟨a, D', dx, rfl, mD, w⟩ := rep_ins rh r1 ho
      rw [g.mg, g.nm, m1] at mD; cases mD
      have qq : Q (.bl b) H := q φ H _ .refl rh (.bl b)
      rcases w with ⟨sl, ws, ha, _⟩ | ⟨sl, vs, hs, _⟩
      · rw [g.sl] at sl
        exact call_isi pins s σ H _ us Q I rx ⟨_, _, _, _, b, rfl, .own E, .base (.ins ha (cl sl) si.ca si.cn si.ct si.cm), kk, qq⟩
      · rw [g.sl] at sl
        refine SlX.call_isiSl (.ref E) pins s σ H _ us Q I rx ⟨a, D, dx, vs, _, b, rfl, rfl, fun w hw => hw, hs, g.scl d D sl m1, si, kk, qq⟩
    · split at e
      · rename_i t ht
        split at e
        · rename_i hs
          obtain ⟨rfl, rfl⟩ := some2 e
          obtain ⟨E', m2, kk⟩ := g.isb c t hs (tyName_in ht)
          rw [mE] at m2; cases m2
          have ty := ty_Z rh r1 ht
          rw [g.K] at ty
          exact call_isi pins s σ H _ us Q I rx ⟨_, _, _, _, false, rfl, .own E, ty, kk, q φ H _ .refl rh (.bl false)⟩
        · cases e
      · cases e
  · cases e
theorem tIsi_ev {W : WX} {es : Exs} (σ : St) (H : Hp) (Q : VK) (t : tEv G W (evE C (.isi es)) σ H Q) : tCB (rP G (isiP C.ct)) (tEvA G W (evA C es)) σ H Q := by
  have e : evE C (.isi es) = fun l h => (evA C es l h).bind fun ds h1 => liftP (isiP C.ct ds h1) := by funext l h; simp only [evE]
  rw [e] at t
  exact tCB_ev (fa := evA C es) (F := isiP C.ct) σ H Q t
/-! ### own methods -/
theorem rep_insM {φ : List Addr} {h : PHeap} {H : Hp} {x : PV} {v : V} {c : Nat} {fs : List (Nat × PV)} (rh : RelH G φ h H) (rv : RepV G φ H x v) (e : objOf h x = some (.ins c fs)) (sl : G.isSl c = false) :
    ∃ a D dx ws, v = .ref a ∧ G.mg (G.nm c) = some (.ref D) ∧ H a = some (.ins D dx ws) ∧ ∀ x v, ws.lookup x = some v → ∃ f, G.nm f = x ∧ G.fld c f = true := by
  cases rv with
  | fiP vs u n m s e1 l k q w =>
    simp only [objOf] at e
    cases e
    refine ⟨_, _, _, _, rfl, m, e1, fun x v hx => ?_⟩
    obtain ⟨f, hf, hs⟩ := w x v hx
    obtain ⟨d, hd⟩ := Option.isSome_iff_exists.mp hs
    exact ⟨f, hf, (k f d hd).1⟩
  | fiS vs u n m s e1 l k q =>
    simp only [objOf] at e
    cases e
    rw [s] at sl; cases sl
  | ref hi =>
    obtain ⟨_, D, dx, hD, ⟨z, ws, a0, al, qf, q2⟩ | ⟨z, vs, hs, _, qf⟩⟩ := rh.obj _ _ _ e hi
    · refine ⟨_, D, dx, ws, rfl, hD, a0, fun x v hx => ?_⟩
      obtain ⟨f, hf, hs⟩ := q2 x v hx
      obtain ⟨d, hd⟩ := Option.isSome_iff_exists.mp hs
      exact ⟨f, hf, (qf f d hd).1⟩
    · rw [z] at sl; cases sl
  | _ => simp only [objOf] at e; cases e
/-- a method, its class told by the receiver -/
def tMthZ (X : Cx) (m : Str) (sp : Nat → Sp) (n : Nat) (E : L2.St → XK) (ta : TE) (t : TA) : TE := fun σ H Q => ta σ H fun x H1 => ∃ (a D dx : Addr) (fs : List (Str × V)) (f : Nat) (g : Addr) (ps : List Str) (fd : FuncData), x = .ref a ∧ H1 a = some (.ins D dx fs) ∧ fs.lookup m = none ∧
  Cls X.K D ∧ Meth X.K D m g ∧ Binds X.K fd ps [] ∧ FnOkZ false X.prog X.w X.K X.mg X.base (L2.CX X.prog X.w) n g fd ps (sp f) ∧ t σ H1 fun vs H2 => sp f (x :: vs) H2 Q (E σ)
theorem mth_core {X : Cx} {W : WX} {m : Nat} {o : Ex} {φ : List Addr} {h : PHeap} {H : Hp} {x : PV} {v : V} {f : Nat} (g : Glob S G C k X) (rh : RelH G φ h H) (rv : RepV G φ H x v) (e : mthF C.ct h x m = some f) :
    ∃ (a D dx : Addr) (fs : List (Str × V)) (ga : Addr) (ps : List Str) (fd : FuncData), v = .ref a ∧ H a = some (.ins D dx fs) ∧ fs.lookup (S.nm m) = none ∧
  Cls X.K D ∧ Meth X.K D (S.nm m) ga ∧ Binds X.K fd ps [] ∧ FnOkZ false X.prog X.w X.K X.mg X.base (L2.CX X.prog X.w) k ga fd ps (spF G (C.call f)) := by
  unfold mthF at e
  split at e
  · rename_i c fs ho
    split at e
    · rename_i sl
      obtain ⟨ps, fd, D, a, fdt, m0, m1, m2, m3, m4, m5, m6⟩ := g.mts c m f e
      obtain ⟨a', D', dx, ws, rfl, mD, ha, w⟩ := rep_insM rh rv ho (by rw [g.sl]; exact sl)
      rw [g.mg, g.nm, m1] at mD; cases mD
      refine ⟨a', D, dx, ws, a, ps, fdt, rfl, ha, ?_, m2, m3, m5, m6⟩
      cases hl : ws.lookup (S.nm m) with
      | none => rfl
      | some u =>
        obtain ⟨f', e1, e2⟩ := w _ _ hl
        rw [g.nm] at e1
        rw [g.fdl] at e2
        exact absurd e1 (m4 f' e2)
    · cases e
  · cases e
open PySem.Spec PyProof.Rows in
theorem callM {M : Model} {A : Around} {E Q : Value → Shared → Prop} {s : Shared} {env : Env} {o : Expr} {name : Str} {apos pos : Pos} {args : List Expr}
    (hbase : attributeBase o name env (eval o env) = eval o env)
    (hfew : ((backTo pos (starEach args env)).all (fun x => !x.1) && (backToKw pos (keywordEach [] env)).all (fun x => x.1.isSome)
      && decide (args.length + ([] : List Keyword).length + (if ([] : List Keyword).isEmpty then 0 else 1) < 30)) = true)
    (hline : (apos.endLine == pos.line) = true)
    (h : wpAny M A (eval o env) (fun ov s1 => ∀ pl, wpAny M A (getMethod ov name pl) (fun fx s2 => wpAny M A (callWith pos fx.1 fx.2 (backTo pos (starEach args env)) (backToKw pos (keywordEach [] env))) Q E s2) E s1) E s) :
    wpAny M A (eval (.Call (.Attribute o name apos) args [] pos) env) Q E s := by
  rw [arm_eval_Call, hbase]
  refine wpAny_bind (wpAny_mono h (fun ov s1 h1 => ?_) fun _ _ e => e)
  refine wpAny_bind (wpAny_standAt ?_)
  have hform : methodCallForm (args.length + ([] : List Keyword).length) (backTo pos (starEach args env)) (backToKw pos (keywordEach [] env)) = true := hfew
  have hpos : methodCallPos true o env apos pos = pure pos := by unfold methodCallPos; simp [hline]
  unfold methodCall
  rw [hform]
  refine wpAny_bind (wpAny_holding ?_)
  unfold calleeOf
  rw [if_pos rfl]
  exact wpAny_mono (h1 _) (fun fx s2 h2 => wpAny_bind (wpAny_of_eq hpos h2)) fun _ _ e => e
open PySem.Spec PyProof.Rows in
theorem pe_mthZ {X : Cx} {m : Str} {sp : Nat → Sp} {n : Nat} {E : L2.St → XK} {o e : Expr} {es : List Expr} {apos pos : Pos} {ta : TE} {t : TA} (he : PE X o ta) (hr : Room n X.A) (hx : ∀ σ, PassesAt (L2.CX X.prog X.w) X σ (E σ)) (ha : PA X (e :: es) t)
    (hbase : attributeBase o m X.env (eval o X.env) = eval o X.env)
    (hfew : ((backTo pos (starEach (e :: es) X.env)).all (fun x => !x.1) && (backToKw pos (keywordEach [] X.env)).all (fun x => x.1.isSome)
      && decide ((e :: es).length + ([] : List Keyword).length + (if ([] : List Keyword).isEmpty then 0 else 1) < 30)) = true)
    (hline : (apos.endLine == pos.line) = true) (hst : starEach (e :: es) X.env = (false, eval e X.env) :: starEach es X.env) (hpl : (backTo pos (starEach es X.env)).any (·.1) = false) :
    PE X (.Call (.Attribute o m apos) (e :: es) [] pos) (tMthZ X m sp n E ta t) := by
  refine ⟨fun pins s σ H Q I h => ?_⟩
  refine callM hbase hfew hline (thn (he.run pins s σ H _ I h) fun u s1 ⟨x, H1, I1, rx, a, D, dx, fs, f, g, ps, fd, ex, ea, l, c, hm, hb, F, q⟩ => fun pl => ?_)
  subst ex
  obtain rfl : u = Value.ref a := rx
  refine getmeth_ok I1 ea c hm l ?_
  refine PySem.W.callWith_K (first := [.ref a]) (h₀ := X.base) I.ok.mod.kin hm.kp (thn (ha.run pos pins s1 σ H1 _ I1 q) fun us s2 ⟨vs, H2, I2, r, q2⟩ => ⟨I2.kIn, ?_⟩) hst hpl
  exact run_fnSD (us := .ref a :: us) (vs := .ref a :: vs) (dvs := []) (F.fnOk rfl) hr hb .nil (hx σ) I2 (.cons rfl r) (by rw [List.append_nil]; exact q2)
open PySem.Spec PyProof.Rows in
theorem pe_mth0Z {X : Cx} {m : Str} {sp : Nat → Sp} {n : Nat} {E : L2.St → XK} {o : Expr} {apos pos : Pos} {ta : TE} (he : PE X o ta) (hr : Room n X.A) (hx : ∀ σ, PassesAt (L2.CX X.prog X.w) X σ (E σ))
    (hbase : attributeBase o m X.env (eval o X.env) = eval o X.env) (hline : (apos.endLine == pos.line) = true) :
    PE X (.Call (.Attribute o m apos) [] [] pos) (tMthZ X m sp n E ta tNil) := by
  refine ⟨fun pins s σ H Q I h => ?_⟩
  refine callM hbase rfl hline (thn (he.run pins s σ H _ I h) fun u s1 ⟨x, H1, I1, rx, a, D, dx, fs, f, g, ps, fd, ex, ea, l, c, hm, hb, F, q⟩ => fun pl => ?_)
  subst ex
  obtain rfl : u = Value.ref a := rx
  refine getmeth_ok I1 ea c hm l ?_
  refine PySem.W.callWith_K0 (first := [.ref a]) I1.kIn hm.kp ?_
  exact run_fnSD (us := [.ref a]) (vs := [.ref a]) (dvs := []) (F.fnOk rfl) hr hb .nil (hx σ) I1 (.cons rfl .nil) (by rw [List.append_nil]; exact q)
theorem tMcl_ev {X : Cx} {W : WX} {m : Nat} {o : Ex} {es : Exs} (g : Glob S G C k X) (σ : L2.St) (H : Hp) (Q : VK) (t : tEv G W (evE C (.mcl m o es)) σ H Q) :
    tMthZ X (S.nm m) (fun f => spF G (C.call f)) k (WE W) (tEv G W (evE C o)) (tEvA G W (evA C es)) σ H Q := by
  obtain ⟨φ, l, h, rh, rl, p⟩ := t
  unfold evE at p
  refine ⟨φ, l, h, rh, rl, Post.mono (Post.bind p) fun v H1 ⟨φ1, h1, d1, x1, rh1, rv1, p1⟩ => ?_⟩
  split at p1
  · rename_i f hf
    obtain ⟨a, D, dx, fs, ga, ps, fd, rfl, e1, e2, e3, e4, e5, e6⟩ := mth_core (W := W) (o := o) g rh1 rv1 hf
    refine ⟨a, D, dx, fs, f, ga, ps, fd, rfl, e1, e2, e3, e4, e5, e6, φ1, l, h1, rh1, repL_ext rh x1 rl, PostA.mono (PostA.bind (Post.ext x1 p1)) fun vs H2 ⟨φ2, h2, ds, x2, rh2, rv2, p2⟩ => ?_⟩
    exact ⟨φ2, h2, d1 :: ds, rh2, .cons (repV_ext rh1 x2 rv1) rv2, Post.ext x2 p2⟩
  · exact p1.elim
theorem tMc0_ev {X : Cx} {W : WX} {m : Nat} {o : Ex} (g : Glob S G C k X) (σ : L2.St) (H : Hp) (Q : VK) (t : tEv G W (evE C (.mc0 m o)) σ H Q) :
    tMthZ X (S.nm m) (fun f => spF G (C.call f)) k (WE W) (tEv G W (evE C o)) tNil σ H Q := by
  obtain ⟨φ, l, h, rh, rl, p⟩ := t
  unfold evE at p
  refine ⟨φ, l, h, rh, rl, Post.mono (Post.bind p) fun v H1 ⟨φ1, h1, d1, x1, rh1, rv1, p1⟩ => ?_⟩
  split at p1
  · rename_i f hf
    obtain ⟨a, D, dx, fs, ga, ps, fd, rfl, e1, e2, e3, e4, e5, e6⟩ := mth_core (W := W) (o := o) g rh1 rv1 hf
    refine ⟨a, D, dx, fs, f, ga, ps, fd, rfl, e1, e2, e3, e4, e5, e6, ?_⟩
    exact ⟨φ1, h1, [d1], rh1, .cons rv1 .nil, Post.ext x1 p1⟩
  · exact p1.elim
end
end Zed
end
section
set_option Elab.async false
set_option linter.all false
set_option maxRecDepth 100000
set_option maxHeartbeats 1000000
/-! ZedO: == and != of instances by an own __eq__. -/
namespace L2
open PySem PySem.Spec PyProof.Rows PySem.W
section
variable {prog : Program} {w : World} {A : Around} {E : Value → Shared → Prop} {s : Shared} {K : Frag} {x C f : Addr} {ox : Obj} {od : Option Obj} {b tb : Value}
theorem ifBound_ne {M : Model} {args : List Value} {Q : Option Value → Shared → Prop} (X : K.In s.heap) (I : InstAt s.heap x ox C od) (hs : findIn K (.ref C) "__ne__" = some (some (.builtin "object.__ne__")))
    (h : wpAny M A (call (.builtin "object.__ne__") (.ref x :: args)) (fun v => Q (some v)) E s) : wpAny M A (callSpecialIfBound? (.ref x) "__ne__" args) Q E s := by
  simp only [callSpecialIfBound?, bindSpecialIfBound?]
  refine wpAny_holding (wpAny_bind (wpAny_bind (wpAny_bind (I.type.here ((looks_findIn X hs).here ?_)))))
  simp only [PySem.F.cmp_object.ne.bind]
  refine wpAny_bind (wpAny_askSetting (wpAny_ite ?_))
  have fin : wpAny M A (call (.builtin "object.__ne__") ([.ref x] ++ args) >>= fun v => pure (some v)) Q E s :=
    wpAny_bind (wpAny_mono h (fun v s' h' => wpAny_pure h') fun _ _ h' => h')
  split
  · exact wpAny_bind (wpAny_pure (wpAny_pure fin))
  · exact wpAny_tryCatch (wpAny_bind (wpAny_pure (wpAny_pure fin)))
theorem check_ne {M : Model} {y : Value} {Q : Unit → Shared → Prop} (X : K.In s.heap) (I : InstAt s.heap x ox C od) (ho : subIn K (.ref C) (.type "object") = some true) (hq : Q () s) :
    wpAny M A (checkBuiltinCall "object.__ne__" ⟨[.ref x, y], []⟩) Q E s := by
  have ha := PySem.F.cmpArgs_ne (.ref x) y
  simp only [checkBuiltinCall, PySem.F.cmpKind_ne, PySem.F.cmpSplit_ne]
  refine wpAny_bind ?_
  unfold isInstance
  refine wpAny_bind (I.type.here ((looks_subIn X ho).here ?_))
  cases hsig : Manifest.signature? "object.__ne__" with
  | none => exact wpAny_pure hq
  | some sig =>
    simp only [argsOk, hsig] at ha
    have h2 : Bind.checkArgs "object.__ne__" sig ⟨[.ref x, y], []⟩ = pure () := ha
    show wpAny M A (Bind.checkArgs "object.__ne__" sig ⟨[.ref x, y], []⟩) Q E _
    rw [h2]; exact wpAny_pure hq
theorem neEntry {y : Addr} {Q : Fin → Shared → Prop} (X : K.In s.heap) (I : InstAt s.heap x ox C od) (hu : A.units < cLine) (he : findIn K (.ref C) "__eq__" = some (some (.ref f))) (hf : isFn K (.ref f) = true)
    (hcall : wpAny (model prog w) A (call (.ref f) [.ref x, .ref y]) (fun v s' => ∃ b, v = .bool b ∧ Q (.done (.ret (.bool (!b)))) s') E s) :
    wpAny (model prog w) A (Builtin.«object.__ne__» ⟨[.ref x, .ref y], []⟩) Q E s := by
  unfold Builtin.«object.__ne__»
  repeat (first
    | with_reducible refine wpAny_cRoomFor hu ?_
    | (refine wpAny_bind (m := callSpecialIfBound? (.ref x) (Str.ofString "__eq__") [.ref y])
        (ifBound_K X I he hf (wpAny_mono hcall (fun r s' hr => by
          obtain ⟨b, rfl, hq⟩ := hr
          repeat (first | exact hq | exact wpAny_pure hq | exact wpAny_truthy_bool hq | (refine wpAny_bind (m := truthy (.bool _)) (wpAny_truthy_bool ?_)) | wp_step)) fun _ _ e => e)))
    | wp_step)
theorem ne_K {y : Addr} {oy : Obj} {oy' : Option Obj} {Q : Value → Shared → Prop} (hu : A.units + 1 < cLine) (X : K.In s.heap) (I : InstAt s.heap x ox C od) (J : InstAt s.heap y oy C oy')
    (hn : findIn K (.ref C) "__ne__" = some (some (.builtin "object.__ne__"))) (ho : subIn K (.ref C) (.type "object") = some true) (he : findIn K (.ref C) "__eq__" = some (some (.ref f))) (hf : isFn K (.ref f) = true)
    (h : wpAny (model prog w) A.in1 (call (.ref f) [.ref x, .ref y]) (fun v s' => ∃ b, v = .bool b ∧ Q (.bool (!b)) s') E s) : wpAny (model prog w) A (richCompare .NotEq (.ref x) (.ref y)) Q E s := by
  have one : wpAny (model prog w) A (tryCompare (.ref x) "__ne__" (.ref y)) (fun r s' => ∃ v, r = some v ∧ Q v s') E s := by
    simp only [tryCompare]
    refine wpAny_bind (ifBound_ne X I hn (wpAny_call (codeAny_call_builtin PySem.F.cmp_object.ne.plain PySem.F.cmpEntry_ne (check_ne X I ho (neEntry (A := A.in1) X I (by simp only [Around.in1]; omega) he hf (wpAny_mono h (fun v s' hv => ?_) fun _ _ e => e))))))
    obtain ⟨b, rfl, hq⟩ := hv
    first | exact ⟨b, rfl, wpAny_pure ⟨_, rfl, hq⟩⟩ | exact ⟨b, rfl, wpAny_pure (wpAny_pure ⟨_, rfl, hq⟩)⟩ | exact ⟨b, rfl, ⟨_, rfl, hq⟩⟩
  unfold richCompare
  simp only [oneThing_ref]
  refine wpAny_holding (wpAny_bind (wpAny_cRoomFor (Nat.lt_of_succ_lt hu) ?_))
  rw [cmpInfo_NotEq]
  dsimp only
  refine wpAny_bind (I.type.here (wpAny_bind (J.type.here ?_)))
  rw [show (Value.ref C != Value.ref C) = false from by simp]
  simp only [Bool.false_eq_true, if_false]
  refine wpAny_bind (wpAny_pure ?_)
  simp only [Bool.false_eq_true, if_false]
  refine wpAny_bind (wpAny_mono one (fun r s' z => ?_) fun _ _ e => e)
  obtain ⟨v, rfl, hq⟩ := z
  exact wpAny_pure hq
end
end L2
namespace Zed
open PySem L2
section
variable {G : Gc} {S : Sg} {C : Orc} {k : Nat}
theorem pass_no' {X : Cx} : Passes (L2.CX X.prog X.w) X (fun _ _ _ => False) := fun pins σ H s e s' I hc => by
  obtain ⟨_, _, _, _, _, _, _, _, _, _, _, _, hc⟩ := hc
  exact hc.elim
/-- the callee runs at A, which lies below the running body -/
theorem run_fnA {X : Cx} {pins : List (Addr × Obj)} {σ : L2.St} {H : Hp} {s : Shared} {f : Addr} {fd : FuncData} {ps : List Str} {sp : Sp} {A : Around} {Q : VK} {us : List Value} {vs : List V} (F : FnOkZ false X.prog X.w X.K X.mg X.base (L2.CX X.prog X.w) k f fd ps sp) (hr : Room k A)
    (e0 : Env0 X.prog X.w X.K X.mg X.base A X.stack s H) (hb : Binds X.K fd ps []) (I : Inv X pins σ H s) (r : Vals vs us) (h : sp vs H Q (fun _ _ _ => False)) : wpAny (model X.prog X.w) A (call (.ref f) us) (EP X pins σ Q) X.xe s := by
  have hl : us.length = ps.length := by rw [← r.length]; exact F.len _ _ _ _ h
  have bnd := hb s us I.kIn (by simpa using hl)
  rw [List.append_nil] at bnd
  refine wpAny_call (codeAny_mono (F.run A X.stack s H ⟨us, []⟩ us vs Q (fun _ _ _ => False) (fun z => nomatch z) hr e0 bnd r h) fun r s' hq => ?_)
  cases r with
  | error e => exact pass_no' pins σ H s e s' I hq
  | ok fl =>
    cases fl with
    | ret u => exact I.after hq
    | next => exact False.elim hq
    | brk => exact False.elim hq
    | cont => exact False.elim hq
def rOeq (G : Gc) (C : Orc) (ne : Bool) : R2 := fun x y H Q => ∃ φ h d e, RelH G φ h H ∧ RepV G φ H d x ∧ RepV G φ H e y ∧ Post G φ H (oeqR C ne d e h) Q (fun _ _ _ => False)
/-- the two instances, what their __eq__ answers -/
theorem oeq_core {X : Cx} {ne : Bool} {φ : List Addr} {h : PHeap} {H : Hp} {d e : PV} {x y : V} {Q : VK} (g : Glob S G C k X) (rh : RelH G φ h H) (r1 : RepV G φ H d x) (r2 : RepV G φ H e y) (p : Post G φ H (oeqR C ne d e h) Q (fun _ _ _ => False)) :
    ∃ (D a b dx dy ga : Addr) (ws ws' : List (Str × V)) (ps : List Str) (fd : FuncData) (f : Nat), x = .ref a ∧ y = .ref b ∧ H a = some (.ins D dx ws) ∧ H b = some (.ins D dy ws') ∧ PySem.W.findIn X.K (.ref D) "__eq__" = some (some (.ref ga)) ∧ PySem.W.isFn X.K (.ref ga) = true ∧
    PySem.W.findIn X.K (.ref D) "__ne__" = some (some (.builtin "object.__ne__")) ∧ PySem.W.subIn X.K (.ref D) (.type "object") = some true ∧ Binds X.K fd ps [] ∧ FnOkZ false X.prog X.w X.K X.mg X.base (L2.CX X.prog X.w) k ga fd ps (spF G (C.call f)) ∧
    spF G (C.call f) [x, y] H (fun v H' => ∃ r, v = .bl r ∧ Q (.bl (ne != r)) H') (fun _ _ _ => False) := by
  unfold oeqR at p
  split at p
  · rename_i c fs c' fs' h1 h2
    split at p
    · rename_i hz
      obtain ⟨rfl, sl⟩ := hz
      split at p
      · rename_i f hf
        obtain ⟨ps, fd, D, ga, fdt, m0, m1, m2, m3, m4, m5, m6, m7⟩ := g.eqs c f hf
        have sl' : G.isSl c = false := by rw [g.sl]; exact sl
        obtain ⟨a, D1, dx, ws, rfl, mD, ha, _⟩ := rep_insM rh r1 h1 sl'
        obtain ⟨b, D2, dy, ws', rfl, mD', hb, _⟩ := rep_insM rh r2 h2 sl'
        rw [g.mg, g.nm, m1] at mD mD'
        cases mD; cases mD'
        refine ⟨D, a, b, dx, dy, ga, ws, ws', ps, fdt, f, rfl, rfl, ha, hb, m2, m3, m4, m5, m6, m7, φ, h, [d, e], rh, .cons r1 (.cons r2 .nil), ?_⟩
        split at p
        · rename_i r h3 hc
          rw [hc]
          intro φ' H' v x' rh' rv
          cases rv
          exact ⟨r, rfl, p φ' H' _ x' rh' (.bl _)⟩
        · exact p.elim
      · exact p.elim
    · exact p.elim
  · exact p.elim
theorem op_oeq {X : Cx} (g : Glob S G C k X) : OpR X (compareOp .Eq) (rOeq G C false) := by
  intro pins s σ H x y v u Q I rx ry ⟨φ, h, d, e, rh, r1, r2, p⟩
  obtain ⟨D, a, b, dx, dy, ga, ws, ws', ps, fd, f, rfl, rfl, ha, hb, q1, q2, q3, q4, q5, F, q⟩ := oeq_core g rh r1 r2 p
  cases (show v = Value.ref a from rx)
  cases (show u = Value.ref b from ry)
  obtain ⟨_, O, _⟩ := ins_get I.hok ha
  obtain ⟨od, J, _⟩ := O.look
  obtain ⟨_, O', _⟩ := ins_get I.hok hb
  obtain ⟨od', J', _⟩ := O'.look
  obtain ⟨m, hF⟩ := I.fr
  refine PySem.W.cmp_K (op := .Eq) (tb := .ref D) g.room.units0 hF I.ok.mod.kin J J'.type (by simp [PySem.W.notFirst]) q1 q2 ?_
  refine wpAny_mono (run_fnA (us := [.ref a, .ref b]) (vs := [.ref a, .ref b]) F (g.room.mono (Nat.le_succ _)) I.env0 q5 I (.cons rfl (.cons rfl .nil)) q) (fun w s' z => ?_) fun _ _ x => x
  obtain ⟨z', H', I', rz, r, ez, qz⟩ := z
  subst ez
  cases (show w = Value.bool r from rz)
  exact ⟨.bl r, H', I', rfl, by simpa using qz⟩
theorem op_one {X : Cx} (g : Glob S G C k X) : OpR X (compareOp .NotEq) (rOeq G C true) := by
  intro pins s σ H x y v u Q I rx ry ⟨φ, h, d, e, rh, r1, r2, p⟩
  obtain ⟨D, a, b, dx, dy, ga, ws, ws', ps, fd, f, rfl, rfl, ha, hb, q1, q2, q3, q4, q5, F, q⟩ := oeq_core g rh r1 r2 p
  cases (show v = Value.ref a from rx)
  cases (show u = Value.ref b from ry)
  obtain ⟨_, O, _⟩ := ins_get I.hok ha
  obtain ⟨od, J, _⟩ := O.look
  obtain ⟨_, O', _⟩ := ins_get I.hok hb
  obtain ⟨od', J', _⟩ := O'.look
  have hu := g.room.units
  refine ne_K (by omega) I.kIn J J' q3 q4 q1 q2 ?_
  refine wpAny_mono (run_fnA (us := [.ref a, .ref b]) (vs := [.ref a, .ref b]) F (show Room (k + 1) X.A from g.room).in1 I.env0.in1 q5 I (.cons rfl (.cons rfl .nil)) q) (fun w s' z => ?_) fun _ _ x => x
  obtain ⟨z', H', I', rz, r, ez, qz⟩ := z
  subst ez
  cases (show w = Value.bool r from rz)
  exact ⟨r, rfl, .bl (!r), H', I', rfl, by simpa using qz⟩
theorem tOeq_ev {W : WX} {ne : Bool} {a b : Ex} (σ : L2.St) (H : Hp) (Q : VK) (t : tEv G W (evE C (.oeq ne a b)) σ H Q) : tOp (rOeq G C ne) (tEv G W (evE C a)) (tEv G W (evE C b)) σ H Q := by
  obtain ⟨φ, l, h, rh, rl, p⟩ := t
  unfold evE at p
  refine ⟨φ, l, h, rh, rl, Post.mono (Post.bind p) fun v H1 ⟨φ1, h1, d1, x1, rh1, rv1, p1⟩ => ?_⟩
  refine ⟨φ1, l, h1, rh1, repL_ext rh x1 rl, Post.mono (Post.bind (Post.ext x1 p1)) fun u H2 ⟨φ2, h2, d2, x2, rh2, rv2, p2⟩ => ?_⟩
  refine ⟨φ2, h2, d1, d2, rh2, repV_ext rh1 x2 rv1, rv2, ?_⟩
  have p2 := Post.ext x2 p2
  revert p2
  cases e : oeqR C ne d1 d2 h2 with
  | ok d h3 => exact id
  | stuck => exact id
  | exc c fs h3 =>
    exfalso
    unfold oeqR at e
    split at e
    · split at e
      · split at e
        · split at e <;> cases e
        · cases e
      · cases e
    · cases e
theorem oeq_bl {ne : Bool} {a b : Ex} (l : Loc) (h : PHeap) (d : PV) (h' : PHeap) (e : evE C (.oeq ne a b) l h = .ok d h') : ∃ b, d = .bl b := by
  unfold evE at e
  cases e1 : evE C a l h with
  | ok x h1 =>
    rw [e1] at e
    simp only [R.bind_ok] at e
    cases e2 : evE C b l h1 with
    | ok y h2 =>
      rw [e2] at e
      simp only [R.bind_ok] at e
      unfold oeqR at e
      split at e
      · split at e
        · split at e
          · split at e
            · cases e; exact ⟨_, rfl⟩
            · cases e
          · cases e
        · cases e
      · cases e
    | exc => rw [e2] at e; cases e
    | stuck => rw [e2] at e; cases e
  | exc => rw [e1] at e; cases e
  | stuck => rw [e1] at e; cases e
end
end Zed
end
section
set_option Elab.async false
set_option linter.all false
set_option maxRecDepth 100000
set_option maxHeartbeats 1000000
/-! ZedR: classmethods; cls(..). -/
namespace Zed
open PySem L2 ClX
section
variable {G : Gc} {S : Sg} {C : Orc} {k : Nat}
theorem run_codeZ {X : Cx} {pins : List (Addr × Obj)} {σ : L2.St} {H : Hp} {s : Shared} {g : Addr} {fd : FuncData} {ps : List Str} {sp : Sp} {E : L2.St → XK} {Q : VK} {us : List Value} {vs : List V} (F : FnOkZ false X.prog X.w X.K X.mg X.base (L2.CX X.prog X.w) k g fd ps sp) (hr : Room k X.A) (hb : Binds X.K fd ps [])
    (hx : ∀ σ, PassesAt (L2.CX X.prog X.w) X σ (E σ)) (I : Inv X pins σ H s) (r : Vals vs us) (h : sp vs H Q (E σ)) :
    codeAny (model X.prog X.w) X.A (.call (.ref g) ⟨us, []⟩) (fun r s' => match r with | .ok (.ret v) => EP X pins σ Q v s' | .ok _ => False | .error e => X.xe e s') s := by
  have hl : us.length = ps.length := by rw [← r.length]; exact F.len _ _ _ _ h
  have bnd := hb s us I.kIn (by simpa using hl)
  rw [List.append_nil] at bnd
  refine codeAny_mono (F.run X.A X.stack s H ⟨us, []⟩ us vs Q (E σ) (fun z => nomatch z) hr I.env0 bnd r h) fun r s' hq => ?_
  cases r with
  | error e => exact hx σ pins H s e s' I hq
  | ok fl =>
    cases fl with
    | ret u => exact I.after hq
    | next => exact False.elim hq
    | brk => exact False.elim hq
    | cont => exact False.elim hq
theorem run_cmZ {X : Cx} {pins : List (Addr × Obj)} {σ : L2.St} {H : Hp} {s : Shared} {g D q : Addr} {fd : FuncData} {ps : List Str} {sp : Sp} {E : L2.St → XK} {Q : VK} {us : List Value} {vs : List V} (F : FnOkZ false X.prog X.w X.K X.mg X.base (L2.CX X.prog X.w) k g fd ps sp) (hr : Room k X.A) (hb : Binds X.K fd ps [])
    (hx : ∀ σ, PassesAt (L2.CX X.prog X.w) X σ (E σ)) (I : Inv X ((q, PySem.W.methodObj (.ref g) (.ref D)) :: pins) σ H s) (r : Vals vs us) (h : sp (.ref D :: vs) H Q (E σ)) : wpAny (model X.prog X.w) X.A (call (.ref q) us) (EP X pins σ Q) X.xe s := by
  have z : wpAny (model X.prog X.w) X.A (call (.ref q) us) (EP X ((q, PySem.W.methodObj (.ref g) (.ref D)) :: pins) σ Q) X.xe s :=
    wpAny_call (PySem.W.method_call (pin_at I) (run_codeZ (us := .ref D :: us) (vs := .ref D :: vs) F hr hb hx I (.cons rfl r) h))
  exact thn z fun _ _ y => unpinE y
def tCmtZ (D : Addr) (sp : Sp) (E : L2.St → XK) (t : TA) : TE := fun σ H Q => t σ H fun vs H2 => sp (.ref D :: vs) H2 Q (E σ)
open PySem.Spec PyProof.Rows in
theorem pe_cmtZ {X : Cx} {D p g : Addr} {mc : Value} {m y : Str} {fd : FuncData} {ps : List Str} {sp : Sp} {E : L2.St → XK} {e : Expr} {es : List Expr} {q apos pos : Pos} {t : TA} (hg : Gl X y) (hm : X.mg y = some (.ref D)) (hdb : (y == ("__debug__" : Str)) = false) (r : CRead X.K D mc) (c : CMet X.K D mc m p g)
    (F : FnOkZ false X.prog X.w X.K X.mg X.base (L2.CX X.prog X.w) k g fd ps sp) (hb : Binds X.K fd ps []) (hr : Room k X.A) (hx : ∀ σ, PassesAt (L2.CX X.prog X.w) X σ (E σ)) (ha : PA X (e :: es) t)
    (hbase : attributeBase (.Name y q) m X.env (eval (.Name y q) X.env) = eval (.Name y q) X.env)
    (hfew : ((backTo pos (starEach (e :: es) X.env)).all (fun x => !x.1) && (backToKw pos (keywordEach [] X.env)).all (fun x => x.1.isSome)
      && decide ((e :: es).length + ([] : List Keyword).length + (if ([] : List Keyword).isEmpty then 0 else 1) < 30)) = true)
    (hline : (apos.endLine == pos.line) = true) (hst : starEach (e :: es) X.env = (false, eval e X.env) :: starEach es X.env) (hpl : (backTo pos (starEach es X.env)).any (·.1) = false) :
    PE X (.Call (.Attribute (.Name y q) m apos) (e :: es) [] pos) (tCmtZ D sp E t) := by
  refine ⟨fun pins s σ H Q I h => ?_⟩
  have hn : PE X (.Name y q) (tC (.ref D)) := pe_glob (v := .ref D) hg hm rfl hdb
  refine callM hbase hfew hline (thn (hn.run pins s σ H (fun v H1 => v = .ref D ∧ H1 = H) I ⟨rfl, rfl⟩) fun u s1 ⟨x, H1, I1, rx, ex, eh⟩ => fun pl => ?_)
  subst ex; subst eh
  obtain rfl : u = Value.ref D := rx
  refine getmethcm_ok I1 r c fun s2 I2 => ?_
  refine callwith_cm I2 (base_none I1 (Nat.le_refl _)) c.fi (thn (ha.run pos _ s2 σ H1 _ I2 h) fun us s3 ⟨vs, H2, I3, rv, q2⟩ => ⟨⟨pin_at I3, I3.kIn⟩, ?_⟩) hst hpl
  exact run_cmZ F hr hb hx I3 rv q2
theorem tCmt_ev {W : WX} {c m f : Nat} {es : Exs} {D : Addr} (hc : C.ct.cmt c m = some f) (mD : G.mg (G.nm c) = some (.ref D)) (σ : L2.St) (H : Hp) (Q : VK) (t : tEv G W (evE C (.cmt c m es)) σ H Q) : tCmtZ D (spF G (C.call f)) (WE W) (tEvA G W (evA C es)) σ H Q := by
  obtain ⟨φ, l, h, rh, rl, p⟩ := t
  unfold evE at p
  rw [hc] at p
  refine ⟨φ, l, h, rh, rl, PostA.mono (PostA.bind p) fun vs H1 ⟨φ1, h1, ds, x1, rh1, rv1, p1⟩ => ?_⟩
  exact ⟨φ1, h1, .gl c :: ds, rh1, .cons (.gl mD) rv1, Post.ext x1 p1⟩
/-! ### cls(..) -/
def tMkl (i : Nat) (D : Addr) (sp : Sp) (t : TA) : TE := fun σ H Q => σ[i]? = some (some (.ref D)) ∧ tMake D sp [] (fun _ _ _ => False) t σ H Q
open PySem.Spec PyProof.Rows in
theorem pe_mkl {X : Cx} {i : Nat} {D f : Addr} {x : Str} {fd : FuncData} {ps : List Str} {sp : Sp} {e : Expr} {es : List Expr} {p pos : Pos} {t : TA} (M : Mk X.K D f) (F : FnOk X.prog X.w X.K X.mg X.base (L2.CX X.prog X.w) k f fd ps sp) (hr : Room (k + 1) X.A) (hN : X.N[i]? = some x) (hv : Vis X.env.scope x)
    (hb : Binds X.K fd ps []) (ha : PA X (e :: es) t) (hdb : (x == ("__debug__" : Str)) = false) (hcd : (x == ("__classdict__" : Str)) = false)
    (he : starEach (e :: es) X.env = (false, eval e X.env) :: starEach es X.env) (hpl : (backTo pos (starEach es X.env)).any (·.1) = false) : PE X (.Call (.Name x p) (e :: es) [] pos) (tMkl i D sp t) := by
  refine ⟨fun pins s σ H Q I h => ?_⟩
  obtain ⟨hs, ht⟩ := h
  refine wpAny_Call_Name_kw (thn ((pe_var (pos := p) hN hv hdb hcd).run pins s σ H (fun v H1 => v = .ref D ∧ H1 = H) I ⟨.ref D, hs, rfl, rfl⟩) fun u s1 ⟨v, H1, I1, r1, q1⟩ => ?_)
  obtain ⟨rfl, rfl⟩ := q1
  cases r1
  refine PySem.W.callWith_K (h₀ := X.base) I.ok.mod.kin M.kp (thn (ha.run pos pins s1 σ _ _ I1 ht) fun us s2 ⟨vs, H2, I2, r, q⟩ => ⟨I2.kIn, ?_⟩) he hpl
  exact run_make M F hr hb .nil pass_no' I2 r q
end
end Zed
end
section
set_option Elab.async false
set_option linter.all false
set_option maxRecDepth 100000
set_option maxHeartbeats 4000000
namespace Zed
open PySem L2
/-! ### calls of defs that may want to know that no repr is under way -/
theorem pe_callZ {X : Cx} {CX : CXT} {g : Bool} {k : Nat} {f : Addr} {fd : FuncData} {ps : List Str} {sp : Sp} {E : St → XK} {x : Str} {p pos : Pos} {e : Expr} {es : List Expr} {t : TA} (F : FnOkZ g X.prog X.w X.K X.mg X.base CX k f fd ps sp) (hgd : g = true → X.A.guards = some [])
    (hr : Room k X.A) (hg : Gl X x) (hm : X.mg x = some (.ref f)) (hk : PySem.W.keepIn X.K (.ref f) = true) (hb : Binds X.K fd ps []) (hx : ∀ σ, PassesAt CX X σ (E σ)) (ha : PA X (e :: es) t) (hdb : (x == ("__debug__" : Str)) = false)
    (h1 : starEach (e :: es) X.env = (false, eval e X.env) :: starEach es X.env) (h2 : (backTo pos (starEach es X.env)).any (·.1) = false) : PE X (.Call (.Name x p) (e :: es) [] pos) (tCallS sp E t) := by
  constructor
  intro pins s σ H Q I h
  refine wpAny_Call_Name_kw (ld_glob I hg hm ?_ hdb)
  refine PySem.W.callWith_K (h₀ := X.base) I.ok.mod.kin hk (thn (ha.run pos pins s σ H _ I h) ?_) h1 h2
  rintro us s1 ⟨vs, H1, J, rv, q⟩
  refine ⟨J.kIn, ?_⟩
  have len : us.length = ps.length := rv.length.symm.trans (F.len _ _ _ _ q)
  have bnd := hb s1 us J.kIn (by simpa using len)
  rw [List.append_nil] at bnd
  refine wpAny_call (codeAny_mono (F.run X.A X.stack s1 H1 ⟨us, []⟩ us vs Q (E σ) hgd hr J.env0 bnd rv q) ?_)
  rintro (e | fl) s' hq
  · exact hx σ pins H1 s1 e s' J hq
  · match fl, hq with
    | .ret u, hq => exact J.after hq
/-! ### x(lambda: e), x telling how the lambda ended -/
/-- what the clauses tell -/
def wTell (K : PySem.W.Frag) (mg : Str → Option Value) (nm : Nat → Str) (Q : VK) : List (Nat × Str) → Value → Hp → Prop
  | [], _, _ => False
  | (d, t) :: r, cls, H => ∃ E b, mg (nm d) = some (.ref E) ∧ PySem.W.exmOne K cls (.ref E) = some b ∧ (b = true → Q (.str t) H) ∧ (b = false → wTell K mg nm Q r cls H)
def TMet (K : PySem.W.Frag) (mg : Str → Option Value) (nm : Nat → Str) (hs : List (Nat × Str)) (last : Str) : (XK → Hp → VK → Prop) → Hp → VK → Prop := fun tl H Q =>
  tl (fun cls _ H' => wTell K mg nm Q hs cls H') H (fun _ H' => Q (.str last) H')
/-- the clauses, as ps_tryZ asks for them -/
theorem cls_of {X : Cx} {nm : Nat → Str} : ∀ {hs : List (Nat × Str)} {hds : List ExceptHandler}, (∀ p ∈ hs, ∃ E, X.mg (nm p.1) = some (.ref E)) → chkH nm X.env.scope.names hs hds = true →
    ∃ l : List Cl, ClsOk X hds l ∧ ∀ (D : Ends) (Q : VK) (cls : Value) (d : Option Addr) (σ : St) (H : Hp), (∀ v H', Q v H' → D.rt v H') → wTell X.K X.mg nm Q hs cls H → wCl X.K D l cls d σ H
  | [], hds, _, _ => ⟨[], .cut, fun _ _ _ _ _ _ _ z => z⟩
  | (d, t) :: r, hds, hE, c => by
    unfold chkH at c
    split at c
    · rename_i z; cases z
    · rename_i d0 t0 r0 x p1 t' p2 p3 p4 p5 hds0 e1
      cases e1
      simp only [Bool.and_eq_true, beq_iff_eq] at c
      obtain ⟨⟨⟨⟨c1, c2⟩, c3⟩, c4⟩, c5⟩ := c
      subst c1; subst c4
      obtain ⟨l, k1, k2⟩ := cls_of (fun p hp => hE p (List.mem_cons_of_mem _ hp)) c5
      obtain ⟨E, hm⟩ := hE _ List.mem_cons_self
      have gl : Gl X (nm d) := by
        have z : X.env.scope.names.lookup (nm d) = some .globalImplicit := by simpa [isK] using c2
        exact z
      have db : ((nm d) == ("__debug__" : Str)) = false := by
        simp only [okNm, Bool.and_eq_true, Bool.not_eq_true'] at c3
        exact c3.1.1
      refine ⟨⟨.ref E, none, _⟩ :: l, .bare ⟨gl, db, .inl hm⟩ (fun a ob cls d pn _ _ => pss_one (ps_ret pe_str)) k1, ?_⟩
      intro D Q cls dd σ H hQ w
      obtain ⟨E', b, m1, m2, m3, m4⟩ := w
      rw [hm] at m1
      cases m1
      exact ⟨b, m2, fun hb a _ => hQ _ _ (m3 hb), fun hb => k2 D Q cls dd σ H hQ (m4 hb)⟩
    · cases c
theorem met_gives {X : Cx} {nm : Nat → Str} {Ng : List Str} {x a q last : Str} {sg : Scope} {g : Addr} {cdg : Value} {hs : List (Nat × Str)} {bg : List Stmt} (nd : Ng.Nodup) (hE : ∀ p ∈ hs, ∃ E, X.mg (nm p.1) = some (.ref E)) (c : metB nm sg.names a hs last bg = true)
    (h0 : ∀ f : Addr, (L2.start Ng [V.ref f])[0]? = some (some (V.ref f))) : LamX.GivesTo X Ng x sg g cdg bg a q (TMet X.K X.mg nm hs last) := by
  intro f c' s H Q tl act hc h
  unfold metB at c
  split at c
  · rename_i y p1 p2 p3 hd hds p4 t j p5 p6
    simp only [Bool.and_eq_true, beq_iff_eq] at c
    obtain ⟨⟨⟨c1, c2⟩, c3⟩, c4⟩ := c
    subst c1; subst c3
    obtain ⟨l, k1, k2⟩ := cls_of (X := (cxOf C8.CX0 X.prog X.w X.K X.mg X.base Ng x sg g cdg X.A X.stack s H C8.E0).nox) (nm := nm) hE c4
    refine ⟨_, pss_cons (ps_tryZ (X := (cxOf C8.CX0 X.prog X.w X.K X.mg X.base Ng x sg g cdg X.A X.stack s H C8.E0).nox)
      (tb := fun W D σ H => ∃ Ech : XK, (∀ cls d σ' H', Ech cls d H' → W cls d σ' H') ∧ σ[0]? = some (some (.ref f)) ∧ H c' = some (LamX.CodeO c' q) ∧ tl Ech H (fun _ H' => D.nx σ H')) rfl rfl nd (fun W pn xe tk _ => ?_) k1) (pss_one (ps_ret pe_str)), ?_⟩
    · constructor
      intro pins s1 σ1 H1 D I1 ⟨Ech, w1, w2, w3, w4⟩
      exact (pss_one (ps_expr (pos := p3) (act W pn xe Ech p1 p2 tk w1))).run pins s1 σ1 H1 D I1 ⟨w2, w3, w4⟩
    · exact ⟨_, fun cls d σ' H' w => k2 _ Q cls d σ' H' (fun _ _ z => z) w, h0 f, hc, h⟩
  · cases c
end Zed
end
section
set_option Elab.async false
set_option linter.all false
set_option maxRecDepth 100000
set_option maxHeartbeats 4000000
namespace Zed
open PySem L2
section
variable {S : Sg} {G : Gc} {C : Orc} {k : Nat}
theorem conIs_rep {d : PV} {c : Const} {X : Cx} {j : Nat} {pos : Pos} (h : conIs d c = true) : ∃ v, PE X (.Constant c j pos) (tC v) ∧ ∀ φ H, RepV G φ H d v := by
  unfold conIs at h
  split at h
  · exact ⟨.non, pe_non, fun _ _ => .non⟩
  · rw [beq_iff_eq] at h; subst h; exact ⟨.bl _, pe_bl, fun _ _ => .bl _⟩
  · rw [beq_iff_eq] at h; subst h; exact ⟨.int _, pe_int, fun _ _ => .int _⟩
  · rw [beq_iff_eq] at h; subst h; exact ⟨.str _, pe_str, fun _ _ => .str _⟩
  · cases h
def isTst : Expr → Bool
  | .UnaryOp .Not _ _ => true
  | .BoolOp .. => true
  | .IfExp .. => true
  | .Compare .. => true
  | _ => false
theorem pt_pl {X : Cx} {W : WX} {e : Expr} {f : Loc → PHeap → R PV} (hK : G.K = X.K) (h : PE X e (tEv G W f)) (ht : isTst e = false) : PT X e (tEvT G W fun l h => truthR (f l h)) :=
  pt_of hK h (fun x p e => by subst e; cases ht) (fun o v p e => by subst e; cases ht) (fun a b c p e => by subst e; cases ht) (fun a b c p e => by subst e; cases ht)
theorem evE_attr {a : Ex} {f : Nat} : evE C (.attr a f) = ev1 (evE C a) (attrF C.ct f) := by funext l h; simp only [evE]
theorem pass_no {X : Cx} : Passes (L2.CX X.prog X.w) X (fun _ _ _ => False) := fun pins σ H s e s' I hc => by
  obtain ⟨_, _, _, _, _, _, _, _, _, _, _, _, z⟩ := hc
  exact z.elim
theorem tStar_ev {W : WX} {e : Ex} {r : Exs} (σ : St) (H : Hp) (Q : List V → Hp → Prop) (t : tEvA G W (evA C (.star e r)) σ H Q) : StX.tStar G.K (tEv G W (evE C e)) (tEvA G W (evA C r)) σ H Q := by
  obtain ⟨φ, l, h, rh, rl, p⟩ := t
  unfold evA at p
  refine ⟨φ, l, h, rh, rl, Post.mono (Post.bindA p) fun v H1 ⟨φ1, h1, d1, x1, rh1, rv1, p1⟩ => ?_⟩
  cases z : seqOf h1 d1 with
  | none => rw [z] at p1; exact p1.elim
  | some ds =>
    rw [z] at p1
    obtain ⟨a, vs, rfl, sq, q⟩ := rep_seq rh1 rv1 z
    refine ⟨a, vs, rfl, sq.symm, φ1, l, h1, rh1, repL_ext rh x1 rl, PostA.mono (PostA.bindA (PostA.ext x1 p1)) fun ws H2 ⟨φ2, h2, es, x2, rh2, rv2, p2⟩ => ?_⟩
    exact (PostA.ext x2 p2) φ2 H2 _ .refl rh2 ((repVs_ext rh1 x2 q).append rv2)
theorem tMake_ev {X : Cx} {W : WX} {c f : Nat} {es : Exs} {D : Addr} (g : Glob S G C k X) (hD : X.mg (S.nm c) = some (.ref D)) (σ : St) (H : Hp) (Q : VK) (t : tEv G W (evE C (.make c f es)) σ H Q) :
    tMake D (spF G (C.call f)) [] (fun _ _ _ => False) (tEvA G W (evA C es)) σ H Q := by
  obtain ⟨φ, l, h, rh, rl, p⟩ := t
  unfold evE at p
  refine ⟨φ, l, h, rh, rl, PostA.mono (PostA.bind p) fun vs H1 ⟨φ1, h1, ds, x1, rh1, rv1, p1⟩ => ?_⟩
  intro x dx hx hdx ne
  rw [List.append_nil]
  unfold makeF at p1
  -- the new object
  have hx2 : upd H1 dx (.own x) x = none := by rw [upd_ne (Ne.symm ne)]; exact hx
  have e1 : Ext φ1 H1 φ1 (upd H1 dx (.own x)) := ext_tup hdx
  have rh2 := rh1.tup (u := HO.own x) hdx
  have e2 := ext_alloc (u := HO.ins D dx []) rh2 hx2
  have hD' : G.mg (G.nm c) = some (.ref D) := by rw [g.mg, g.nm]; exact hD
  have ro : RepO G (φ1 ++ [x]) (upd (upd H1 dx (.own x)) x (.ins D dx [])) x (.ins c []) := by
    refine ⟨List.nodup_nil, D, dx, hD', ?_⟩
    cases z : G.isSl c with
    | false => exact .inl ⟨rfl, [], upd_same, Nat.le_refl _, (fun f d hf => by cases hf), (fun y v hy => by cases hy)⟩
    | true => exact .inr ⟨rfl, [], .inl ⟨upd_same, rfl⟩, ⟨ne, .inl (by rw [upd_ne ne, upd_same])⟩, (fun f d hf => by cases hf)⟩
  have rh3 := rh2.alloc hx2 ro
  have x13 : Ext φ1 H1 (φ1 ++ [x]) (upd (upd H1 dx (.own x)) x (.ins D dx [])) := e1.trans e2
  have hix : (φ1 ++ [x])[h1.length]? = some x := by rw [← rh1.len, List.getElem?_append_right (Nat.le_refl _)]; simp
  refine ⟨φ1 ++ [x], h1 ++ [.ins c []], .ref h1.length :: ds, rh3, .cons (.ref hix) (repVs_ext rh1 x13 rv1), ?_⟩
  cases z : C.call f (.ref h1.length :: ds) (h1 ++ [.ins c []]) with
  | stuck => rw [z] at p1; exact p1.elim
  | exc c fs h' => rw [z] at p1; exact p1.elim
  | ok d h2 =>
    rw [z] at p1
    intro φ4 H4 v x4 rh4 rv4
    cases rv4 <;> simp only at p1 <;> first | exact p1.elim | skip
    exact ⟨rfl, p1 φ4 H4 _ (x1.trans (x13.trans x4)) rh4 (.ref (pre_get x4.pre hix))⟩
theorem tMkl_ev {X : Cx} {W : WX} {i c f : Nat} {es : Exs} {D : Addr} (g : Glob S G C k X) (hD : X.mg (S.nm c) = some (.ref D)) (σ : St) (H : Hp) (Q : VK) (t : tEv G W (evE C (.mkl i c f es)) σ H Q) :
    tMkl i D (spF G (C.call f)) (tEvA G W (evA C es)) σ H Q := by
  obtain ⟨φ, l, h, rh, rl, p⟩ := t
  unfold evE at p
  split at p
  · rename_i d hl
    split at p
    · rename_i hd
      subst hd
      obtain ⟨v, e1, r⟩ := rl.2 i _ hl
      cases r with
      | gl m =>
        rw [g.mg, g.nm, hD] at m
        cases m
        exact ⟨e1, tMake_ev g hD σ H Q ⟨φ, l, h, rh, rl, by unfold evE; exact p⟩⟩
    · exact p.elim
  · exact p.elim
theorem evE_bin {op : Bop} {a b : Ex} : evE C (.bin op a b) = ev2 (evE C a) (evE C b) (bopF op) := by funext l h; simp only [evE]
theorem evE_cmp {op : Cop} {a b : Ex} : evE C (.cmp op a b) = ev2 (evE C a) (evE C b) (cmpF op) := by funext l h; simp only [evE]
theorem evE_sub {a b : Ex} : evE C (.sub a b) = ev2 (evE C a) (evE C b) subF := by funext l h; simp only [evE]
theorem evE_lc {z : Bool} {elt : Ex} {tg : Tg} {it : Itr} {ifs : Op} {own : List Nat} : evE C (.lc z elt tg it ifs own) = fun l h => (evI C it l h).bind fun src h1 => (lcLoop tg src (evT1 C ifs) (evE C elt) (wipeP l own) (srcLen h1 src + 1) 0 [] h1).bind fun ds h2 => liftP (some (mkL z ds h2)) := by funext l h; simp only [evE]
theorem pe_zQ {X : Cx} {z : Bool} {e : Expr} {t : TE} (h : PE X e t) : PE X e (fun σ H Q => t σ H (zQ z Q)) := by
  cases z with
  | false => exact h
  | true => exact pe_frz h
theorem evA_nil : evA C .nil = evNil := by funext l h; simp only [evA, evNil]
theorem evA_cons {e : Ex} {es : Exs} : evA C (.cons e es) = evCons (evE C e) (evA C es) := by funext l h; simp only [evA]
theorem evI_val {e : Ex} : evI C (.val e) = fun l h => (evE C e l h).bind fun d h1 => srcR (srcOf h1 d) h1 := by funext l h; simp only [evI]
theorem pt_ifExp {X : Cx} {c a b : Expr} {tc ta tb : TT} {pos : Pos} (hc : PT X c tc) (ha : PT X a ta) (hb : PT X b tb) : PT X (.IfExp c a b pos) (fun σ H Q => tc σ H fun k H1 => if k = true then ta σ H1 Q else tb σ H1 Q) := ⟨fun pins s σ H Q I q => by
  have e : PySem.isTrue (.IfExp c a b pos) X.env (eval (.IfExp c a b pos) X.env) = (do let k ← PySem.isTrue c X.env (eval c X.env); if k = true then PySem.isTrue a X.env (eval a X.env) else PySem.isTrue b X.env (eval b X.env)) := by
    rw [PySem.isTrue]
  rw [e]
  refine wpAny_bind (thn (hc.run pins s σ H _ I q) fun k s1 ⟨H1, I1, q1⟩ => ?_)
  cases k with
  | true => rw [if_pos rfl] at q1 ⊢; exact ha.run pins s1 σ H1 Q I1 q1
  | false => rw [if_neg Bool.false_ne_true] at q1 ⊢; exact hb.run pins s1 σ H1 Q I1 q1⟩
theorem truthR_ite {c a b : Ex} {l : Loc} {h : PHeap} : truthR (evE C (.ite c a b) l h) = (truthR (evE C c l h)).bind fun k h1 => match k with | true => truthR (evE C a l h1) | false => truthR (evE C b l h1) := by
  conv => lhs; unfold evE
  cases truthR (evE C c l h) with
  | ok k h1 => cases k <;> rfl
  | exc => rfl
  | stuck => rfl
theorem ttIte_ev {W : WX} {c a b : Ex} (σ : St) (H : Hp) (Q : Bool → Hp → Prop) (t : tEvT G W (fun l h => truthR (evE C (.ite c a b) l h)) σ H Q) :
    (tEvT G W fun l h => truthR (evE C c l h)) σ H fun k H1 => if k = true then (tEvT G W fun l h => truthR (evE C a l h)) σ H1 Q else (tEvT G W fun l h => truthR (evE C b l h)) σ H1 Q := by
  obtain ⟨φ, l, h, rh, rl, p⟩ := t
  have p : PostT G φ H (truthR (evE C (.ite c a b) l h)) Q (fun c d H' => W c d σ H') := p
  rw [truthR_ite] at p
  refine ⟨φ, l, h, rh, rl, PostT.mono (PostT.bindT p) fun k H1 ⟨φ1, h1, x1, rh1, p1⟩ => ?_⟩
  cases k with
  | true => rw [if_pos rfl]; exact ⟨φ1, l, h1, rh1, repL_ext rh x1 rl, PostT.ext x1 p1⟩
  | false => rw [if_neg Bool.false_ne_true]; exact ⟨φ1, l, h1, rh1, repL_ext rh x1 rl, PostT.ext x1 p1⟩
theorem lamS_sp {X : Cx} {sc sc' : Scope} (sp : Scp sc.names X) (L : LamX.LamS sc sc') : LamX.LamS X.env.scope sc' := ⟨L.kind, L.co, L.gen, L.own, fun y hy e => sp.cf y.1 (L.free y hy e)⟩
theorem metB_nm {nm : Nat → Str} {ns : Nms} {a : Str} {hs : List (Nat × Str)} {last : Str} {sts : List Stmt} (h : metB nm ns a hs last sts = true) : (a == ("__debug__" : Str)) = false ∧ (a == ("__classdict__" : Str)) = false ∧ a ≠ "__name__" := by
  unfold metB at h
  split at h
  · simp only [Bool.and_eq_true] at h
    exact okNm_dbg h.1.1.2
  · cases h
theorem start0 {Ng : List Str} {v : V} {a : Str} (h : Ng[0]? = some a) : (L2.start Ng [v])[0]? = some (some v) := by
  unfold L2.start
  simp
theorem exm_post {X : Cx} {φ : List Addr} {H : Hp} {h' : PHeap} {c : Nat} {Q : VK} {E : XK} (g : Glob S G C k X) : ∀ (hs : List (Nat × Str)), Post G φ H (metGo C.ct c h' hs) Q E → ∀ φ' H' a, Ext φ H φ' H' → RelH G φ' h' H' → X.mg (S.nm c) = some (.ref a) → wTell X.K X.mg S.nm Q hs (.ref a) H'
  | [], p, _, _, _, _, _, _ => p.elim
  | (d, t) :: r, p, φ', H', a, x, rh, ma => by
    unfold metGo at p
    split at p
    · rename_i e
      obtain ⟨D, E', m1, m2, m3⟩ := g.exm c d true e
      rw [ma] at m1
      cases m1
      exact ⟨E', true, m2, m3, fun _ => p φ' H' _ x rh (.str _), fun z => by cases z⟩
    · rename_i e
      obtain ⟨D, E', m1, m2, m3⟩ := g.exm c d false e
      rw [ma] at m1
      cases m1
      exact ⟨E', false, m2, m3, (fun z => by cases z), fun _ => exm_post g r p φ' H' a x rh ma⟩
    · exact p.elim
theorem tMet_ev {X : Cx} {W : WX} {m : Nat} {b : Ex} {hs : List (Nat × Str)} {last : Str} (g : Glob S G C k X) (hm : C.ct.met m = some (hs, last)) (σ : St) (H : Hp) (Q : VK) (t : tEv G W (evE C (.met m b)) σ H Q) :
    LamX.tLam G.T (TMet X.K X.mg S.nm hs last) (fun E => tEv G (fun cls d _ H' => E cls d H') (evE C b)) σ H Q := by
  obtain ⟨φ, l, h, rh, rl, p⟩ := t
  unfold evE at p
  refine ⟨rh.tabs', fun H1 x t1 => ?_⟩
  obtain ⟨rh1, x1⟩ := rh.lam x t1
  refine ⟨φ, l, h, rh1, repL_ext rh x1 rl, ?_⟩
  unfold metF at p
  rw [hm] at p
  dsimp only at p
  cases z : evE C b l h with
  | ok d h' => rw [z] at p; exact fun φ' H' v x2 rh2 _ => p φ' H' _ (x1.trans x2) rh2 (.str _)
  | exc c fs h' =>
    rw [z] at p
    intro φ' H' cls dd x2 rh2 rx
    cases c <;> first | exact p.elim | skip
    rename_i c
    obtain ⟨⟨y, a, e1, e2, e3⟩ | ⟨n, e1, _⟩, _⟩ := rx
    · cases e1
      subst e3
      rw [g.mg, g.nm] at e2
      exact exm_post g hs p φ' H' a (x1.trans x2) rh2 e2
    · cases e1
  | stuck => rw [z] at p; exact p.elim
mutual
theorem soundE : ∀ (ir : Ex) {S : Sg} {X : Cx} {W : WX} {sc : Scope} {e : Expr}, Glob S G C k X → Scp sc.names X → Takes X W → chkE S X.N sc ir e = true → PE X e (tEv G W (evE C ir))
  | .loc i, S, X, W, sc, e, g, sp, tk, c => by
    simp only [chkE] at c
    split at c
    · simp only [Bool.and_eq_true, beq_iff_eq] at c
      have z := okNm_dbg c.2
      exact pe_imp (pe_var c.1.1 (sp.vis _ c.1.2) z.1 z.2.1) tVar_ev
    · cases c
  | .con d, S, X, W, sc, e, g, sp, tk, c => by
    simp only [chkE] at c
    split at c
    · obtain ⟨v, p, r⟩ := conIs_rep (G := G) (X := X) c
      exact pe_imp p (tC_ev r)
    · simp only [Bool.and_eq_true] at c
      have z := okNm_dbg c.1.2
      have gl := sp.gl _ c.1.1
      have c2 := c.2
      split at c2
      · rename_i e0 hl
        obtain ⟨u, v, e1, e2, e3⟩ := g.cst _ _ hl
        have := PV.same_eq _ _ c2
        subst this
        exact pe_imp (pe_glob gl e1 e2 z.1) (tC_ev e3)
      · split at c2
        · rename_i n
          simp only [Bool.and_eq_true, beq_iff_eq] at c2
          obtain ⟨⟨c3, c4⟩, c5⟩ := c2
          subst c4
          have b := ty_boot n c3
          exact pe_imp (pe_bltn (v := .ty n) gl (g.blt _ c5) b.1 rfl b.2.1 b.2.2) (tC_ev fun _ _ => .ty n)
        · rename_i k
          simp only [Bool.and_eq_true, beq_iff_eq] at c2
          obtain ⟨D, mD⟩ := g.cls _ c2.2
          rw [← c2.1] at mD
          exact pe_imp (pe_glob (v := .ref D) gl mD rfl z.1) (tC_ev fun _ _ => .gl (by rw [g.mg, g.nm, ← c2.1]; exact mD))
        · cases c2
    · cases c
  | .bin op a b, S, X, W, sc, e, g, sp, tk, c => by
    simp only [chkE] at c
    split at c
    · simp only [Bool.and_eq_true] at c
      exact pe_imp (pe_op (bop_ok g c.1.1) (soundE a g sp tk c.1.2) (soundE b g sp tk c.2)) fun σ H Q t => tOp_ev σ H Q (by rw [evE_bin] at t; exact t)
    · cases c
  | .neg a, S, X, W, sc, e, g, sp, tk, c => by
    simp only [chkE] at c
    split at c
    · exact pe_imp (pe_un un_neg (soundE a g sp tk c)) tNeg_ev
    · cases c
  | .not a, S, X, W, sc, e, g, sp, tk, c => by
    simp only [chkE] at c
    split at c
    · exact pe_imp (pe_notT (soundE a g sp tk c)) fun σ H Q t => by
        have := tNot_ev σ H Q t
        rw [g.K] at this; exact this
    · cases c
  | .cmp op a b, S, X, W, sc, e, g, sp, tk, c => by
    simp only [chkE] at c
    split at c
    · simp only [Bool.and_eq_true, Bool.not_eq_true'] at c
      exact pe_imp (pe_cmpR (cop_ok g c.1.1.1) (soundE a g sp tk c.1.2) (soundE b g sp tk c.2) c.1.1.2) fun σ H Q t => tOp_ev σ H Q (by rw [evE_cmp] at t; exact t)
    · cases c
  | .chn op p a b d, S, X, W, sc, e, g, sp, tk, c => by
    simp only [chkE] at c
    split at c
    · simp only [Bool.and_eq_true, Bool.not_eq_true'] at c
      exact pe_imp (pe_chain (cop_ok g c.1.1.1.1.1) (cop_ok g c.1.1.1.1.2) (soundE a g sp tk c.1.1.2) (soundE b g sp tk c.1.2) (soundE d g sp tk c.2) c.1.1.1.2) tChn_ev
    · cases c
  | .and a b, S, X, W, sc, e, g, sp, tk, c => by
    simp only [chkE] at c
    split at c
    · simp only [Bool.and_eq_true] at c
      exact pe_imp (pe_andT (soundE a g sp tk c.1) (pe_one (soundE b g sp tk c.2))) fun σ H Q t => by
        have := tAnd_ev σ H Q t
        rw [g.K] at this; exact this
    · simp only [Bool.and_eq_true] at c
      exact pe_imp (pe_andT (soundE a g sp tk c.1) (soundE b g sp tk c.2)) fun σ H Q t => by
        have := tAnd_ev σ H Q t
        rw [g.K] at this; exact this
    · cases c
  | .or a b, S, X, W, sc, e, g, sp, tk, c => by
    simp only [chkE] at c
    split at c
    · simp only [Bool.and_eq_true] at c
      exact pe_imp (pe_orT (soundE a g sp tk c.1) (pe_one (soundE b g sp tk c.2))) fun σ H Q t => by
        have := tOr_ev σ H Q t
        rw [g.K] at this; exact this
    · simp only [Bool.and_eq_true] at c
      exact pe_imp (pe_orT (soundE a g sp tk c.1) (soundE b g sp tk c.2)) fun σ H Q t => by
        have := tOr_ev σ H Q t
        rw [g.K] at this; exact this
    · cases c
  | .ite d a b, S, X, W, sc, e, g, sp, tk, c => by
    simp only [chkE] at c
    split at c
    · simp only [Bool.and_eq_true] at c
      exact pe_imp (pe_ifExp (soundT d g sp tk c.1.1) (soundE a g sp tk c.1.2) (soundE b g sp tk c.2)) tIte_ev
    · cases c
  | .tup es, S, X, W, sc, e, g, sp, tk, c => by
    simp only [chkE] at c
    split at c
    · exact pe_imp (pe_tup (soundA es g sp tk c)) tTup_ev
    · cases c
  | .lst z es, S, X, W, sc, e, g, sp, tk, c => by
    simp only [chkE] at c
    split at c
    · cases z with
      | false => exact pe_imp (pe_lst (soundA es g sp tk c)) tLst_ev
      | true => exact pe_imp (pe_frz (pe_lst (soundA es g sp tk c))) tLstF_ev
    · cases c
  | .call f es, S, X, W, sc, e, g, sp, tk, c => by
    simp only [chkE] at c
    split at c
    · simp only [Bool.and_eq_true, beq_iff_eq] at c
      obtain ⟨⟨⟨⟨⟨⟨⟨c1, c2⟩, c3⟩, c30⟩, cr⟩, c4⟩, cp⟩, c5⟩ := c
      subst c3
      obtain ⟨⟨ps, fd⟩, hf⟩ := Option.isSome_iff_exists.mp c4
      obtain ⟨a, fdt, e1, e2, e3, F⟩ := g.fns f ps fd hf c30
      have hgd : S.rp f = true → X.A.guards = some [] := fun z => g.gd (by rw [z] at cr; simpa using cr)
      have c6 := c5
      cases es with
      | nil => simp [chkA] at c6
      | star _ _ => simp [plainX] at cp
      | cons x xs =>
        simp only [chkA, Bool.and_eq_true] at c6
        exact pe_imp (pe_callZ F hgd (g.room.mono (Nat.le_succ _)) (sp.gl _ c1) e1 e2 e3 (fun σ => passAt tk σ) (soundA _ g sp tk c5) (okNm_dbg c2).1 (starEach_cons c6.1.1) (noStars (by simpa [plainX] using cp) c6.2).1) tCall_ev
    · cases c
  | .make d f es, S, X, W, sc, e, g, sp, tk, c => by
    simp only [chkE] at c
    split at c
    · simp only [Bool.and_eq_true, beq_iff_eq] at c
      obtain ⟨⟨⟨⟨⟨⟨⟨c1, c2⟩, c3⟩, c30⟩, cr⟩, c4⟩, cp⟩, c5⟩ := c
      subst c3
      obtain ⟨⟨ps, fd⟩, hf⟩ := Option.isSome_iff_exists.mp c4
      obtain ⟨D, a, fdt, e1, e2, e3, F0⟩ := g.mks d f ps fd hf c30
      have F := F0.fnOk (by simpa using cr)
      have c6 := c5
      cases es with
      | nil => simp [chkA] at c6
      | star _ _ => simp [plainX] at cp
      | cons x xs =>
        simp only [chkA, Bool.and_eq_true] at c6
        exact pe_imp (pe_make (E := fun _ _ _ => False) e2 F g.room (sp.gl _ c1) e1 e3 .nil pass_no (soundA _ g sp tk c5) (okNm_dbg c2).1 (starEach_cons c6.1.1) (noStars (by simpa [plainX] using cp) c6.2).1) (tMake_ev g e1)
    · cases c
  | .blt b es, S, X, W, sc, e, g, sp, tk, c => by
    simp only [chkE] at c
    split at c
    · simp only [Bool.and_eq_true, beq_iff_eq] at c
      obtain ⟨⟨⟨⟨⟨c1, c2⟩, cr⟩, c3⟩, cp⟩, c5⟩ := c
      subst c2
      have hgr : b = .reprc → X.A.guards = some [] := fun z => g.gd (by rw [z] at cr; simpa using cr)
      have c6 := c5
      cases es with
      | nil => simp [chkA] at c6
      | star _ _ => simp [plainX] at cp
      | cons x xs =>
        simp only [chkA, Bool.and_eq_true] at c6
        have nm := bi_nm b
        have cz := call_Z g.K g.w g.calm g.room.units b hgr
        rcases bi_boot b with ⟨id, e1, e2⟩ | ⟨T, e1, e2⟩
        · rw [e2] at cz
          exact pe_imp (pe_callB cz (sp.gl _ c1) (g.blt _ c3) e1 (soundA _ g sp tk c5) nm.1 nm.2 (starEach_cons c6.1.1) (noStars (by simpa [plainX] using cp) c6.2).1) tBlt_ev
        · rw [e2] at cz
          exact pe_imp (pe_callTy cz (sp.gl _ c1) (g.blt _ c3) e1 (soundA _ g sp tk c5) nm.1 nm.2 (starEach_cons c6.1.1) (noStars (by simpa [plainX] using cp) c6.2).1) tBlt_ev
    · cases c
  | .meth m o es, S, X, W, sc, e, g, sp, tk, c => by
    simp only [chkE] at c
    split at c
    · simp only [Bool.and_eq_true, decide_eq_true_eq] at c
      obtain ⟨⟨⟨⟨⟨⟨c1, c2⟩, c3⟩, c4⟩, c5⟩, cp⟩, c6⟩ := c
      have c7 := c6
      cases es with
      | nil => simp [chkA] at c7
      | star _ _ => simp [plainX] at cp
      | cons x xs =>
        simp only [chkA, Bool.and_eq_true] at c7
        cases m with
        | append =>
          have e1 := beq_iff_eq.mp c1
          subst e1
          exact pe_imp (pe_bm PySem.F.plainAttrs_list PySem.F.slot_list_append PySem.F.type_list_append mt_app (soundE o g sp tk c5) (soundA _ g sp tk c6) (noSuper_base c2) (by simp only [Bool.and_eq_true, decide_eq_true_eq]; exact ⟨⟨(noStars cp c6).2, rfl⟩, c4⟩) c3 (starEach_cons c7.1.1) (noStars (by simpa [plainX] using cp) c7.2).1) tMeth_ev
        | pop =>
          have e1 := beq_iff_eq.mp c1
          subst e1
          exact pe_imp (pe_bm PySem.F.plainAttrs_list PySem.F.slot_list_pop PySem.F.type_list_pop mt_popiZ (soundE o g sp tk c5) (soundA _ g sp tk c6) (noSuper_base c2) (by simp only [Bool.and_eq_true, decide_eq_true_eq]; exact ⟨⟨(noStars cp c6).2, rfl⟩, c4⟩) c3 (starEach_cons c7.1.1) (noStars (by simpa [plainX] using cp) c7.2).1) tMeth_ev
        | extend =>
          have e1 := beq_iff_eq.mp c1
          subst e1
          exact pe_imp (pe_bm PySem.F.plainAttrs_list PySem.F.slot_list_extend PySem.F.type_list_extend mt_ext (soundE o g sp tk c5) (soundA _ g sp tk c6) (noSuper_base c2) (by simp only [Bool.and_eq_true, decide_eq_true_eq]; exact ⟨⟨(noStars cp c6).2, rfl⟩, c4⟩) c3 (starEach_cons c7.1.1) (noStars (by simpa [plainX] using cp) c7.2).1) tMeth_ev
    · cases c
  | .sub o i, S, X, W, sc, e, g, sp, tk, c => by
    simp only [chkE] at c
    split at c
    · simp only [Bool.and_eq_true] at c
      exact pe_imp (pe_ix (ix_subZ g.K g.P g.w g.room.units) (soundE o g sp tk c.1.2) (soundE i g sp tk c.2) (noSlice_plain c.1.1)) fun σ H Q t => tOp_ev σ H Q (by rw [evE_sub] at t; exact t)
    · cases c
  | .slc o lo hi, S, X, W, sc, e, g, sp, tk, c => by
    simp only [chkE] at c
    split at c
    · simp only [Bool.and_eq_true] at c
      exact pe_imp (pe_slice (sl_Z g.K) (soundE o g sp tk c.1.1) (soundO lo g sp tk c.1.2) (soundO hi g sp tk c.2)) tSlc_ev
    · cases c
  | .attr o f, S, X, W, sc, e, g, sp, tk, c => by
    simp only [chkE] at c
    split at c
    · simp only [Bool.and_eq_true, beq_iff_eq] at c
      obtain ⟨⟨c1, c2⟩, c3⟩ := c
      subst c1
      exact pe_imp (pe_attrZ g (soundE o g sp tk c3) (noSuper_base c2)) fun σ H Q t => by rw [evE_attr] at t; exact t
    · cases c
  | .lc z elt tg it ifs own, S, X, W, sc, e, g, sp, tk, c => by
    simp only [chkE] at c
    split at c
    · simp only [Bool.and_eq_true, beq_iff_eq] at c
      obtain ⟨⟨⟨⟨⟨⟨⟨c1, c2⟩, c3⟩, c4⟩, c5⟩, c6⟩, c7⟩, c8⟩ := c
      have ok0 := blkOk_by c2
      have ok : BlkOk X.N X.env.scope _ (ownOf X.N own) := ⟨ok0.kind, ok0.uniq, ok0.ix, fun y hy e => sp.cf y.1 (ok0.free y hy e), ok0.own⟩
      have gB := fun (s : Shared) (H : Hp) (A : Addr) (cl : List (Str × Addr)) (fp : List Addr) => g.blk (s := s) (H := H) (cl := cl) (A := A) (fp := fp) ok.kind
      have hs : ∀ i, i ∈ slotsT tg → i ∈ own := fun i hi => by
        have := List.all_eq_true.mp c5 i hi
        simpa using this
      refine pe_imp (t := fun σ H Q => tLc (iEv G W (evI C it)) (gEv G tg) (tEvT G W0 (evT1 C ifs)) (tEv G W0 (evE C elt)) own σ H (zQ z Q)) ?_ fun σ H Q t => tLc_ev hs σ H Q _ (fun _ _ q => q) (by rw [evE_lc] at t; exact t)
      rw [← c3]
      refine pe_zQ (pe_lc g.calm g.nd (soundI it g sp tk c1) ok (fun s H A cl fp => soundG tg g.K g.nd g.calm .blk c4) (fun s H A cl fp => ?_) (fun s H A cl fp => soundE elt (gB s H A cl fp) .blk takes0 c8) (foldedSet c6))
      split at c7
      · split at c7
        · refine ⟨fun pins s σ H Q I q => pts_nil.run pins s σ H Q I ?_⟩
          obtain ⟨φ, l, h, rh, rl, p⟩ := q
          unfold evT1 at p
          exact p φ H .refl rh
        · cases c7
      · simp only [Bool.and_eq_true] at c7
        cases ifs with
        | no => simp at c7
        | yes cd =>
          simp only [chkOp] at c7
          have := pts_one (soundT cd (gB s H A cl fp) .blk (takes0 (X := X.blk s H _ (compEnvC _ cl A X.env) fp)) c7.2)
          refine ⟨fun pins s σ H Q I q => this.run pins s σ H Q I ?_⟩
          obtain ⟨φ, l, h, rh, rl, p⟩ := q
          unfold evT1 at p
          exact ⟨φ, l, h, rh, rl, p⟩
      · cases c7
    · cases c
  | .dic0 z, S, X, W, sc, e, g, sp, tk, c => by
    simp only [chkE] at c
    split at c
    · cases z with
      | false =>
        refine pe_imp pe_dnewK fun σ H Q t => ?_
        obtain ⟨φ, l, h, rh, rl, p⟩ := t
        unfold evE at p
        exact new_dic rh p
      | true =>
        refine pe_imp (pe_frz pe_dnewK) fun σ H Q t => ?_
        obtain ⟨φ, l, h, rh, rl, p⟩ := t
        unfold evE at p
        exact fun q hq => ⟨q, _, rfl, upd_same, trivial, new_fd rh p q hq⟩
    · cases c
  | .met m b, S, X, W, sc, e, g, sp, tk, c => by
    simp only [chkE] at c
    split at c
    · rename_i x p1 b' sc' p2 p3
      simp only [Bool.and_eq_true, beq_iff_eq] at c
      obtain ⟨⟨⟨⟨⟨⟨c1, c2⟩, c3⟩, c4⟩, c5⟩, c6⟩, c7⟩ := c
      subst c3
      obtain ⟨hs, last, gg, fdt, st, a, Ng, m1, m2, F, m4, m5, m6, m7⟩ := g.met m c4
      obtain ⟨oc, od, dV, kV, doc, pm, an, cdv, ct, osl, rfl, lk, hcd, _, _⟩ := F.ex
      obtain ⟨rm, cc, P, l1, l2, l3, l4⟩ := g.lam c5
      have L : LamX.LamS X.env.scope sc' := lamS_sp sp (LamX.lamS_by c6)
      have n0 : Ng[0]? = some a := by
        have := m5.pre
        cases Ng with
        | nil => simp at this
        | cons y r => simpa using this
      have va : Vis (defScope st) a := (m5.par a List.mem_cons_self).elim .inl fun z => .inr (.inl z)
      have da := metB_nm m6
      exact pe_imp (LamX.pe_lamcall (k := k + 1) (sp.gl _ c1) m2 F.kp lk hcd m4 m5 n0 va (met_gives m5.nd m7 m6 (fun f => by rw [start0 n0])) l2 l1 l3 l4 rm L rfl (fun _ _ _ _ _ => rfl)
        (fun A outer s H E f c' hr => soundE b (g.lamC L.kind hr) (.lamC L) (takes_of rfl rfl rfl rfl) c7) (okNm_dbg c2).1 da.1 da.2.1) (tMet_ev g m1)
    · cases c
  | .pop o, S, X, W, sc, e, g, sp, tk, c => by
    simp only [chkE] at c
    split at c
    · simp only [Bool.and_eq_true, beq_iff_eq] at c
      obtain ⟨⟨⟨c1, c2⟩, c3⟩, c4⟩ := c
      subst c1
      exact pe_imp (pe_bm0 PySem.F.plainAttrs_list PySem.F.slot_list_pop PySem.F.type_list_pop mt_popZ (soundE o g sp tk c4) (noSuper_base c2) (by simpa using c3)) tPop_ev
    · cases c
  | .rev z o, S, X, W, sc, e, g, sp, tk, c => by
    simp only [chkE] at c
    split at c
    · exact pe_imp (pe_zQ (z := z) (pe_revL (soundE o g sp tk c))) fun σ H Q t => by
        have := tRev_ev σ H Q t
        rw [g.K] at this
        exact this
    · cases c
  | .mcl m o es, S, X, W, sc, e, g, sp, tk, c => by
    simp only [chkE] at c
    split at c
    · simp only [Bool.and_eq_true, decide_eq_true_eq, beq_iff_eq] at c
      obtain ⟨⟨⟨⟨⟨⟨c1, c2⟩, c3⟩, c4⟩, c5⟩, cp⟩, c6⟩ := c
      subst c1
      have c7 := c6
      cases es with
      | nil => simp [chkA] at c7
      | star _ _ => simp [plainX] at cp
      | cons x xs =>
        simp only [chkA, Bool.and_eq_true] at c7
        exact pe_imp (pe_mthZ (sp := fun f => spF G (C.call f)) (n := k) (soundE o g sp tk c5) (g.room.mono (Nat.le_succ _)) (fun σ => passAt tk σ) (soundA _ g sp tk c6) (noSuper_base c2) (by simp only [Bool.and_eq_true, decide_eq_true_eq]; exact ⟨⟨(noStars cp c6).2, rfl⟩, c4⟩) (by simpa using c3) (starEach_cons c7.1.1) (noStars (by simpa [plainX] using cp) c7.2).1) (tMcl_ev g)
    · cases c
  | .mc0 m o, S, X, W, sc, e, g, sp, tk, c => by
    simp only [chkE] at c
    split at c
    · simp only [Bool.and_eq_true, beq_iff_eq] at c
      obtain ⟨⟨⟨c1, c2⟩, c3⟩, c4⟩ := c
      subst c1
      exact pe_imp (pe_mth0Z (sp := fun f => spF G (C.call f)) (n := k) (soundE o g sp tk c4) (g.room.mono (Nat.le_succ _)) (fun σ => passAt tk σ) (noSuper_base c2) (by simpa using c3)) (tMc0_ev g)
    · cases c
  | .isi es, S, X, W, sc, e, g, sp, tk, c => by
    simp only [chkE] at c
    split at c
    · simp only [Bool.and_eq_true, beq_iff_eq] at c
      obtain ⟨⟨⟨⟨c1, c2⟩, c3⟩, cp⟩, c5⟩ := c
      subst c2
      have c6 := c5
      cases es with
      | nil => simp [chkA] at c6
      | star _ _ => simp [plainX] at cp
      | cons x xs =>
        simp only [chkA, Bool.and_eq_true] at c6
        exact pe_imp (pe_callB (call_isiZ g) (sp.gl _ c1) (g.blt _ c3) (by decide) (soundA _ g sp tk c5) (by decide) (by decide) (starEach_cons c6.1.1) (noStars (by simpa [plainX] using cp) c6.2).1) tIsi_ev
    · cases c
  | .oeq ne a b, S, X, W, sc, e, g, sp, tk, c => by
    simp only [chkE] at c
    split at c
    · simp only [Bool.and_eq_true, Bool.not_eq_true'] at c
      cases ne with
      | false =>
        have e1 := c.1.1.1
        simp only [Bool.false_eq_true, if_false] at e1
        rename_i a' op' b' pos
        cases op' <;> first | (simp [copIs] at e1; done) | skip
        exact pe_imp (pe_cmpR (op_oeq g) (soundE a g sp tk c.1.2) (soundE b g sp tk c.2) c.1.1.2) tOeq_ev
      | true =>
        have e1 := c.1.1.1
        simp only [if_true] at e1
        rename_i a' op' b' pos
        cases op' <;> first | (simp [copIs] at e1; done) | skip
        exact pe_imp (pe_cmpR (op_one g) (soundE a g sp tk c.1.2) (soundE b g sp tk c.2) c.1.1.2) tOeq_ev
    · cases c
  | .cmt d m es, S, X, W, sc, e, g, sp, tk, c => by
    simp only [chkE] at c
    split at c
    · simp only [Bool.and_eq_true, decide_eq_true_eq, beq_iff_eq] at c
      obtain ⟨⟨⟨⟨⟨⟨⟨c1, c2⟩, c3⟩, c4⟩, c5⟩, c6⟩, cp⟩, c7⟩ := c
      subst c3; subst c4
      have c8 := c7
      cases hc : C.ct.cmt d m with
      | none => exact ⟨fun pins s σ H Q I t => by
          obtain ⟨φ, l, h, rh, rl, p⟩ := t
          unfold evE at p
          rw [hc] at p
          exact p.elim⟩
      | some f =>
        obtain ⟨ps, fd, D, mc, pp, a, fdt, m0, m1, m2, m3, m4, m5⟩ := g.cms d m f hc
        cases es with
        | nil => simp [chkA] at c8
        | star _ _ => simp [plainX] at cp
        | cons x xs =>
          simp only [chkA, Bool.and_eq_true] at c8
          exact pe_imp (pe_cmtZ (E := WE W) (sp.gl _ c1) m1 (okNm_dbg c2).1 m2 m3 m5 m4 (g.room.mono (Nat.le_succ _)) (fun σ => passAt tk σ) (soundA _ g sp tk c7) (noSuper_base rfl) (by simp only [Bool.and_eq_true, decide_eq_true_eq]; exact ⟨⟨(noStars cp c7).2, rfl⟩, c6⟩) (by simpa using c5) (starEach_cons c8.1.1) (noStars (by simpa [plainX] using cp) c8.2).1) (tCmt_ev hc (by rw [g.mg, g.nm]; exact m1))
    · cases c
  | .mkl i d f es, S, X, W, sc, e, g, sp, tk, c => by
    simp only [chkE] at c
    split at c
    · simp only [Bool.and_eq_true, beq_iff_eq] at c
      obtain ⟨⟨⟨⟨⟨⟨⟨c1, c2⟩, c3⟩, c30⟩, cr⟩, c4⟩, cp⟩, c5⟩ := c
      obtain ⟨⟨ps, fd⟩, hf⟩ := Option.isSome_iff_exists.mp c4
      obtain ⟨D, a, fdt, e1, e2, e3, F0⟩ := g.mks d f ps fd hf c30
      have F := F0.fnOk (by simpa using cr)
      have z := okNm_dbg c3
      have c6 := c5
      cases es with
      | nil => simp [chkA] at c6
      | star _ _ => simp [plainX] at cp
      | cons x xs =>
        simp only [chkA, Bool.and_eq_true] at c6
        exact pe_imp (pe_mkl (i := i) e2 F g.room c1 (sp.vis _ c2) e3 (soundA _ g sp tk c5) z.1 z.2.1 (starEach_cons c6.1.1) (noStars (by simpa [plainX] using cp) c6.2).1) (tMkl_ev g e1)
    · cases c
theorem soundT : ∀ (ir : Ex) {S : Sg} {X : Cx} {W : WX} {sc : Scope} {e : Expr}, Glob S G C k X → Scp sc.names X → Takes X W → chkE S X.N sc ir e = true → PT X e (tEvT G W fun l h => truthR (evE C ir l h))
  | .not a, S, X, W, sc, e, g, sp, tk, c => by
    simp only [chkE] at c
    split at c
    · exact pt_imp (pt_not (soundT a g sp tk c)) ttNot_ev
    · cases c
  | .cmp op a b, S, X, W, sc, e, g, sp, tk, c => by
    simp only [chkE] at c
    split at c
    · simp only [Bool.and_eq_true, Bool.not_eq_true'] at c
      refine pt_imp (pt_cmpR (cop_ok g c.1.1.1) (soundE a g sp tk c.1.2) (soundE b g sp tk c.2) c.1.1.2) fun σ H Q t => ?_
      have z := tTest_ev (f := evE C (.cmp op a b)) (fun l h d h' e => cmp_bl l h d h' (by unfold evE at e; exact e)) σ H Q t
      exact tOp_ev (W := W) (F := cmpF op) σ H _ (by rw [evE_cmp] at z; exact z)
    · cases c
  | .chn op p a b d, S, X, W, sc, e, g, sp, tk, c => by
    simp only [chkE] at c
    split at c
    · simp only [Bool.and_eq_true, Bool.not_eq_true'] at c
      refine pt_imp (pt_chain (cop_ok g c.1.1.1.1.1) (cop_ok g c.1.1.1.1.2) (soundE a g sp tk c.1.1.2) (soundE b g sp tk c.1.2) (soundE d g sp tk c.2) c.1.1.1.2) fun σ H Q t => ?_
      exact tChn_ev σ H _ (tTest_ev chn_bl σ H Q t)
    · cases c
  | .and a b, S, X, W, sc, e, g, sp, tk, c => by
    simp only [chkE] at c
    split at c
    · simp only [Bool.and_eq_true] at c
      exact pt_imp (pw_and (soundT a g sp tk c.1) (pw_and1 (soundT b g sp tk c.2))).pt ttAnd_ev
    · simp only [Bool.and_eq_true] at c
      exact pt_imp (pw_and (soundT a g sp tk c.1) (pw_of_pt (soundT b g sp tk c.2))).pt ttAnd_ev
    · cases c
  | .or a b, S, X, W, sc, e, g, sp, tk, c => by
    simp only [chkE] at c
    split at c
    · simp only [Bool.and_eq_true] at c
      exact pt_imp (pw_or (soundT a g sp tk c.1) (pw_or1 (soundT b g sp tk c.2))).pt ttOr_ev
    · simp only [Bool.and_eq_true] at c
      exact pt_imp (pw_or (soundT a g sp tk c.1) (pw_of_pt (soundT b g sp tk c.2))).pt ttOr_ev
    · cases c
  | .ite d a b, S, X, W, sc, e, g, sp, tk, c => by
    simp only [chkE] at c
    split at c
    · simp only [Bool.and_eq_true] at c
      exact pt_imp (pt_ifExp (soundT d g sp tk c.1.1) (soundT a g sp tk c.1.2) (soundT b g sp tk c.2)) ttIte_ev
    · cases c
  | .loc i, S, X, W, sc, e, g, sp, tk, c => by
    have h := soundE (.loc i) g sp tk c
    simp only [chkE] at c
    split at c
    · exact pt_pl g.K h rfl
    · cases c
  | .con d, S, X, W, sc, e, g, sp, tk, c => by
    have h := soundE (.con d) g sp tk c
    simp only [chkE] at c
    split at c
    · exact pt_pl g.K h rfl
    · exact pt_pl g.K h rfl
    · cases c
  | .bin op a b, S, X, W, sc, e, g, sp, tk, c => by
    have h := soundE (.bin op a b) g sp tk c
    simp only [chkE] at c
    split at c
    · exact pt_pl g.K h rfl
    · cases c
  | .neg a, S, X, W, sc, e, g, sp, tk, c => by
    have h := soundE (.neg a) g sp tk c
    simp only [chkE] at c
    split at c
    · exact pt_pl g.K h rfl
    · cases c
  | .tup es, S, X, W, sc, e, g, sp, tk, c => by
    have h := soundE (.tup es) g sp tk c
    simp only [chkE] at c
    split at c
    · exact pt_pl g.K h rfl
    · cases c
  | .lst z es, S, X, W, sc, e, g, sp, tk, c => by
    have h := soundE (.lst z es) g sp tk c
    simp only [chkE] at c
    split at c
    · exact pt_pl g.K h rfl
    · cases c
  | .call f es, S, X, W, sc, e, g, sp, tk, c => by
    have h := soundE (.call f es) g sp tk c
    simp only [chkE] at c
    split at c
    · exact pt_pl g.K h rfl
    · cases c
  | .make d f es, S, X, W, sc, e, g, sp, tk, c => by
    have h := soundE (.make d f es) g sp tk c
    simp only [chkE] at c
    split at c
    · exact pt_pl g.K h rfl
    · cases c
  | .blt b es, S, X, W, sc, e, g, sp, tk, c => by
    have h := soundE (.blt b es) g sp tk c
    simp only [chkE] at c
    split at c
    · exact pt_pl g.K h rfl
    · cases c
  | .meth m o es, S, X, W, sc, e, g, sp, tk, c => by
    have h := soundE (.meth m o es) g sp tk c
    simp only [chkE] at c
    split at c
    · exact pt_pl g.K h rfl
    · cases c
  | .sub o i, S, X, W, sc, e, g, sp, tk, c => by
    have h := soundE (.sub o i) g sp tk c
    simp only [chkE] at c
    split at c
    · exact pt_pl g.K h rfl
    · cases c
  | .slc o lo hi, S, X, W, sc, e, g, sp, tk, c => by
    have h := soundE (.slc o lo hi) g sp tk c
    simp only [chkE] at c
    split at c
    · exact pt_pl g.K h rfl
    · cases c
  | .attr o f, S, X, W, sc, e, g, sp, tk, c => by
    have h := soundE (.attr o f) g sp tk c
    simp only [chkE] at c
    split at c
    · exact pt_pl g.K h rfl
    · cases c
  | .met m b, S, X, W, sc, e, g, sp, tk, c => by
    have h := soundE (.met m b) g sp tk c
    simp only [chkE] at c
    split at c
    · exact pt_pl g.K h rfl
    · cases c
  | .lc z elt tg it ifs own, S, X, W, sc, e, g, sp, tk, c => by
    have h := soundE (.lc z elt tg it ifs own) g sp tk c
    simp only [chkE] at c
    split at c
    · exact pt_pl g.K h rfl
    · cases c
  | .dic0 z, S, X, W, sc, e, g, sp, tk, c => by
    have h := soundE (.dic0 z) g sp tk c
    simp only [chkE] at c
    split at c
    · exact pt_pl g.K h rfl
    · cases c
  | .pop o, S, X, W, sc, e, g, sp, tk, c => by
    have h := soundE (.pop o) g sp tk c
    simp only [chkE] at c
    split at c
    · exact pt_pl g.K h rfl
    · cases c
  | .rev z o, S, X, W, sc, e, g, sp, tk, c => by
    have h := soundE (.rev z o) g sp tk c
    simp only [chkE] at c
    split at c
    · exact pt_pl g.K h rfl
    · cases c
  | .mcl m o es, S, X, W, sc, e, g, sp, tk, c => by
    have h := soundE (.mcl m o es) g sp tk c
    simp only [chkE] at c
    split at c
    · exact pt_pl g.K h rfl
    · cases c
  | .mc0 m o, S, X, W, sc, e, g, sp, tk, c => by
    have h := soundE (.mc0 m o) g sp tk c
    simp only [chkE] at c
    split at c
    · exact pt_pl g.K h rfl
    · cases c
  | .isi es, S, X, W, sc, e, g, sp, tk, c => by
    have h := soundE (.isi es) g sp tk c
    simp only [chkE] at c
    split at c
    · exact pt_pl g.K h rfl
    · cases c
  | .oeq ne a b, S, X, W, sc, e, g, sp, tk, c => by
    simp only [chkE] at c
    split at c
    · simp only [Bool.and_eq_true, Bool.not_eq_true'] at c
      cases ne with
      | false =>
        have e1 := c.1.1.1
        simp only [Bool.false_eq_true, if_false] at e1
        rename_i a' op' b' pos
        cases op' <;> first | (simp [copIs] at e1; done) | skip
        exact pt_imp (pt_cmpR (op_oeq g) (soundE a g sp tk c.1.2) (soundE b g sp tk c.2) c.1.1.2) fun σ H Q t => tOeq_ev σ H _ (tTest_ev oeq_bl σ H Q t)
      | true =>
        have e1 := c.1.1.1
        simp only [if_true] at e1
        rename_i a' op' b' pos
        cases op' <;> first | (simp [copIs] at e1; done) | skip
        exact pt_imp (pt_cmpR (op_one g) (soundE a g sp tk c.1.2) (soundE b g sp tk c.2) c.1.1.2) fun σ H Q t => tOeq_ev σ H _ (tTest_ev oeq_bl σ H Q t)
    · cases c
  | .cmt d m es, S, X, W, sc, e, g, sp, tk, c => by
    have h := soundE (.cmt d m es) g sp tk c
    simp only [chkE] at c
    split at c
    · exact pt_pl g.K h rfl
    · cases c
  | .mkl i d f es, S, X, W, sc, e, g, sp, tk, c => by
    have h := soundE (.mkl i d f es) g sp tk c
    simp only [chkE] at c
    split at c
    · exact pt_pl g.K h rfl
    · cases c
theorem soundA : ∀ (ir : Exs) {S : Sg} {X : Cx} {W : WX} {sc : Scope} {es : List Expr}, Glob S G C k X → Scp sc.names X → Takes X W → chkA S X.N sc ir es = true → PA X es (tEvA G W (evA C ir))
  | .nil, S, X, W, sc, es, g, sp, tk, c => by
    cases es with
    | cons _ _ => simp [chkA] at c
    | nil => exact pa_imp pa_nil fun σ H Q t => tNil_ev (G := G) (W := W) σ H Q (by rw [evA_nil] at t; exact t)
  | .cons e r, S, X, W, sc, es, g, sp, tk, c => by
    cases es with
    | nil => simp [chkA] at c
    | cons x xs =>
      simp only [chkA, Bool.and_eq_true] at c
      exact pa_imp (pa_cons (soundE e g sp tk c.1.2) (soundA r g sp tk c.2) (starEach_cons c.1.1)) fun σ H Q t => tCons_ev σ H Q (by rw [evA_cons] at t; exact t)
  | .star e r, S, X, W, sc, es, g, sp, tk, c => by
    simp only [chkA] at c
    split at c
    · simp only [Bool.and_eq_true] at c
      exact pa_imp (StX.pa_star (soundE e g sp tk c.1) (soundA r g sp tk c.2) rfl) fun σ H Q t => by
        have := tStar_ev (e := e) (r := r) σ H Q t
        rw [g.K] at this; exact this
    · cases c
theorem soundO : ∀ (ir : Op) {S : Sg} {X : Cx} {W : WX} {sc : Scope} {o : Option Expr}, Glob S G C k X → Scp sc.names X → Takes X W → chkOp S X.N sc ir o = true → PO X o (tEvO G W (evOp C ir))
  | .no, S, X, W, sc, o, g, sp, tk, c => by
    cases o with
    | some _ => simp [chkOp] at c
    | none => exact ⟨fun pins s σ H Q I q => po_none.run pins s σ H Q I (tNoPart_ev σ H Q q)⟩
  | .yes e, S, X, W, sc, o, g, sp, tk, c => by
    cases o with
    | none => simp [chkOp] at c
    | some x =>
      simp only [chkOp] at c
      exact ⟨fun pins s σ H Q I q => (po_some (soundE e g sp tk c)).run pins s σ H Q I (tPart_ev σ H Q q)⟩
theorem soundI : ∀ (ir : Itr) {S : Sg} {X : Cx} {W : WX} {sc : Scope} {tg e : Expr}, Glob S G C k X → Scp sc.names X → Takes X W → chkI S X.N sc ir tg e = true → PI X tg e (iEv G W (evI C ir))
  | .val v, S, X, W, sc, tg, e, g, sp, tk, c => by
    simp only [chkI] at c
    have h := pi_valZ (tg := tg) g.K (soundE v g sp tk c)
    exact ⟨fun pins s σ H R' I q => h.run pins s σ H R' I (by rw [evI_val] at q; exact q)⟩
  | .rng1 v, S, X, W, sc, tg, e, g, sp, tk, c => by
    simp only [chkI] at c
    split at c
    · simp only [Bool.and_eq_true, beq_iff_eq] at c
      obtain ⟨⟨⟨⟨c1, c2⟩, c3⟩, c4⟩, c5⟩ := c
      subst c2
      rename_i _ p1 _ p2
      have h := pi_range1 (tg := tg) (p := p1) (pos := p2) (sp.gl _ c1) (g.blt _ c3) (pa_cons (soundE v g sp tk c5) (pa_imp pa_nil (tNil_ev (G := G) (W := W))) (starEach_cons c4)) (starEach_cons c4)
      exact ⟨fun pins s σ H R' I q => h.run pins s σ H R' I (by
        obtain ⟨φ, l, h0, rh, rl, p⟩ := iRng1_ev σ H R' q
        exact tCons_ev σ H _ ⟨φ, l, h0, rh, rl, p⟩)⟩
    · cases c
  | .rng2 a b, S, X, W, sc, tg, e, g, sp, tk, c => by
    simp only [chkI] at c
    split at c
    · simp only [Bool.and_eq_true, beq_iff_eq] at c
      obtain ⟨⟨⟨⟨⟨⟨c1, c2⟩, c3⟩, c4⟩, c5⟩, c6⟩, c7⟩ := c
      subst c2
      have pn := pa_cons (soundE b g sp tk c7) (pa_imp pa_nil (tNil_ev (G := G) (W := W))) (starEach_cons c5)
      have pn2 := pa_imp pn (t' := tEvA G W (evCons (evE C b) evNil)) (fun σ H Q t => tCons_ev σ H Q t)
      rename_i _ p1 _ _ p2
      have h := pi_range2 (tg := tg) (p := p1) (pos := p2) (sp.gl _ c1) (g.blt _ c3) (pa_cons (soundE a g sp tk c6) pn2 (starEach_cons c4)) (by rw [starEach_cons c4, starEach_cons c5]; rfl) (starEach_cons c5)
      exact ⟨fun pins s σ H R' I q => h.run pins s σ H R' I (by
        obtain ⟨φ, l, h0, rh, rl, p⟩ := iRng2_ev σ H R' q
        exact tCons_ev σ H _ ⟨φ, l, h0, rh, rl, p⟩)⟩
    · cases c
  | .enm v, S, X, W, sc, tg, e, g, sp, tk, c => by
    simp only [chkI] at c
    split at c
    · split at c
      · simp only [Bool.and_eq_true, beq_iff_eq] at c
        obtain ⟨⟨⟨⟨c1, c2⟩, c3⟩, c4⟩, c5⟩ := c
        subst c2
        rename_i elts kk tpos _ p1 _ p2
        have h := pi_enumA (p := p1) (pos := p2) (tpos := tpos) (elts := elts) (kk := kk) (sp.gl _ c1) (g.blt _ c3) (pa_cons (soundE v g sp tk c5) (pa_imp pa_nil (tNil_ev (G := G) (W := W))) (starEach_cons c4)) (starEach_cons c4)
        exact ⟨fun pins s σ H R' I q => h.run pins s σ H R' I (by
          obtain ⟨φ, l, h0, rh, rl, p⟩ := iEnm_ev σ H R' q
          rw [g.K] at p
          exact tCons_ev σ H _ ⟨φ, l, h0, rh, rl, p⟩)⟩
      · cases c
    · cases c
  | .zp a b, S, X, W, sc, tg, e, g, sp, tk, c => by
    simp only [chkI] at c
    split at c
    · split at c
      · simp only [Bool.and_eq_true, beq_iff_eq] at c
        obtain ⟨⟨⟨⟨⟨⟨c1, c2⟩, c3⟩, c4⟩, c5⟩, c6⟩, c7⟩ := c
        subst c2
        have pn := pa_cons (soundE b g sp tk c7) (pa_imp pa_nil (tNil_ev (G := G) (W := W))) (starEach_cons c5)
        have pn2 := pa_imp pn (t' := tEvA G W (evCons (evE C b) evNil)) (fun σ H Q t => tCons_ev σ H Q t)
        rename_i elts kk tpos _ p1 _ _ p2
        have h := RZ.pi_zipA (p := p1) (pos := p2) (tpos := tpos) (elts := elts) (kk := kk) (sp.gl _ c1) (g.blt _ c3) (pa_cons (soundE a g sp tk c6) pn2 (starEach_cons c4)) (by rw [starEach_cons c4]) (by rw [starEach_cons c5]; rfl)
        exact ⟨fun pins s σ H R' I q => h.run pins s σ H R' I (by
          obtain ⟨φ, l, h0, rh, rl, p⟩ := iZip_ev σ H R' q
          rw [g.K] at p
          exact tCons_ev σ H _ ⟨φ, l, h0, rh, rl, p⟩)⟩
      · cases c
    · cases c
end
end
end Zed
end
section
set_option Elab.async false
set_option linter.all false
set_option maxRecDepth 100000
set_option maxHeartbeats 4000000
namespace Zed
open PySem L2
section
variable {S : Sg} {G : Gc} {C : Orc} {k : Nat} {φ φ' : List Addr} {h h' : PHeap} {H H' : Hp} {l : Loc} {σ : St}
def PostS (G : Gc) (φ : List Addr) (H : Hp) (r : RS) (D : Ends) (W : WX) : Prop :=
  match r with
  | .nx l' h' => ∀ φ' H' σ', Ext φ H φ' H' → RelH G φ' h' H' → RepL G φ' H' l' σ' → D.nx σ' H'
  | .rt d h' => ∀ φ' H' v, Ext φ H φ' H' → RelH G φ' h' H' → RepV G φ' H' d v → D.rt v H'
  | .bk l' h' => ∀ φ' H' σ', Ext φ H φ' H' → RelH G φ' h' H' → RepL G φ' H' l' σ' → D.bk σ' H'
  | .ct l' h' => ∀ φ' H' σ', Ext φ H φ' H' → RelH G φ' h' H' → RepL G φ' H' l' σ' → D.ct σ' H'
  | .exc c fs l' h' => ∀ φ' H' σ' cls dd, Ext φ H φ' H' → RelH G φ' h' H' → RepL G φ' H' l' σ' → RepX G φ' H' c fs cls dd → W cls dd σ' H'
  | .stuck => False
def tEvS (G : Gc) (W : WX) (f : Loc → PHeap → RS) : TS := fun D σ H => ∃ φ l h, RelH G φ h H ∧ RepL G φ H l σ ∧ PostS G φ H (f l h) D W
theorem PostS.ext {φ1 : List Addr} {H1 : Hp} {r : RS} {D : Ends} {W : WX} (x : Ext φ H φ1 H1) (p : PostS G φ H r D W) : PostS G φ1 H1 r D W := by
  cases r with
  | nx l' h' => exact fun φ' H' v x1 rh rv => p φ' H' v (x.trans x1) rh rv
  | rt l' h' => exact fun φ' H' v x1 rh rv => p φ' H' v (x.trans x1) rh rv
  | bk l' h' => exact fun φ' H' v x1 rh rv => p φ' H' v (x.trans x1) rh rv
  | ct l' h' => exact fun φ' H' v x1 rh rv => p φ' H' v (x.trans x1) rh rv
  | exc c fs l' h' => exact fun φ' H' s cls dd x1 rh rl rx => p φ' H' s cls dd (x.trans x1) rh rl rx
  | stuck => exact p
/-- an expression, then a statement's rest -/
theorem Post.toS {W : WX} {r : R PV} {kk : PV → PHeap → RS} {D : Ends} (rh : RelH G φ h H) (rl : RepL G φ H l σ) (p : PostS G φ H (r.toS l kk) D W) :
    Post G φ H r (fun v H1 => ∃ φ1 h1 d1, Ext φ H φ1 H1 ∧ RelH G φ1 h1 H1 ∧ RepV G φ1 H1 d1 v ∧ RepL G φ1 H1 l σ ∧ PostS G φ1 H1 (kk d1 h1) D W) (fun c d H' => W c d σ H') := by
  cases r with
  | ok d h' => exact fun φ' H' v x rh' rv => ⟨φ', h', d, x, rh', rv, repL_ext rh x rl, PostS.ext x p⟩
  | exc c fs h' => exact fun φ' H' cls dd x rh' rx => p φ' H' σ cls dd x rh' (repL_ext rh x rl) rx
  | stuck => exact p
theorem PostT.toS {W : WX} {r : R Bool} {kk : Bool → PHeap → RS} {D : Ends} (rh : RelH G φ h H) (rl : RepL G φ H l σ) (p : PostS G φ H (r.toS l kk) D W) :
    PostT G φ H r (fun b H1 => ∃ φ1 h1, Ext φ H φ1 H1 ∧ RelH G φ1 h1 H1 ∧ RepL G φ1 H1 l σ ∧ PostS G φ1 H1 (kk b h1) D W) (fun c d H' => W c d σ H') := by
  cases r with
  | ok d h' => exact fun φ' H' x rh' => ⟨φ', h', x, rh', repL_ext rh x rl, PostS.ext x p⟩
  | exc c fs h' => exact fun φ' H' cls dd x rh' rx => p φ' H' σ cls dd x rh' (repL_ext rh x rl) rx
  | stuck => exact p
theorem PostI.toS {W : WX} {r : R Src} {kk : Src → PHeap → RS} {D : Ends} (rh : RelH G φ h H) (rl : RepL G φ H l σ) (p : PostS G φ H (r.toS l kk) D W) :
    PostI G φ H r (fun J H1 => ∃ φ1 h1 src, Ext φ H φ1 H1 ∧ RelH G φ1 h1 H1 ∧ ItOk G φ1 H1 src J ∧ RepL G φ1 H1 l σ ∧ PostS G φ1 H1 (kk src h1) D W) (fun c d H' => W c d σ H') := by
  cases r with
  | ok d h' => exact fun φ' H' J x rh' hj => ⟨φ', h', d, x, rh', hj, repL_ext rh x rl, PostS.ext x p⟩
  | exc c fs h' => exact fun φ' H' cls dd x rh' rx => p φ' H' σ cls dd x rh' (repL_ext rh x rl) rx
  | stuck => exact p
theorem tDrop_ev {W : WX} {e : Ex} (D : Ends) (σ : St) (H : Hp) (t : tEvS G W (exS C (.ex e)) D σ H) : tDrop (tEv G W (evE C e)) D σ H := by
  obtain ⟨φ, l, h, rh, rl, p⟩ := t
  unfold exS at p
  refine ⟨φ, l, h, rh, rl, Post.mono (Post.toS rh rl p) fun v H1 ⟨φ1, h1, d1, x1, rh1, rv1, rl1, p1⟩ => p1 φ1 H1 σ .refl rh1 rl1⟩
theorem tRet_ev {W : WX} {e : Ex} (D : Ends) (σ : St) (H : Hp) (t : tEvS G W (exS C (.ret e)) D σ H) : tRet (tEv G W (evE C e)) D σ H := by
  obtain ⟨φ, l, h, rh, rl, p⟩ := t
  unfold exS at p
  refine ⟨φ, l, h, rh, rl, Post.mono (Post.toS rh rl p) fun v H1 ⟨φ1, h1, d1, x1, rh1, rv1, rl1, p1⟩ => p1 φ1 H1 v .refl rh1 rv1⟩
theorem tRetN_ev {W : WX} (D : Ends) (σ : St) (H : Hp) (t : tEvS G W (exS C .ret0) D σ H) : tRetN D σ H := by
  obtain ⟨φ, l, h, rh, rl, p⟩ := t
  unfold exS at p
  exact p φ H _ .refl rh .non
theorem asg_bind {W : WX} {t : Tg} {v : V} {d : PV} {D : Ends} (rh : RelH G φ h H) (rl : RepL G φ H l σ) (rv : RepV G φ H d v)
    (p : PostS G φ H (match bindT t d l with | some l1 => .nx l1 h | none => .stuck) D W) : gEv G t v σ H D.nx := by
  cases z : bindT t d l with
  | none => rw [z] at p; exact p.elim
  | some l1 => rw [z] at p; exact ⟨φ, h, l, d, l1, rh, rl, rv, z, fun σ' rl' _ => p φ H σ' .refl rh rl'⟩
theorem tAsg_ev {W : WX} {t : Tg} {e : Ex} (D : Ends) (σ : St) (H : Hp) (q : tEvS G W (exS C (.asg t e)) D σ H) : tAsg (tEv G W (evE C e)) (gEv G t) D σ H := by
  obtain ⟨φ, l, h, rh, rl, p⟩ := q
  unfold exS at p
  refine ⟨φ, l, h, rh, rl, Post.mono (Post.toS rh rl p) fun v H1 ⟨φ1, h1, d1, x1, rh1, rv1, rl1, p1⟩ => ?_⟩
  refine asg_bind (W := W) (h := h1) rh1 rl1 rv1 ?_
  cases z : bindT t d1 l with
  | none => rw [z] at p1; exact p1
  | some l1 => rw [z] at p1; exact p1
theorem tIff_ev {W : WX} {c : Ex} {a b : Sxs} (D : Ends) (σ : St) (H : Hp) (q : tEvS G W (exS C (.iff c a b)) D σ H) : tIfS (tEvT G W fun l h => truthR (evE C c l h)) (tEvS G W (exSs C a)) (tEvS G W (exSs C b)) D σ H := by
  obtain ⟨φ, l, h, rh, rl, p⟩ := q
  unfold exS at p
  refine ⟨φ, l, h, rh, rl, PostT.mono (PostT.toS rh rl p) fun k H1 ⟨φ1, h1, x1, rh1, rl1, p1⟩ => ?_⟩
  cases k with
  | true => rw [if_pos rfl]; exact ⟨φ1, l, h1, rh1, rl1, p1⟩
  | false => rw [if_neg Bool.false_ne_true]; exact ⟨φ1, l, h1, rh1, rl1, p1⟩
theorem tSeq_ev {W : WX} {s : Sx} {r : Sxs} (D : Ends) (σ : St) (H : Hp) (q : tEvS G W (exSs C (.cons s r)) D σ H) : tSeq (tEvS G W (exS C s)) (tEvS G W (exSs C r)) D σ H := by
  obtain ⟨φ, l, h, rh, rl, p⟩ := q
  unfold exSs at p
  refine ⟨φ, l, h, rh, rl, ?_⟩
  cases z : exS C s l h with
  | nx l1 h1 =>
    rw [z] at p
    exact fun φ' H' σ' x rh' rl' => ⟨φ', l1, h1, rh', rl', PostS.ext x p⟩
  | rt d h1 => rw [z] at p; exact p
  | bk l1 h1 => rw [z] at p; exact p
  | ct l1 h1 => rw [z] at p; exact p
  | exc c fs l1 h1 => rw [z] at p; exact p
  | stuck => rw [z] at p; exact p
theorem tNext_ev {W : WX} (D : Ends) (σ : St) (H : Hp) (q : tEvS G W (exSs C .nil) D σ H) : tNext D σ H := by
  obtain ⟨φ, l, h, rh, rl, p⟩ := q
  unfold exSs at p
  exact p φ H σ .refl rh rl
/-- a for: the loop from turn i on, by the fuel that is left -/
theorem tFor_ev {W : WX} {tg : Tg} {fi : Loc → PHeap → R Src} {fb : Loc → PHeap → RS} (D : Ends) (σ : St) (H : Hp)
    (q : tEvS G W (fun l h => (fi l h).toS l fun src h1 => forLoop tg src fb (srcLen h1 src + 1) 0 l h1) D σ H) : tFor (iEv G W fi) (gEv G tg) (tEvS G W fb) D σ H := by
  obtain ⟨φ, l, h, rh, rl, p⟩ := q
  refine ⟨φ, l, h, rh, rl, ?_⟩
  have p : PostS G φ H ((fi l h).toS l fun src h1 => forLoop tg src fb (srcLen h1 src + 1) 0 l h1) D W := p
  cases ei : fi l h with
  | stuck => rw [ei] at p; exact p.elim
  | exc c fs h' => rw [ei] at p; exact fun φ' H' cls dd x rh' rx => p φ' H' σ cls dd x rh' (repL_ext rh x rl) rx
  | ok src h1 =>
    intro φ1 H1 J x1 rh1 hj
    have p : PostS G φ H (forLoop tg src fb (srcLen h1 src + 1) 0 l h1) D W := by
      rw [ei] at p; exact p
    refine ⟨fun i m σ' H' => ∃ φ' l' h', Ext φ1 H1 φ' H' ∧ RelH G φ' h' H' ∧ RepL G φ' H' l' σ' ∧ PostS G φ' H' (forLoop tg src fb m i l' h') D W,
      ⟨srcLen h1 src + 1, φ1, l, h1, .refl, rh1, repL_ext rh x1 rl, PostS.ext x1 p⟩, ?_⟩
    rintro i m σ2 H2 ⟨φ2, l2, h2, x2, rh2, rl2, p2⟩
    cases m with
    | zero => simp only [forLoop] at p2; exact p2.elim
    | succ m =>
      unfold forLoop at p2
      have J2 := hj φ2 h2 H2 x2 rh2 i
      cases es : srcAt h2 i src with
      | none => rw [es] at p2; exact p2.elim
      | some so =>
        rw [es] at p2
        cases so with
        | none => exact .inl ⟨J2.1 es, p2 φ2 H2 σ2 .refl rh2 rl2⟩
        | some d =>
          refine .inr ⟨(J2.2 d es).1, _, fun σ' H' hn => ⟨m, Nat.lt_succ_self _, hn⟩, fun x H3 hy => ?_⟩
          obtain ⟨x3, rh3, rx⟩ := (J2.2 d es).2 x H3 hy
          simp only at p2
          cases eb : bindT tg d l2 with
          | none => rw [eb] at p2; exact p2.elim
          | some l3 =>
            rw [eb] at p2
            simp only at p2
            refine ⟨φ2, h2, l2, d, l3, rh3, repL_ext rh2 x3 rl2, rx, eb, fun σ3 rl3 _ => ⟨φ2, l3, h2, rh3, rl3, ?_⟩⟩
            cases ez : fb l3 h2 with
            | nx l4 h4 =>
              rw [ez] at p2
              exact fun φ' H' σ' x rh' rl' => ⟨φ', l4, h4, x2.trans (x3.trans x), rh', rl', PostS.ext (x3.trans x) p2⟩
            | ct l4 h4 =>
              rw [ez] at p2
              exact fun φ' H' σ' x rh' rl' => ⟨φ', l4, h4, x2.trans (x3.trans x), rh', rl', PostS.ext (x3.trans x) p2⟩
            | bk l4 h4 => rw [ez] at p2; exact fun φ' H' σ' x rh' rl' => p2 φ' H' σ' (x3.trans x) rh' rl'
            | rt d4 h4 => rw [ez] at p2; exact fun φ' H' σ' x rh' rl' => p2 φ' H' σ' (x3.trans x) rh' rl'
            | exc c fs l4 h4 => rw [ez] at p2; exact fun φ' H' σ' cls dd x rh' rl' rx => p2 φ' H' σ' cls dd (x3.trans x) rh' rl' rx
            | stuck => rw [ez] at p2; exact p2.elim
theorem tWhl_ev {W : WX} {fc : Loc → PHeap → R Bool} {fb : Loc → PHeap → RS} {n : Nat} (D : Ends) (σ : St) (H : Hp)
    (q : tEvS G W (whlLoop fc fb n) D σ H) : tWhile (tEvT G W fc) (tEvS G W fb) D σ H := by
  obtain ⟨φ, l, h, rh, rl, p⟩ := q
  refine ⟨fun m σ' H' => ∃ φ' l' h', RelH G φ' h' H' ∧ RepL G φ' H' l' σ' ∧ PostS G φ' H' (whlLoop fc fb m l' h') D W, ⟨n, φ, l, h, rh, rl, p⟩, ?_⟩
  rintro m σ2 H2 ⟨φ2, l2, h2, rh2, rl2, p2⟩
  cases m with
  | zero => simp only [whlLoop] at p2; exact p2.elim
  | succ m =>
    unfold whlLoop at p2
    refine ⟨φ2, l2, h2, rh2, rl2, PostT.mono (PostT.toS rh2 rl2 p2) fun b H3 ⟨φ3, h3, x3, rh3, rl3, p3⟩ => ?_⟩
    cases b with
    | false => rw [if_neg Bool.false_ne_true]; exact p3 φ3 H3 σ2 .refl rh3 rl3
    | true =>
      rw [if_pos rfl]
      refine ⟨_, fun σ' H' hn => ⟨m, Nat.lt_succ_self _, hn⟩, φ3, l2, h3, rh3, rl3, ?_⟩
      simp only at p3
      cases ez : fb l2 h3 with
      | nx l4 h4 =>
        rw [ez] at p3
        exact fun φ' H' σ' x rh' rl' => ⟨φ', l4, h4, rh', rl', PostS.ext x p3⟩
      | ct l4 h4 =>
        rw [ez] at p3
        exact fun φ' H' σ' x rh' rl' => ⟨φ', l4, h4, rh', rl', PostS.ext x p3⟩
      | bk l4 h4 => rw [ez] at p3; exact p3
      | rt d4 h4 => rw [ez] at p3; exact p3
      | exc c fs l4 h4 => rw [ez] at p3; exact p3
      | stuck => rw [ez] at p3; exact p3.elim
/-- o[i] = e -/
def rPut (G : Gc) : TSet := fun o i v H Q => ∃ φ h x y z h', RelH G φ h H ∧ RepV G φ H x o ∧ RepV G φ H y i ∧ RepV G φ H z v ∧ putF x y z h = some h' ∧ ∀ φ' H', Ext φ H φ' H' → RelH G φ' h' H' → Q H'
theorem RepVs.set {ds : List PV} {vs : List V} {d : PV} {v : V} : ∀ (j : Nat), RepVs G φ H ds vs → RepV G φ H d v → RepVs G φ H (ds.set j d) (vs.set j v)
  | _, .nil, _ => .nil
  | 0, .cons _ b, r => .cons r b
  | j + 1, .cons a b, r => .cons a (RepVs.set j b r)
theorem set_Z {X : Cx} (hK : G.K = X.K) (hP : G.P = X.prog) (hw : G.w = X.w) (hu : X.A.units + 64 < cLine) : PSet X (rPut G) := by
  intro pins s σ H o i v ov iv u Q I ro ri rv q
  obtain ⟨φ, h, x, y, z, h', rh, r1, r2, r3, e, q⟩ := q
  unfold putF at e
  split at e
  · split at e
    · rename_i ds hx
      split at e
      · obtain ⟨j, e1, e2⟩ := omap e
        cases e2
        cases r1 with
        | ref hr =>
          cases r2
          obtain ⟨vs, e3, q1⟩ := rh.obj _ _ _ hx hr
          refine set_list pins s σ H _ _ v ov iv u Q I ro ri rv ⟨_, _, _, j, rfl, rfl, e3, by rw [← q1.length]; exact e1, ?_⟩
          have x := ext_put (H := H) (u := HO.lst (vs.set j v)) hr
          exact q φ _ x (rh.put hr ⟨_, upd_same, repVs_ext rh x (RepVs.set j q1 r3)⟩)
      · cases e
    · rename_i kvs hx
      obtain ⟨kvs', e1, e2⟩ := omap e
      cases e2
      cases r1 with
      | ref hr =>
        cases ro
        exact dic_put hK hP hw hu I rh hr hx r2 ri r3 rv e1 q
    · cases e
  · cases e
theorem tPut_ev {W : WX} {o i e : Ex} (D : Ends) (σ : St) (H : Hp) (q : tEvS G W (exS C (.put o i e)) D σ H) : tAsg (tEv G W (evE C e)) (gSub (tEv G W (evE C o)) (tEv G W (evE C i)) (rPut G)) D σ H := by
  obtain ⟨φ, l, h, rh, rl, p⟩ := q
  unfold exS at p
  refine ⟨φ, l, h, rh, rl, Post.mono (Post.toS rh rl p) fun v H1 ⟨φ1, h1, d1, x1, rh1, rv1, rl1, p1⟩ => ?_⟩
  refine ⟨φ1, l, h1, rh1, rl1, Post.mono (Post.toS rh1 rl1 p1) fun vo H2 ⟨φ2, h2, d2, x2, rh2, rv2, rl2, p2⟩ => ?_⟩
  refine ⟨φ2, l, h2, rh2, rl2, Post.mono (Post.toS rh2 rl2 p2) fun vi H3 ⟨φ3, h3, d3, x3, rh3, rv3, rl3, p3⟩ => ?_⟩
  cases z : putF d2 d3 d1 h3 with
  | none => rw [z] at p3; exact p3.elim
  | some h4 =>
    rw [z] at p3
    exact ⟨φ3, h3, d2, d3, d1, h4, rh3, repV_ext rh2 x3 rv2, rv3, repV_ext rh2 x3 (repV_ext rh1 x2 rv1), z, fun φ' H' x rh' => p3 φ' H' σ x rh' (repL_ext rh3 x rl3)⟩
/-! ### o.f = e -/
theorem fld_inv {ct : Ct} {x : PV} {f : Nat} {v : PV} {h h' : PHeap} (e : fldF ct x f v h = some h') : ∃ i c fs, x = .ref i ∧ h[i]? = some (.ins c fs) ∧ ownF ct c f = true ∧ fs.length < 900 ∧ h' = h.set i (.ins c (setFl fs f v)) := by
  unfold fldF at e
  split at e
  · rename_i i
    split at e
    · rename_i c fs hx
      split at e
      · rename_i hc
        rw [Bool.and_eq_true] at hc
        cases e
        exact ⟨i, c, fs, rfl, hx, hc.1, of_decide_eq_true hc.2, rfl⟩
      · cases e
    · cases e
  · cases e
theorem ext_slH {C dx : Addr} {vs' : List (Option V)} {a : Addr} {i : Nat} (rh : RelH G φ h H) (hi : φ[i]? = some a) (hdx : dx ≠ a) (hown : H dx = some (.own a) ∨ H dx = some (.xd [])) : Ext φ H φ (SlX.slH H a C dx vs') := by
  have na : ∀ b, b ∉ φ → b ≠ a := fun b nb z => nb (by rw [z]; exact List.mem_of_getElem? hi)
  refine ⟨List.prefix_refl _, fun b hb nb => absurd hb nb, fun b o e nb no => ?_, fun b x e nb => ?_⟩
  · by_cases z : b = dx
    · subst z
      rcases hown with q | q
      · rw [q] at e; cases e; exact no.elim
      · rw [q] at e; cases e
        unfold SlX.slH
        rw [upd_ne (na b nb), upd_same]
    · rw [SlX.slH_ne (na b nb) z]; exact e
  · by_cases z : b = dx
    · subst z
      right
      unfold SlX.slH
      rw [upd_ne (na b nb), upd_same]
    · left
      rw [SlX.slH_ne (na b nb) z]; exact e
theorem RelH.slot {C dx : Addr} {vs' : List (Option V)} {a : Addr} {i : Nat} {o : PObj} (rh : RelH G φ h H) (hi : φ[i]? = some a) (x : Ext φ H φ (SlX.slH H a C dx vs')) (ndx : dx ∉ φ) (ndt : ∀ ps, H dx ≠ some (.tbl ps)) (ro : RepO G φ (SlX.slH H a C dx vs') a o) : RelH G φ (h.set i o) (SlX.slH H a C dx vs') where
  tab := rh.tabs (fun b hb nb => absurd hb nb) fun b o e nb no _ => by
    cases o with
    | own y => exact absurd rfl (no y)
    | tbl ps =>
      have z : b ≠ dx := fun z => by
        subst z
        have nn : b ≠ a := fun z => nb (by rw [z]; exact List.mem_of_getElem? hi)
        exact ndt ps e
      rw [SlX.slH_ne (fun z => nb (by rw [z]; exact List.mem_of_getElem? hi)) z]; exact e
    | _ => exact x.keep b _ e nb trivial
  len := by simp [rh.len]
  nd := rh.nd
  obj := fun j o' b e1 e2 => by
    by_cases hj : j = i
    · subst hj
      rw [hi] at e2; cases e2
      have hl : j < h.length := by
        have := (List.getElem?_eq_some_iff.mp e1).1
        simpa using this
      rw [List.getElem?_set_self hl] at e1
      cases e1
      exact ro
    · rw [List.getElem?_set_ne (Ne.symm hj)] at e1
      have nb : b ≠ a := fun (z : b = a) => by
        subst z
        exact hj (nodup_get rh.nd e2 hi)
      have nb2 : b ≠ dx := fun z => ndx (by rw [← z]; exact List.mem_of_getElem? e2)
      exact repO_ext rh x (SlX.slH_ne nb nb2) (rh.obj j o' b e1 e2)
theorem setFl_key {fs : List (Nat × PV)} {f : Nat} {v : PV} : ∀ g, g ∈ (setFl fs f v).map (·.1) → g = f ∨ g ∈ fs.map (·.1) := by
  induction fs with
  | nil => intro g hg; simp [setFl] at hg; exact .inl hg
  | cons p r ih =>
    intro g hg
    obtain ⟨k, w⟩ := p
    simp only [setFl] at hg
    split at hg
    · exact .inr hg
    · rcases List.mem_cons.mp hg with e | hg
      · exact .inr (by rw [e]; simp)
      · rcases ih g hg with e | e
        · exact .inl e
        · exact .inr (List.mem_cons_of_mem _ e)
theorem setFl_nodup {fs : List (Nat × PV)} {f : Nat} {v : PV} (h : (fs.map (·.1)).Nodup) : ((setFl fs f v).map (·.1)).Nodup := by
  induction fs with
  | nil => simp [setFl]
  | cons p r ih =>
    obtain ⟨k, w⟩ := p
    simp only [List.map_cons, List.nodup_cons] at h
    simp only [setFl]
    split
    · simpa using h
    · rename_i ne
      rw [List.map_cons, List.nodup_cons]
      exact ⟨fun hm => (setFl_key _ hm).elim (fun e => ne e) h.1, ih h.2⟩
theorem putS_get {i j : Nat} {y w : V} {vs : List (Option V)} (h : vs[j]? = some (some w)) (ne : j ≠ i) : (SlX.putS i y vs)[j]? = some (some w) := (SlX.putS_ne ne).mpr h
/-- an instance of a class with slots turns -/
theorem fld_slot {X : Cx} (g : Glob S G C k X) (rh : RelH G φ h H) {i c f : Nat} {fs : List (Nat × PV)} {a : Addr} {d : PV} {y : V} (hi : φ[i]? = some a) (hx : h[i]? = some (.ins c fs)) (sl : C.ct.isSl c = true) (ow : ownF C.ct c f = true) (rd : RepV G φ H d y)
    {Q : Hp → Prop} (q : ∀ φ' H', Ext φ H φ' H' → RelH G φ' (h.set i (.ins c (setFl fs f d))) H' → Q H') :
    ∃ D dx p vs j, SlX.Slt H a D dx vs ∧ SlX.SCls X.K D ∧ SlX.Slot1 X.K D (S.nm f) p j ∧ Q (SlX.slH H a D dx (SlX.putS j y vs)) := by
  obtain ⟨nd, D, dx, hD, ⟨z, _⟩ | ⟨z, vs, hs, ⟨hne, hown⟩, qf⟩⟩ := rh.obj _ _ _ hx hi
  · rw [g.sl, sl] at z; cases z
  · have hD' := hD
    rw [g.mg, g.nm] at hD'
    unfold ownF at ow
    rw [sl, if_pos rfl] at ow
    obtain ⟨j, hj⟩ := Option.isSome_iff_exists.mp ow
    obtain ⟨p, s1⟩ := g.sls c f j D hj hD'
    refine ⟨D, dx, p, vs, j, hs, g.scl c D sl hD', s1, ?_⟩
    have ndx : dx ∉ φ := fun hm => by
      obtain ⟨_, o, _, _, ro⟩ := rh.at hm
      obtain ⟨u, eu, _, _, n1, n2, _⟩ := ro.some
      rcases hown with e | e
      · rw [eu] at e; cases e; exact n1 _ rfl
      · rw [eu] at e; cases e; exact n2 _ rfl
    have x := ext_slH (C := D) (vs' := SlX.putS j y vs) rh hi hne hown
    refine q φ _ x (rh.slot hi x ndx (fun ps e => by rcases hown with q | q <;> (rw [q] at e; cases e)) ⟨setFl_nodup nd, D, dx, hD, .inr ⟨z, _, SlX.slH_slt hne, ⟨hne, .inr (by unfold SlX.slH; rw [upd_ne hne, upd_same])⟩, fun f' d' hf => ?_⟩⟩)
    rw [lookup_setFl] at hf
    by_cases e : f' = f
    · subst e
      rw [if_pos rfl] at hf
      cases hf
      exact ⟨j, y, by rw [g.slo]; exact hj, SlX.putS_get _ _ _, repV_ext rh x rd⟩
    · rw [if_neg e] at hf
      obtain ⟨j', v', a1, a2, a3⟩ := qf f' d' hf
      have nj : j' ≠ j := fun z => e (g.inj c f' f j (by rw [← g.slo, a1, z]) hj)
      exact ⟨j', v', a1, putS_get a2 nj, repV_ext rh x a3⟩
/-- a plain instance turns -/
theorem fld_plain {X : Cx} (g : Glob S G C k X) (rh : RelH G φ h H) {i c f : Nat} {fs : List (Nat × PV)} {a : Addr} {d : PV} {y : V} (hi : φ[i]? = some a) (hx : h[i]? = some (.ins c fs)) (sl : C.ct.isSl c = false) (ow : ownF C.ct c f = true) (hl : fs.length < 900) (rd : RepV G φ H d y)
    {Q : Hp → Prop} (q : ∀ φ' H', Ext φ H φ' H' → RelH G φ' (h.set i (.ins c (setFl fs f d))) H' → Q H') :
    ∃ D dx ws, H a = some (.ins D dx ws) ∧ Cls X.K D ∧ NoAttr X.K D (S.nm f) ∧ ws.length < 1000 ∧ Q (upd H a (.ins D dx (L2.putF (S.nm f) y ws))) := by
  obtain ⟨nd, D, dx, hD, ⟨z, ws, a0, al, qf, q2⟩ | ⟨z, _⟩⟩ := rh.obj _ _ _ hx hi
  · have hD' := hD
    rw [g.mg, g.nm] at hD'
    unfold ownF at ow
    rw [sl, if_neg Bool.false_ne_true] at ow
    obtain ⟨c1, c2⟩ := g.pcl c f D sl ow hD'
    refine ⟨D, dx, ws, a0, c1, c2, by omega, ?_⟩
    have x := ext_put (H := H) (u := HO.ins D dx (L2.putF (S.nm f) y ws)) hi
    have lp := len_putF (f := S.nm f) (v := y) (fs := ws)
    refine q φ _ x (rh.put hi ⟨setFl_nodup nd, D, dx, hD, .inl ⟨z, _, upd_same, ?_, fun f' d' hf => ?_, fun x' v' hv => ?_⟩⟩)
    · cases e : fs.lookup f with
      | none =>
        rw [len_setFl e]
        have := lp.1
        omega
      | some d0 =>
        obtain ⟨_, v0, e1, _⟩ := qf f d0 e
        rw [g.nm] at e1
        rw [lp.2 (by rw [e1]; rfl)]
        exact Nat.le_trans al len_setFl'
    · rw [lookup_setFl] at hf
      rw [g.nm, lookup_putF]
      by_cases e : f' = f
      · subst e
        rw [if_pos rfl] at hf
        cases hf
        exact ⟨by rw [g.fdl]; exact ow, y, by rw [if_pos rfl], repV_ext rh x rd⟩
      · rw [if_neg e] at hf
        obtain ⟨b0, v0, b1, b2⟩ := qf f' d' hf
        have nn : S.nm f' ≠ S.nm f := fun z => e (g.inn c f' f (by rw [← g.fdl]; exact b0) ow z)
        rw [g.nm] at b1
        exact ⟨b0, v0, by rw [if_neg nn]; exact b1, repV_ext rh x b2⟩
    · rw [lookup_putF] at hv
      by_cases e : x' = S.nm f
      · exact ⟨f, by rw [g.nm]; exact e.symm, by rw [lookup_setFl, if_pos rfl]; rfl⟩
      · rw [if_neg e] at hv
        obtain ⟨f0, e1, e2⟩ := q2 x' v' hv
        refine ⟨f0, e1, ?_⟩
        rw [lookup_setFl]
        split
        · rfl
        · exact e2
  · rw [g.sl, sl] at z; cases z
theorem ps_fldZ {X : Cx} {W : WX} {o value : Expr} {n : Nat} {fo fv : Loc → PHeap → R PV} {pos pos' : Pos} (g : Glob S G C k X) (ho : PE X o (tEv G W fo)) (hv : PE X value (tEv G W fv)) (hs : swapsWith value (some (.Attribute o (S.nm n) pos')) pos.line X.env = pure false) :
    PS X (.Assign [.Attribute o (S.nm n) pos'] value pos) (tEvS G W fun l h => (fv l h).toS l fun v h1 => (fo l h1).toS l fun x h2 => match fldF C.ct x n v h2 with | some h3 => .nx l h3 | none => .stuck) := by
  refine ⟨fun pins s σ H D I q => ?_⟩
  obtain ⟨φ, l, h, rh, rl, p⟩ := q
  have p : PostS G φ H ((fv l h).toS l fun v h1 => (fo l h1).toS l fun x h2 => match fldF C.ct x n v h2 with | some h3 => .nx l h3 | none => .stuck) D W := p
  -- which kind of class
  by_cases sl : ∃ v h1 i h2 c fs, fv l h = .ok v h1 ∧ fo l h1 = .ok (.ref i) h2 ∧ h2[i]? = some (.ins c fs) ∧ C.ct.isSl c = true
  · obtain ⟨v0, h10, i0, h20, c0, fs0, ev, eo, ex, sl⟩ := sl
    refine (SlX.ps_sl ho hv hs).run pins s σ H D I ⟨φ, l, h, rh, rl, ?_⟩
    rw [ev] at p ⊢
    intro φ1 H1 y x1 rh1 ry
    have p1 := PostS.ext x1 p
    simp only [R.toS] at p1
    refine ⟨φ1, l, h10, rh1, repL_ext rh x1 rl, ?_⟩
    rw [eo] at p1 ⊢
    intro φ2 H2 xo x2 rh2 rx
    have p2 := PostS.ext x2 p1
    simp only at p2
    cases e : fldF C.ct (.ref i0) n v0 h20 with
    | none => rw [e] at p2; exact p2.elim
    | some h3 =>
      rw [e] at p2
      obtain ⟨i, c, fs, q1, q2, q3, q4, q5⟩ := fld_inv e
      cases q1
      rw [ex] at q2
      cases q2
      subst q5
      cases rx with
      | ref hr =>
        obtain ⟨D', dx, pp, vs, j, a1, a2, a3, a4⟩ := fld_slot g rh2 hr ex sl q3 (repV_ext rh1 x2 ry) (Q := fun H' => D.nx σ H') fun φ' H' x rh' => p2 φ' H' σ x rh' (repL_ext rh2 x (repL_ext rh1 x2 (repL_ext rh x1 rl)))
        exact ⟨_, D', dx, pp, vs, j, rfl, a1, a2, a3, a4⟩
  · refine (ps_fld ho hv hs).run pins s σ H D I ⟨φ, l, h, rh, rl, ?_⟩
    cases ev : fv l h with
    | stuck => rw [ev] at p; exact p.elim
    | exc c fs h' => rw [ev] at p; exact fun φ' H' cls dd x rh' rx => p φ' H' σ cls dd x rh' (repL_ext rh x rl) rx
    | ok v0 h10 =>
      rw [ev] at p
      intro φ1 H1 y x1 rh1 ry
      have p1 := PostS.ext x1 p
      simp only [R.toS] at p1
      have rl1 := repL_ext rh x1 rl
      refine ⟨φ1, l, h10, rh1, rl1, ?_⟩
      cases eo : fo l h10 with
      | stuck => rw [eo] at p1; exact p1.elim
      | exc c fs h' => rw [eo] at p1; exact fun φ' H' cls dd x rh' rx => p1 φ' H' σ cls dd x rh' (repL_ext rh1 x rl1) rx
      | ok x0 h20 =>
        rw [eo] at p1
        intro φ2 H2 xo x2 rh2 rx
        have p2 := PostS.ext x2 p1
        simp only at p2
        cases e : fldF C.ct x0 n v0 h20 with
        | none => rw [e] at p2; exact p2.elim
        | some h3 =>
          rw [e] at p2
          obtain ⟨i, c, fs, q1, q2, q3, q4, q5⟩ := fld_inv e
          subst q1
          subst q5
          have nsl : C.ct.isSl c = false := by
            cases zz : C.ct.isSl c with
            | false => rfl
            | true => exact absurd ⟨v0, h10, i, h20, c, fs, ev, eo, q2, zz⟩ sl
          cases rx with
          | ref hr =>
            obtain ⟨D', dx, ws, a1, a2, a3, a4, a5⟩ := fld_plain g rh2 hr q2 nsl q3 q4 (repV_ext rh1 x2 ry) (Q := fun H' => D.nx σ H') fun φ' H' x rh' => p2 φ' H' σ x rh' (repL_ext rh2 x (repL_ext rh1 x2 rl1))
            exact ⟨_, D', dx, ws, rfl, a1, a2, a3, a4, a5⟩
end
end Zed
end
section
set_option Elab.async false
set_option linter.all false
set_option maxRecDepth 100000
set_option maxHeartbeats 4000000
namespace Zed
open PySem L2
/-! ### assignments: which form the machine takes -/
def isStar : Expr → Bool
  | .Starred .. => true
  | _ => false
def swpO (sc : Scope) (targets : List Expr) (value : Expr) : Option (Option (List Str)) :=
  match (match targets, value with
    | [.Tuple ts _ _], .Tuple vs _ _ | [.List ts _], .Tuple vs _ _ => some (ts, vs)
    | _, _ => none) with
  | none => some none
  | some (ts, vs) =>
    if (!(ts.length == 2 || ts.length == 3) || vs.length != ts.length) = true then some none
    else if (vs.any isStar) = true then some none
    else
      let names := ts.filterMap fun
        | .Name id pos => if (sc.names.lookup id == some .local && pos.line == (ts.head?.map (·.pos.line)).getD 0) = true then some id else none
        | _ => none
      if (names.length != ts.length || names.eraseDups.length != names.length) = true then some none
      else if (vs.all (foldedForSure 8)) = true then some none
      else if (vs.all (constantsAlone 8)) = true then none
      else some (some names)
theorem blockKind_fn {env : Env} (h : env.scope.kind = .function) : (env.blockKind != .function) = false ∧ (env.blockKind == .function) = true := by
  have : env.blockKind = .function := by
    unfold Env.blockKind
    rw [h]; rfl
  rw [this]; exact ⟨rfl, rfl⟩
theorem swp_core {env : Env} {ts vs : List Expr} {r : Option (List Str)} (h : (if (!(ts.length == 2 || ts.length == 3) || vs.length != ts.length) = true then some none
    else if (vs.any isStar) = true then some none
    else
      let names := ts.filterMap fun
        | .Name id pos => if (env.scope.names.lookup id == some .local && pos.line == (ts.head?.map (·.pos.line)).getD 0) = true then some id else none
        | _ => none
      if (names.length != ts.length || names.eraseDups.length != names.length) = true then some none
      else if (vs.all (foldedForSure 8)) = true then some none
      else if (vs.all (constantsAlone 8)) = true then none
      else some (some names)) = some r) {M : Sem (Option (List Str))}
    (hM : M = (if (!(ts.length == 2 || ts.length == 3) || vs.length != ts.length) = true then pure none
    else if (vs.any isStar) = true then pure none
    else
      let names := ts.filterMap fun
        | .Name id pos => if (env.scope.names.lookup id == some .local && pos.line == (ts.head?.map (·.pos.line)).getD 0) = true then some id else none
        | _ => none
      if (names.length != ts.length || names.eraseDups.length != names.length) = true then pure none
      else if (vs.all (foldedForSure 8)) = true then pure none
      else if (vs.all (constantsAlone 8)) = true then (do unsupported "assign.tuple-of-constant-expressions:order-of-the-stores"; pure (some names))
      else pure (some names))) : M = pure r := by
  rw [hM]
  split at h
  · rename_i c; cases h; rw [if_pos c]
  · rename_i c1
    rw [if_neg c1]
    split at h
    · rename_i c; cases h; rw [if_pos c]
    · rename_i c2
      rw [if_neg c2]
      simp only at h ⊢
      split at h
      · rename_i c; cases h; rw [if_pos c]
      · rename_i c3
        rw [if_neg c3]
        split at h
        · rename_i c; cases h; rw [if_pos c]
        · rename_i c4
          rw [if_neg c4]
          split at h
          · cases h
          · rename_i c5; cases h; rw [if_neg c5]
theorem swp_ok {env : Env} {ts : List Expr} {v : Expr} {r : Option (List Str)} (hk : env.scope.kind = .function) (h : swpO env.scope ts v = some r) : swappedStores ts v env = pure r := by
  have bk := (blockKind_fn hk).1
  unfold swpO at h
  split at h
  · rename_i hm
    cases h
    split at hm
    · cases hm
    · cases hm
    · rename_i n1 n2
      unfold swappedStores
      split
      · rename_i hq
        split at hq
        · exact absurd rfl (n1 _ _ _ _ _ _ rfl)
        · exact absurd rfl (n2 _ _ _ _ _ rfl)
        · cases hq
      · rfl
  · rename_i as vs hm
    split at hm
    · cases hm
      refine swp_core h ?_
      unfold swappedStores
      simp only [bk, Bool.or_false]
      rfl
    · cases hm
      refine swp_core h ?_
      unfold swappedStores
      simp only [bk, Bool.or_false]
      rfl
    · cases hm
def swO (sc : Scope) (tg value : Expr) : Bool :=
  match value with
  | .ListComp _ _ s vp => (match tg with
    | .Name t pos => sc.names.lookup t == some .local && pos.line == vp.line && !(s.names.any fun (n, k) => n == t && (k == .local || k == .cell))
    | _ => false)
  | .SetComp _ _ s vp => (match tg with
    | .Name t pos => sc.names.lookup t == some .local && pos.line == vp.line && !(s.names.any fun (n, k) => n == t && (k == .local || k == .cell))
    | _ => false)
  | .DictComp _ _ _ s vp => (match tg with
    | .Name t pos => sc.names.lookup t == some .local && pos.line == vp.line && !(s.names.any fun (n, k) => n == t && (k == .local || k == .cell))
    | _ => false)
  | _ => false
theorem sw_ok {env : Env} {tg v : Expr} {line : Nat} (hk : env.scope.kind = .function) : swapsWith v (some tg) line env = pure (swO env.scope tg v) := by
  have bk := (blockKind_fn hk).2
  unfold swapsWith swO
  cases v <;> first | rfl | (cases tg <;> first | rfl | (simp only [bk, Bool.true_and]; rfl))
mutual
def chkS (S : Sg) (N : List Str) (sc : Scope) : Sx → Stmt → Bool
  | .ex e, st => match st with
    | .Expr v _ => noComp v && chkE S N sc e v
    | _ => false
  | .asg t e, st => match st with
    | .Assign [tg] v _ =>
      if swO sc tg v then
        match t, e, tg, v with
        | .nm i, .lc _ _ _ _ _ _, .Name x _, .ListComp .. => (N[i]? == some x) && isK sc.names x .local && chkE S N sc e v
        | _, _, _, _ => false
      else match swpO sc [tg] v with
        | some none => chkG N sc.names t tg && chkE S N sc e v
        | some (some [x, y]) => (match t, e, tg, v with
          | .tp (.cons (.nm i) (.cons (.nm j) .nil)), .tup es, .Tuple [.Name x' _, .Name y' _] _ _, .Tuple [a, b] _ _ =>
            (x == x') && (y == y') && (N[i]? == some x) && (N[j]? == some y) && (i != j) && isK sc.names x .local && isK sc.names y .local && chkA S N sc es [a, b]
          | _, _, _, _ => false)
        | some (some [x, y, z]) => (match t, e, tg, v with
          | .tp (.cons (.nm i) (.cons (.nm j) (.cons (.nm m) .nil))), .tup es, .Tuple [.Name x' _, .Name y' _, .Name z' _] _ _, .Tuple [a, b, c] _ _ =>
            (x == x') && (y == y') && (z == z') && (N[i]? == some x) && (N[j]? == some y) && (N[m]? == some z) && (i != j) && (i != m) && (j != m) && isK sc.names x .local && isK sc.names y .local && isK sc.names z .local && chkA S N sc es [a, b, c]
          | _, _, _, _ => false)
        | _ => false
    | _ => false
  | .put o i e, st => match st with
    | .Assign [.Subscript o' i' _] v _ => noSlice i' && chkE S N sc e v && chkE S N sc o o' && chkE S N sc i i'
    | _ => false
  | .fld o f e, st => match st with
    | .Assign [.Attribute o' x _] v _ => (x == S.nm f) && !swO sc (.Attribute o' x ⟨0, 0, 0, 0⟩) v && chkE S N sc e v && chkE S N sc o o'
    | _ => false
  | .ret e, st => match st with
    | .Return (some v) _ => chkE S N sc e v
    | _ => false
  | .ret0, st => match st with
    | .Return none _ => true
    | _ => false
  | .iff c a b, st => match st with
    | .If c' a' b' _ => chkE S N sc c c' && chkSs S N sc a a' && chkSs S N sc b b'
    | _ => false
  | .for_ t it b, st => match st with
    | .For tg it' b' [] _ => chkI S N sc it tg it' && chkG N sc.names t tg && noSet it' && chkSs S N sc b b'
    | _ => false
  | .whl c b, st => match st with
    | .While c' b' [] _ => chkE S N sc c c' && chkSs S N sc b b'
    | _ => false
  | .pass, st => match st with
    | .Pass _ => true
    | _ => false
  | .brk, st => match st with
    | .Break _ => true
    | _ => false
  | .cnt, st => match st with
    | .Continue _ => true
    | _ => false
  | .rai c m, st => match st with
    | .Raise (some (.Call (.Name x _) [.Constant (.str m') _ _] [] _)) none _ => (x == S.nm c) && S.exc c && isK sc.names x .globalImplicit && okNm x && (m == m')
    | _ => false
def chkSs (S : Sg) (N : List Str) (sc : Scope) : Sxs → List Stmt → Bool
  | .nil, l => match l with
    | [] => true
    | _ => false
  | .cons s r, l => match l with
    | st :: sts => chkS S N sc s st && chkSs S N sc r sts
    | _ => false
end
section
variable {S : Sg} {G : Gc} {C : Orc} {k : Nat}
theorem chkG_noStar {N : List Str} {ns : Nms} {t : Tg} {e : Expr} (h : chkG N ns t e = true) : noStar e = true := by
  unfold chkG at h
  split at h
  · rfl
  · rfl
  · cases h
/-- a statement, then what is at a slot is locked -/
theorem ps_lkNx {X : Cx} {st : Stmt} {t : TS} (h : PS X st t) : PS X st (fun D σ H => t { D with nx := fun σ' H' => ∃ d u, H' d = some u ∧ Mut (some u) ∧ ∀ od, D.nx σ' (upd H' d (.frz od u)) } σ H) := by
  refine ⟨fun pins s σ H D I hw => ?_⟩
  refine thn (h.run pins s σ H _ I hw) fun f s1 q => ?_
  cases f with
  | next =>
    obtain ⟨σ', H', I2, d, u, e, mu, q⟩ := q
    obtain ⟨od, I3⟩ := I2.lock e mu
    exact ⟨σ', _, I3, q od⟩
  | brk => exact q
  | cont => exact q
  | ret v => exact q
/-- .. or not -/
def lkNx (z : Bool) (D : Ends) : Ends := match z with
  | true => { D with nx := fun σ' H' => ∃ d u, H' d = some u ∧ Mut (some u) ∧ ∀ od, D.nx σ' (upd H' d (.frz od u)) }
  | false => D
theorem ps_zNx {X : Cx} {st : Stmt} {t : TS} {z : Bool} (h : PS X st t) : PS X st (fun D σ H => t (lkNx z D) σ H) := by
  cases z with
  | false => exact h
  | true => exact ps_lkNx h
theorem zQ_nx {z : Bool} {D : Ends} {σ : St} {i : Nat} (v : V) (H' : Hp) (q : zQ z (fun v H1 => D.nx (σ.set i (some v)) H1) v H') : (lkNx z D).nx (σ.set i (some v)) H' := by
  cases z with
  | false => exact q
  | true => obtain ⟨d, u, e1, e2, mu, q⟩ := q; exact ⟨d, u, e2, mu, q⟩
theorem soundLc {z : Bool} {elt : Ex} {tg : Tg} {it : Itr} {ifs : Op} {own : List Nat} {X : Cx} {W : WX} {sc : Scope} {e : Expr} {i : Nat} {x : Str} {px spos : Pos} (g : Glob S G C k X) (sp : Scp sc.names X) (tk : Takes X W)
    (c : chkE S X.N sc (.lc z elt tg it ifs own) e = true) (hi : X.N[i]? = some x) (hl : X.env.scope.names.lookup x = some .local) (sw : swapsWith e (some (.Name x px)) spos.line X.env = pure true) :
    PS X (.Assign [.Name x px] e spos) (tAsg (tEv G W (evE C (.lc z elt tg it ifs own))) (gName i)) := by
  simp only [chkE] at c
  split at c
  · simp only [Bool.and_eq_true, beq_iff_eq] at c
    obtain ⟨⟨⟨⟨⟨⟨⟨c1, c2⟩, c3⟩, c4⟩, c5⟩, c6⟩, c7⟩, c8⟩ := c
    have ok0 := blkOk_by c2
    have ok : BlkOk X.N X.env.scope _ (ownOf X.N own) := ⟨ok0.kind, ok0.uniq, ok0.ix, fun y hy e => sp.cf y.1 (ok0.free y hy e), ok0.own⟩
    have gB := fun (s : Shared) (H : Hp) (A : Addr) (cl : List (Str × Addr)) (fp : List Addr) => g.blk (s := s) (H := H) (cl := cl) (A := A) (fp := fp) ok.kind
    have hs : ∀ i, i ∈ slotsT tg → i ∈ own := fun i hi => by
      have := List.all_eq_true.mp c5 i hi
      simpa using this
    refine ps_imp (t := fun D σ H => tAsg (tLc (iEv G W (evI C it)) (gEv G tg) (tEvT G W0 (evT1 C ifs)) (tEv G W0 (evE C elt)) own) (gName i) (lkNx z D) σ H) ?_ fun D σ H t => tLc_ev hs σ H (fun v H1 => D.nx (σ.set i (some v)) H1) _ zQ_nx (by unfold tAsg at t; rw [evE_lc] at t; exact t)
    rw [← c3]
    refine ps_zNx (ps_setLc g.calm g.nd hi hl sw (soundI it g sp tk c1) ok (fun s H A cl fp => soundG tg g.K g.nd g.calm .blk c4) (fun s H A cl fp => ?_) (fun s H A cl fp => soundE elt (gB s H A cl fp) .blk takes0 c8) (foldedSet c6))
    split at c7
    · split at c7
      · refine ⟨fun pins s σ H Q I q => pts_nil.run pins s σ H Q I ?_⟩
        obtain ⟨φ, l, h, rh, rl, p⟩ := q
        unfold evT1 at p
        exact p φ H .refl rh
      · cases c7
    · simp only [Bool.and_eq_true] at c7
      cases ifs with
      | no => simp at c7
      | yes cd =>
        simp only [chkOp] at c7
        have := pts_one (soundT cd (gB s H A cl fp) .blk (takes0 (X := X.blk s H _ (compEnvC _ cl A X.env) fp)) c7.2)
        refine ⟨fun pins s σ H Q I q => this.run pins s σ H Q I ?_⟩
        obtain ⟨φ, l, h, rh, rl, p⟩ := q
        unfold evT1 at p
        exact ⟨φ, l, h, rh, rl, p⟩
    · cases c7
  · cases c
theorem gName_ev {t : Nat} {W : WX} {e : Ex} (D : Ends) (σ : St) (H : Hp) (q : tEvS G W (exS C (.asg (.nm t) e)) D σ H) : tAsg (tEv G W (evE C e)) (gName t) D σ H := by
  have z := tAsg_ev D σ H q
  obtain ⟨φ, l, h, rh, rl, p⟩ := z
  refine ⟨φ, l, h, rh, rl, Post.mono p fun v H1 ⟨φ1, h1, l1, d1, l2, rh1, rl1, rv1, eb, k⟩ => ?_⟩
  simp only [bindT] at eb
  split at eb
  · cases eb
    refine k _ (rl1.set rv1) ⟨by simp, fun j hj => ?_⟩
    have : t ≠ j := fun z => hj (by simp [slotsT, z])
    exact List.getElem?_set_ne this
  · cases eb
theorem postA_of_tup {W : WX} {es : Exs} {t : Tg} {φ : List Addr} {H : Hp} {l : Loc} {h : PHeap} {σ : St} {D : Ends} (rh : RelH G φ h H) (rl : RepL G φ H l σ) (p : PostS G φ H (exS C (.asg t (.tup es)) l h) D W) :
    PostA G φ H (evA C es l h) (fun vs H1 => ∃ φ1 h1 ds l1, RelH G φ1 h1 H1 ∧ RepVs G φ1 H1 ds vs ∧ RepL G φ1 H1 l σ ∧ bindT t (.tup ds) l = some l1 ∧ ∀ σ', RepL G φ1 H1 l1 σ' → D.nx σ' H1) (fun c d H' => W c d σ H') := by
  unfold exS at p
  unfold evE at p
  cases z : evA C es l h with
  | ok ds h1 =>
    rw [z] at p
    simp only [R.bind_ok] at p
    intro φ1 H1 vs x1 rh1 rv
    split at p
    · simp only [R.toS] at p
      cases z2 : bindT t (.tup ds) l with
      | none => rw [z2] at p; exact p.elim
      | some l1 => rw [z2] at p; exact ⟨φ1, h1, ds, l1, rh1, rv, repL_ext rh x1 rl, z2, fun σ' rl' => p φ1 H1 σ' x1 rh1 rl'⟩
    · exact p.elim
  | exc c fs h' => rw [z] at p; exact fun φ' H' cls dd x rh' rx => p φ' H' σ cls dd x rh' (repL_ext rh x rl) rx
  | stuck => rw [z] at p; exact p.elim
theorem repVs_three {φ : List Addr} {H : Hp} {ds : List PV} {v w x : V} (q : RepVs G φ H ds [v, w, x]) : ∃ a b c, ds = [a, b, c] ∧ RepV G φ H a v ∧ RepV G φ H b w ∧ RepV G φ H c x := by
  cases q with
  | cons r1 q => cases q with
    | cons r2 q => cases q with
      | cons r3 q => cases q; exact ⟨_, _, _, rfl, r1, r2, r3⟩
theorem tPar_ev {W : WX} {i j : Nat} {es : Exs} (D : Ends) (σ : St) (H : Hp) (q : tEvS G W (exS C (.asg (.tp (.cons (.nm i) (.cons (.nm j) .nil))) (.tup es))) D σ H) : tPar i j (tEvA G W (evA C es)) D σ H := by
  obtain ⟨φ, l, h, rh, rl, p⟩ := q
  refine ⟨φ, l, h, rh, rl, PostA.mono (postA_of_tup rh rl p) fun vs H1 ⟨φ1, h1, ds, l1, rh1, rv, rl1, eb, k⟩ => ?_⟩
  simp only [bindT] at eb
  cases rv with
  | nil => simp [bindTs] at eb
  | cons r1 rv =>
    cases rv with
    | nil => simp only [bindTs] at eb; split at eb <;> cases eb
    | cons r2 rv =>
      cases rv with
      | cons r3 rv =>
        simp only [bindTs, bindT] at eb
        split at eb
        · split at eb
          · cases eb
          · cases eb
        · cases eb
      | nil =>
        simp only [bindTs, bindT] at eb
        split at eb
        · rename_i l2 e2
          split at e2
          · cases e2
            split at eb
            · rename_i l3 e3
              split at e3
              · cases e3
                cases eb
                exact ⟨_, _, rfl, k _ ((rl1.set r1).set r2)⟩
              · cases e3
            · cases eb
          · cases e2
        · cases eb
theorem tPar3_ev {W : WX} {i j m : Nat} {es : Exs} (D : Ends) (σ : St) (H : Hp) (q : tEvS G W (exS C (.asg (.tp (.cons (.nm i) (.cons (.nm j) (.cons (.nm m) .nil)))) (.tup es))) D σ H) : tPar3 i j m (tEvA G W (evA C es)) D σ H := by
  obtain ⟨φ, l, h, rh, rl, p⟩ := q
  refine ⟨φ, l, h, rh, rl, PostA.mono (postA_of_tup rh rl p) fun vs H1 ⟨φ1, h1, ds, l1, rh1, rv, rl1, eb, k⟩ => ?_⟩
  simp only [bindT] at eb
  match ds, rv, eb with
  | [a, b, c], .cons r1 (.cons r2 (.cons r3 .nil)), eb =>
    simp only [bindTs, bindT] at eb
    split at eb
    · rename_i l2 e2
      split at e2
      · cases e2
        split at eb
        · rename_i l3 e3
          split at e3
          · cases e3
            split at eb
            · rename_i l4 e4
              split at e4
              · cases e4
                cases eb
                exact ⟨_, _, _, rfl, k _ (((rl1.set r1).set r2).set r3)⟩
              · cases e4
            · cases eb
          · cases e3
        · cases eb
      · cases e2
    · cases eb
  | [], _, eb => simp [bindTs] at eb
  | [a], _, eb => simp only [bindTs] at eb; split at eb <;> cases eb
  | [a, b], _, eb =>
    simp only [bindTs] at eb
    split at eb
    · split at eb <;> cases eb
    · cases eb
  | a :: b :: c :: d :: r, _, eb =>
    simp only [bindTs] at eb
    split at eb
    · split at eb
      · split at eb <;> cases eb
      · cases eb
    · cases eb
end
end Zed
end
section
set_option Elab.async false
set_option linter.all false
set_option maxRecDepth 100000
set_option maxHeartbeats 1000000
namespace Zed
open PySem L2
/-! ### what leaves a def is locked, what was made inside is gone -/
def Frzs : List Addr → Hp → (Hp → Prop) → Prop
  | [], H, R => R H
  | d :: r, H, R => ∃ u, H d = some u ∧ Mut (some u) ∧ ∀ od, Frzs r (upd H d (.frz od u)) R
/-- locked at L -/
structure LkR (L : List Addr) (H H' : Hp) : Prop where
  out : ∀ a, a ∉ L → H' a = H a
  at_ : ∀ a, a ∈ L → ∃ od u, H a = some u ∧ Mut (some u) ∧ H' a = some (.frz od u)
theorem frzs_of : ∀ (L : List Addr) (H : Hp) (R : Hp → Prop), L.Nodup → (∀ a ∈ L, ∃ u, H a = some u ∧ Mut (some u)) → (∀ H', LkR L H H' → R H') → Frzs L H R
  | [], H, R, _, _, k => k H ⟨fun _ _ => rfl, fun a h => nomatch h⟩
  | d :: L, H, R, nd, hm, k => by
    obtain ⟨u, e, mu⟩ := hm d List.mem_cons_self
    obtain ⟨n1, n2⟩ := List.nodup_cons.mp nd
    refine ⟨u, e, mu, fun od => frzs_of L _ R n2 (fun a ha => ?_) fun H' l => k H' ⟨fun a ha => ?_, fun a ha => ?_⟩⟩
    · have ne : a ≠ d := fun z => n1 (z ▸ ha)
      rw [upd_ne ne]
      exact hm a (List.mem_cons_of_mem _ ha)
    · rw [List.mem_cons, not_or] at ha
      rw [l.out a ha.2, upd_ne ha.1]
    · by_cases z : a = d
      · subst z
        exact ⟨od, u, e, mu, by rw [l.out a n1, upd_same]⟩
      · have ha := (List.mem_cons.mp ha).resolve_left z
        obtain ⟨od', u', e1, mu', e2⟩ := l.at_ a ha
        rw [upd_ne z] at e1
        exact ⟨od', u', e1, mu', e2⟩
section
variable {G : Gc} {φ : List Addr} {h : PHeap} {H : Hp}
/-! closed values -/
theorem pd_mem {α β : Type} {F : α → β → Prop} : ∀ {l : List α} {m : List β}, Paired F l m → ∀ {p : α}, p ∈ l → ∃ x, F p x
  | _, _, .nil, _, hp => nomatch hp
  | _, _, .cons a b, p, hp => by
    rcases List.mem_cons.mp hp with e | hp
    · subst e; exact ⟨_, a⟩
    · exact pd_mem b hp
theorem strs_cl {n : Nat} : ∀ xs : List Str, clVs n (xs.map PV.str) = true
  | [] => rfl
  | x :: r => by simp only [List.map_cons, clVs, strs_cl r, clV]; rfl
theorem key_cl {n : Nat} {k : PV} (h : (keyOf k).isSome = true) : clV n k = true := by
  cases k <;> first | rfl | (simp [keyOf] at h)
theorem lookup_mem' {fs : List (Nat × PV)} {f : Nat} {d : PV} (h : fs.lookup f = some d) : (f, d) ∈ fs := by
  induction fs with
  | nil => cases h
  | cons p r ih =>
    obtain ⟨g, e⟩ := p
    rw [List.lookup_cons] at h
    cases z : f == g with
    | true => rw [z] at h; cases h; rw [beq_iff_eq.mp z]; exact List.mem_cons_self
    | false => rw [z] at h; exact List.mem_cons_of_mem _ (ih h)
mutual
theorem repV_cl : ∀ (d : PV) {v : V}, RepV G φ H d v → clV φ.length d = true
  | .non, _, _ => rfl
  | .bl _, _, _ => rfl
  | .int _, _, _ => rfl
  | .str _, _, _ => rfl
  | .ty _, _, _ => rfl
  | .gl _, _, _ => rfl
  | .scr _, _, _ => rfl
  | .tup ds, _, r => by
    cases r with
    | tup s q => simp only [clV]; exact repVs_cl ds q
  | .ref i, _, r => by
    cases r with
    | ref e => simp only [clV]; exact decide_eq_true (List.getElem?_eq_some_iff.mp e).1
  | .fz (.lst ds), _, r => by
    cases r with
    | fl s q => simp only [clV, clO]; exact repVs_cl ds q
  | .fz (.dic kvs), _, r => by
    simp only [clV, clO]
    cases r with
    | fdK z e q => exact repK_cl kvs (fun p hp => .inl (let ⟨x, hx⟩ := pd_mem q.pd hp; by rw [hx.1]; rfl)) fun p hp => let ⟨x, hx⟩ := pd_mem q.pd hp; ⟨_, hx.2⟩
    | fdN z ne e m nd q => exact repK_cl kvs (fun p hp => .inr (let ⟨x, hx⟩ := pd_mem q.pd hp; ⟨_, hx.2.2.1⟩)) fun p hp => let ⟨x, hx⟩ := pd_mem q.pd hp; let ⟨v, hv⟩ := hx.2.2.2; ⟨v, hv.2⟩
  | .fz (.set ds), _, r => by
    cases r with
    | fset z e p l => simp only [clV, clO]; rw [z]; exact strs_cl _
  | .fz (.ins c fs), _, r => by
    simp only [clV, clO]
    cases r with
    | fiP vs u n m s e l k q w => exact repF_cl fs u fun f d hf => ⟨_, q f d hf⟩
    | fiS vs u n m s e l k q => exact repF_cl fs u fun f d hf => ⟨_, q f d hf⟩
theorem repVs_cl : ∀ (ds : List PV) {vs : List V}, RepVs G φ H ds vs → clVs φ.length ds = true
  | [], _, _ => rfl
  | d :: ds, _, r => by
    cases r with
    | cons a b => simp only [clVs, repV_cl d a, repVs_cl ds b]; rfl
theorem repK_cl : ∀ (l : List (PV × PV)), (∀ p ∈ l, (keyOf p.1).isSome = true ∨ ∃ v, RepV G φ H p.1 v) → (∀ p ∈ l, ∃ v, RepV G φ H p.2 v) → clKs φ.length l = true
  | [], _, _ => rfl
  | (k, v) :: r, a, b => by
    obtain ⟨w, hw⟩ := b _ List.mem_cons_self
    have hk : clV φ.length k = true := by
      rcases a _ List.mem_cons_self with z | ⟨u, hu⟩
      · exact key_cl z
      · exact repV_cl k hu
    simp only [clKs, hk, repV_cl v hw, repK_cl r (fun p hp => a p (List.mem_cons_of_mem _ hp)) (fun p hp => b p (List.mem_cons_of_mem _ hp))]; rfl
theorem repF_cl : ∀ (fs : List (Nat × PV)), (fs.map (·.1)).Nodup → (∀ f d, fs.lookup f = some d → ∃ v, RepV G φ H d v) → clFs φ.length fs = true
  | [], _, _ => rfl
  | (f, d) :: r, nd, a => by
    obtain ⟨w, hw⟩ := a f d (by simp)
    rw [List.map_cons, List.nodup_cons] at nd
    simp only [clFs, repV_cl d hw, repF_cl r nd.2 (fun g e hg => a g e (by
      have ne : (g == f) = false := by
        rw [beq_eq_false_iff_ne]
        rintro rfl
        exact nd.1 (List.mem_map.mpr ⟨_, lookup_mem' hg, rfl⟩)
      rw [List.lookup_cons, ne]; exact hg))]; rfl
end
end
/-! ### the cut -/
def notIns : PObj → Bool
  | .ins _ _ => false
  | _ => true
structure CutR (G : Gc) (φ φ1 : List Addr) (n : Nat) (h' : PHeap) (H1 H2 : Hp) (L : List Addr) : Prop where
  pre : φ = φ1.take n
  rel : RelH G φ1 h' H1
  lk : LkR L H1 H2
  l1 : ∀ a ∈ L, ∃ i o, n ≤ i ∧ φ1[i]? = some a ∧ h'[i]? = some o ∧ notIns o = true
section
variable {G : Gc} {φ φ1 : List Addr} {n : Nat} {h' : PHeap} {H1 H2 : Hp} {L : List Addr} {a : Addr}
theorem CutR.sub (c : CutR G φ φ1 n h' H1 H2 L) (hm : a ∉ φ1) : a ∉ φ := fun z => hm (by rw [c.pre] at z; exact List.mem_of_mem_take z)
theorem CutR.inL (c : CutR G φ φ1 n h' H1 H2 L) (hm : a ∈ L) : a ∈ φ1 := by
  obtain ⟨i, o, _, e, _⟩ := c.l1 a hm
  exact List.mem_of_getElem? e
theorem CutR.keep (c : CutR G φ φ1 n h' H1 H2 L) {o : HO} (e : H1 a = some o) (nm : ¬ Mut (some o)) : H2 a = some o := by
  rw [c.lk.out a fun hm => ?_]
  · exact e
  · obtain ⟨od, u, e1, mu, _⟩ := c.lk.at_ a hm
    rw [e] at e1
    cases e1
    exact nm mu
theorem CutR.keep' (c : CutR G φ φ1 n h' H1 H2 L) (nm : a ∉ φ1) : H2 a = H1 a := c.lk.out a fun hm => nm (c.inL hm)
theorem CutR.below (c : CutR G φ φ1 n h' H1 H2 L) {i : Nat} (e : φ1[i]? = some a) (hi : i < n) : φ[i]? = some a ∧ H2 a = H1 a := by
  refine ⟨by rw [c.pre, List.getElem?_take_of_lt hi]; exact e, c.lk.out a fun hm => ?_⟩
  obtain ⟨j, o, hj, e1, _⟩ := c.l1 a hm
  have := nodup_get c.rel.nd e e1
  omega
theorem CutR.above (c : CutR G φ φ1 n h' H1 H2 L) {i : Nat} (e : φ1[i]? = some a) (hi : n ≤ i) : a ∉ φ := fun hm => by
  rw [c.pre] at hm
  obtain ⟨j, hj, e1⟩ := List.mem_iff_getElem.mp hm
  have hj' : j < n := by rw [List.length_take] at hj; omega
  have e2 : φ1[j]? = some a := by
    rw [← List.getElem?_take_of_lt hj', List.getElem?_eq_getElem hj, e1]
  have := nodup_get c.rel.nd e e2
  omega
theorem CutR.sqT (c : CutR G φ φ1 n h' H1 H2 L) {vs : List V} (s : SqT G.K H1 a vs) : SqT G.K H2 a vs := by
  rcases s with (s | ⟨o, s⟩) | s
  · exact .inl (.inl (c.keep s id))
  · exact .inl (.inr ⟨o, c.keep s id⟩)
  · exact .inr s
theorem CutR.slt (c : CutR G φ φ1 n h' H1 H2 L) (nm : H2 a = H1 a) {C dx : Addr} {ws : List (Option V)} (s : SlX.Slt H1 a C dx ws) : SlX.Slt H2 a C dx ws := by
  rcases s with ⟨h1, h2⟩ | ⟨h1, h2⟩
  · exact .inl ⟨nm.trans h1, h2⟩
  · exact .inr ⟨nm.trans h1, c.keep h2 id⟩
theorem CutR.slw (c : CutR G φ φ1 n h' H1 H2 L) {dx : Addr} (s : SlW H1 a dx) : SlW H2 a dx := ⟨s.1, s.2.imp (fun q => c.keep q id) (fun q => c.keep q id)⟩
mutual
theorem cut_V (c : CutR G φ φ1 n h' H1 H2 L) : ∀ (d : PV) {v : V}, clV n d = true → RepV G φ1 H1 d v → RepV G φ H2 d v
  | .non, _, _, r => by cases r; exact .non
  | .bl _, _, _, r => by cases r; exact .bl _
  | .int _, _, _, r => by cases r; exact .int _
  | .str _, _, _, r => by cases r; exact .str _
  | .ty _, _, _, r => by cases r; exact .ty _
  | .gl _, _, _, r => by cases r with | gl e => exact .gl e
  | .scr _, _, _, r => by cases r with | scr e => exact .scr (e.imp (fun ⟨o, s⟩ => ⟨o, c.keep s id⟩) id)
  | .tup ds, _, k, r => by
    cases r with
    | tup s q => exact .tup (c.sqT s) (cut_Vs c ds (by simpa only [clV] using k) q)
  | .ref i, _, k, r => by
    cases r with
    | ref e => exact .ref (c.below e (by simpa only [clV, decide_eq_true_eq] using k)).1
  | .fz (.lst ds), _, k, r => by
    cases r with
    | fl s q =>
      obtain ⟨o, s⟩ := s
      exact .fl ⟨o, c.keep s id⟩ (cut_Vs c ds (by simpa only [clV, clO] using k) q)
  | .fz (.dic kvs), _, k, r => by
    cases r with
    | fdK z e q => exact .fdK z (c.keep e id) (cut_K c kvs (by simpa only [clV, clO] using k) q)
    | fdN z ne e m nd q => exact .fdN z ne (c.keep e id) m nd (cut_E c kvs (by simpa only [clV, clO] using k) q)
  | .fz (.set ds), _, k, r => by
    cases r with
    | fset z e p l => exact .fset z (c.keep e id) p l
  | .fz (.ins _ fs), _, k, r => by
    have kf : clFs n fs = true := by simpa only [clV, clO] using k
    cases r with
    | fiP vs u nn m s e l k q w => exact .fiP vs u (c.sub nn) m s ((c.keep' nn).trans e) l k (fun f d hf => cut_F c fs kf f d hf (q f d hf)) w
    | fiS vs u nn m s e l k q => exact .fiS vs u (c.sub nn) m s (c.slt (c.keep' nn) e) (c.slw l) k (fun f d hf => cut_F c fs kf f d hf (q f d hf))
theorem cut_Vs (c : CutR G φ φ1 n h' H1 H2 L) : ∀ (ds : List PV) {vs : List V}, clVs n ds = true → RepVs G φ1 H1 ds vs → RepVs G φ H2 ds vs
  | [], _, _, r => by cases r; exact .nil
  | d :: ds, _, k, r => by
    simp only [clVs, Bool.and_eq_true] at k
    cases r with
    | cons a b => exact .cons (cut_V c d k.1 a) (cut_Vs c ds k.2 b)
theorem cut_K (c : CutR G φ φ1 n h' H1 H2 L) : ∀ (l : List (PV × PV)) {m : List (Key × V)}, clKs n l = true → RepKs G φ1 H1 l m → RepKs G φ H2 l m
  | [], _, _, r => by cases r; exact .nil
  | (x, y) :: l, _, k, r => by
    simp only [clKs, Bool.and_eq_true] at k
    cases r with
    | cons e a b => exact .cons e (cut_V c y k.1.2 a) (cut_K c l k.2 b)
theorem cut_E (c : CutR G φ φ1 n h' H1 H2 L) : ∀ (l : List (PV × PV)) {m : List (NestedKey × Addr × Value)}, clKs n l = true → RepEs G φ1 H1 l m → RepEs G φ H2 l m
  | [], _, _, r => by cases r; exact .nil
  | (x, y) :: l, _, k, r => by
    simp only [clKs, Bool.and_eq_true] at k
    cases r with
    | cons e1 e2 e3 e4 e5 b => exact .cons e1 e2 (cut_V c x k.1.1 e3) e4 (cut_V c y k.1.2 e5) (cut_E c l k.2 b)
theorem cut_F (c : CutR G φ φ1 n h' H1 H2 L) : ∀ (fs : List (Nat × PV)), clFs n fs = true → ∀ f d {v : V}, fs.lookup f = some d → RepV G φ1 H1 d v → RepV G φ H2 d v
  | [], _, _, _, _, e, _ => by cases e
  | (g, x) :: l, k, f, d, v, e, r => by
    simp only [clFs, Bool.and_eq_true] at k
    rw [List.lookup_cons] at e
    cases z : f == g with
    | true =>
      rw [z] at e
      have e : x = d := by simpa using e
      have r' : RepV G φ1 H1 x v := e ▸ r
      exact e ▸ cut_V c x k.1 r'
    | false => rw [z] at e; exact cut_F c l k.2 f d e r
end
theorem cut_O (c : CutR G φ φ1 n h' H1 H2 L) {o : PObj} (e : H2 a = H1 a) (k : clO n o = true) (r : RepO G φ1 H1 a o) : RepO G φ H2 a o := by
  cases o with
  | lst ds => obtain ⟨vs, e1, q⟩ := r; exact ⟨vs, e.trans e1, cut_Vs c ds (by simpa only [clO] using k) q⟩
  | dic kvs =>
    obtain ⟨z, ⟨ks, e1, q⟩ | ⟨xs, ne, e1, q1, q2, q⟩⟩ := r
    · exact ⟨z, .inl ⟨ks, e.trans e1, (cut_K c kvs (by simpa only [clO] using k) (.of q)).pd⟩⟩
    · exact ⟨z, .inr ⟨xs, ne, e.trans e1, q1, q2, (cut_E c kvs (by simpa only [clO] using k) (.of q)).pd⟩⟩
  | set ds => obtain ⟨xs, ks, e0, e1, q⟩ := r; exact ⟨xs, ks, e0, e.trans e1, q⟩
  | ins cc fs =>
    have kf : clFs n fs = true := by simpa only [clO] using k
    obtain ⟨nd, C, dx, hC, ⟨z, ws, e1, ql, q, q2⟩ | ⟨z, vs, hs, hw, q⟩⟩ := r
    · exact ⟨nd, C, dx, hC, .inl ⟨z, ws, e.trans e1, ql, fun f d hf => let ⟨a0, v, a1, a2⟩ := q f d hf; ⟨a0, v, a1, cut_F c fs kf f d hf a2⟩, q2⟩⟩
    · exact ⟨nd, C, dx, hC, .inr ⟨z, vs, c.slt e hs, c.slw hw, fun f d hf => let ⟨i, v, a1, a2, a3⟩ := q f d hf; ⟨i, v, a1, a2, cut_F c fs kf f d hf a3⟩⟩⟩
theorem repO_cl {φ : List Addr} {H : Hp} {o : PObj} (r : RepO G φ H a o) : clO φ.length o = true := by
  cases o with
  | lst ds => obtain ⟨vs, e1, q⟩ := r; simp only [clO]; exact repVs_cl ds q
  | dic kvs =>
    simp only [clO]
    obtain ⟨z, ⟨ks, e1, q⟩ | ⟨xs, ne, e1, q1, q2, q⟩⟩ := r
    · exact repK_cl kvs (fun p hp => .inl (let ⟨x, hx⟩ := pd_mem q hp; by rw [hx.1]; rfl)) fun p hp => let ⟨x, hx⟩ := pd_mem q hp; ⟨_, hx.2⟩
    · exact repK_cl kvs (fun p hp => .inr (let ⟨x, hx⟩ := pd_mem q hp; ⟨_, hx.2.2.1⟩)) fun p hp => let ⟨x, hx⟩ := pd_mem q hp; let ⟨v, hv⟩ := hx.2.2.2; ⟨v, hv.2⟩
  | set ds => obtain ⟨xs, ks, e0, e1, q⟩ := r; simp only [clO]; rw [e0]; exact strs_cl _
  | ins cc fs =>
    simp only [clO]
    obtain ⟨nd, C, dx, hC, ⟨z, ws, e1, ql, q, q2⟩ | ⟨z, vs, hs, hw, q⟩⟩ := r
    · exact repF_cl fs nd fun f d hf => let ⟨_, v, _, a2⟩ := q f d hf; ⟨v, a2⟩
    · exact repF_cl fs nd fun f d hf => let ⟨_, v, _, _, a3⟩ := q f d hf; ⟨v, a3⟩
mutual
theorem nk_cl : ∀ (d : PV) {k : NestedKey}, nkOf d = some k → clV n d = true
  | .non, _, _ => rfl
  | .bl _, _, _ => rfl
  | .int _, _, _ => rfl
  | .str _, _, _ => rfl
  | .ty _, _, _ => rfl
  | .gl _, _, _ => rfl
  | .scr _, _, _ => rfl
  | .tup ds, _, e => by
    simp only [nkOf] at e
    cases z : nkOfs ds with
    | none => rw [z] at e; cases e
    | some ks => simp only [clV]; exact nks_cl ds z
  | .ref i, _, e => by simp [nkOf] at e
  | .fz _, _, e => by simp [nkOf] at e
theorem nks_cl : ∀ (ds : List PV) {ks : List NestedKey}, nkOfs ds = some ks → clVs n ds = true
  | [], _, _ => rfl
  | d :: ds, _, e => by
    obtain ⟨k, ks, e1, e2, _⟩ := nkOfs_cons e
    simp only [clVs, nk_cl d e1, nks_cl ds e2]; rfl
end
section
variable {f : PV → Option PV}
theorem frz_Vs (P : ∀ {d d' : PV} {v : V}, f d = some d' → RepV G φ1 H1 d v → RepV G φ H2 d' v) : ∀ {ds ds' : List PV} {vs : List V}, mapO f ds = some ds' → RepVs G φ1 H1 ds vs → RepVs G φ H2 ds' vs
  | _, _, _, e, .nil => by simp only [mapO] at e; cases e; exact .nil
  | _, _, _, e, .cons a b => by
    obtain ⟨y, ys, e1, e2, rfl⟩ := mapO_cons e
    exact .cons (P e1 a) (frz_Vs P e2 b)
def frzP (f : PV → Option PV) (p : PV × PV) : Option (PV × PV) := if (nkOf p.1).isSome then (f p.2).map fun v => (p.1, v) else none
theorem frzP_ok {p q : PV × PV} (e : frzP f p = some q) : (nkOf p.1).isSome = true ∧ q.1 = p.1 ∧ f p.2 = some q.2 := by
  unfold frzP at e
  split at e
  · rename_i z
    obtain ⟨y, e1, e2⟩ := omap e
    subst e2
    exact ⟨z, rfl, e1⟩
  · cases e
theorem frz_K (P : ∀ {d d' : PV} {v : V}, f d = some d' → RepV G φ1 H1 d v → RepV G φ H2 d' v) : ∀ {l l' : List (PV × PV)} {m : List (Key × V)}, mapO (frzP f) l = some l' → RepKs G φ1 H1 l m → RepKs G φ H2 l' m ∧ l'.length = l.length
  | _, _, _, e, .nil => by simp only [mapO] at e; cases e; exact ⟨.nil, rfl⟩
  | _, _, _, e, .cons e0 a b => by
    obtain ⟨y, ys, e1, e2, rfl⟩ := mapO_cons e
    obtain ⟨_, q1, q2⟩ := frzP_ok e1
    obtain ⟨i1, i2⟩ := frz_K P e2 b
    exact ⟨.cons (by rw [q1]; exact e0) (P q2 a) i1, by simp [i2]⟩
theorem frz_E (c : CutR G φ φ1 n h' H1 H2 L) (P : ∀ {d d' : PV} {v : V}, f d = some d' → RepV G φ1 H1 d v → RepV G φ H2 d' v) : ∀ {l l' : List (PV × PV)} {m : List (NestedKey × Addr × Value)}, mapO (frzP f) l = some l' → RepEs G φ1 H1 l m → RepEs G φ H2 l' m ∧ l'.length = l.length
  | _, _, _, e, .nil => by simp only [mapO] at e; cases e; exact ⟨.nil, rfl⟩
  | _, _, _, e, .cons e0 d0 k0 r0 a b => by
    obtain ⟨y, ys, e1, e2, rfl⟩ := mapO_cons e
    obtain ⟨q0, q1, q2⟩ := frzP_ok e1
    obtain ⟨i1, i2⟩ := frz_E c P e2 b
    exact ⟨.cons (by rw [q1]; exact e0) d0 (by rw [q1]; exact cut_V c _ (nk_cl _ e0) k0) r0 (P q2 a) i1, by simp [i2]⟩
def frzQ (f : PV → Option PV) (p : Nat × PV) : Option (Nat × PV) := (f p.2).map fun v => (p.1, v)
theorem frz_F : ∀ {l l' : List (Nat × PV)}, mapO (frzQ f) l = some l' → l'.map (·.1) = l.map (·.1) ∧ (∀ g d', l'.lookup g = some d' → ∃ d, l.lookup g = some d ∧ f d = some d') ∧ ∀ g, (l'.lookup g).isSome = (l.lookup g).isSome
  | [], _, e => by simp only [mapO] at e; cases e; exact ⟨rfl, (fun g d' h => by cases h), fun _ => rfl⟩
  | (g0, d0) :: l, _, e => by
    obtain ⟨y, ys, e1, e2, rfl⟩ := mapO_cons e
    obtain ⟨w, q1, q2⟩ := omap e1
    subst q2
    obtain ⟨i1, i2, i3⟩ := frz_F e2
    refine ⟨by simp [i1], fun g d' hg => ?_, fun g => ?_⟩
    · rw [List.lookup_cons] at hg ⊢
      cases z : g == g0 with
      | true => rw [z] at hg; cases hg; exact ⟨d0, rfl, q1⟩
      | false => rw [z] at hg; exact i2 g d' hg
    · rw [List.lookup_cons, List.lookup_cons]
      cases g == g0 with
      | true => rfl
      | false => exact i3 g
end
theorem frzO_eq {f : PV → Option PV} {kvs : List (PV × PV)} : frzO f (.dic kvs) = (mapO (frzP f) kvs).map .dic := rfl
theorem frzO_eq' {f : PV → Option PV} {c : Nat} {fs : List (Nat × PV)} : frzO f (.ins c fs) = (mapO (frzQ f) fs).map (.ins c) := rfl
theorem ne_nil_len {α : Type} {l l' : List α} (h : l'.length = l.length) (ne : l ≠ []) : l' ≠ [] := fun e => ne (List.eq_nil_of_length_eq_zero (by rw [← h, e]; rfl))
theorem cut_frz (c : CutR G φ φ1 n h' H1 H2 L) (l2 : ∀ i o a, n ≤ i → φ1[i]? = some a → h'[i]? = some o → notIns o = true → a ∈ L) : ∀ (k : Nat) {d d' : PV} {v : V}, frzV h' n k d = some d' → RepV G φ1 H1 d v → RepV G φ H2 d' v
  | 0, d, d', v, e, r => by
    unfold frzV at e
    split at e
    · rename_i z; cases e; exact cut_V c d z r
    · cases e
  | k + 1, d, d', v, e, r => by
    unfold frzV at e
    split at e
    · rename_i z; cases e; exact cut_V c d z r
    · rename_i z
      have P : ∀ {d d' : PV} {v : V}, frzV h' n k d = some d' → RepV G φ1 H1 d v → RepV G φ H2 d' v := fun e r => cut_frz c l2 k e r
      split at e
      · obtain ⟨ds', e1, e2⟩ := omap e
        subst e2
        cases r with
        | tup s q => exact .tup (c.sqT s) (frz_Vs P e1 q)
      · obtain ⟨o', e1, e2⟩ := omap e
        subst e2
        cases r with
        | fl s q =>
          obtain ⟨ds', e3, e4⟩ := omap e1
          subst e4
          obtain ⟨o, s⟩ := s
          exact .fl ⟨o, c.keep s id⟩ (frz_Vs P e3 q)
        | fdK zz e5 q =>
          rw [frzO_eq] at e1
          obtain ⟨ds', e3, e4⟩ := omap e1
          subst e4
          obtain ⟨i1, i2⟩ := frz_K P e3 q
          exact .fdK (by omega) (c.keep e5 id) i1
        | fdN zz ne e5 m nd q =>
          rw [frzO_eq] at e1
          obtain ⟨ds', e3, e4⟩ := omap e1
          subst e4
          obtain ⟨i1, i2⟩ := frz_E c P e3 q
          exact .fdN (by omega) (ne_nil_len i2 ne) (c.keep e5 id) m nd i1
        | fset zz e5 p l =>
          simp only [frzO] at e1
          cases e1
          exact .fset zz (c.keep e5 id) p l
        | fiP vs u nn m s e5 l kk q w =>
          rw [frzO_eq'] at e1
          obtain ⟨fs', e3, e4⟩ := omap e1
          subst e4
          obtain ⟨i1, i2, i3⟩ := frz_F e3
          have hl := congrArg List.length i1
          simp only [List.length_map] at hl
          exact .fiP vs (by rw [i1]; exact u) (c.sub nn) m s ((c.keep' nn).trans e5) (by omega) (fun g d' hg => let ⟨d, g1, _⟩ := i2 g d' hg; kk g d g1) (fun g d' hg => let ⟨d, g1, g2⟩ := i2 g d' hg; P g2 (q g d g1)) fun x v hx => let ⟨g, g1, g2⟩ := w x v hx; ⟨g, g1, by rw [i3]; exact g2⟩
        | fiS vs u nn m s e5 l kk q =>
          rw [frzO_eq'] at e1
          obtain ⟨fs', e3, e4⟩ := omap e1
          subst e4
          obtain ⟨i1, i2, i3⟩ := frz_F e3
          exact .fiS vs (by rw [i1]; exact u) (c.sub nn) m s (c.slt (c.keep' nn) e5) (c.slw l) (fun g d' hg => let ⟨d, g1, _⟩ := i2 g d' hg; kk g d g1) (fun g d' hg => let ⟨d, g1, g2⟩ := i2 g d' hg; P g2 (q g d g1))
      · rename_i i
        have hi : n ≤ i := by
          simp only [clV, decide_eq_true_eq] at z
          omega
        cases r with
        | ref er =>
          rename_i a
          have na := c.above er hi
          split at e
          · rename_i o ho
            obtain ⟨o', e1, e2⟩ := omap e
            subst e2
            have ro := c.rel.obj i o a ho er
            cases o with
            | lst ds =>
              obtain ⟨vs, e3, q⟩ := ro
              obtain ⟨ds', e4, e5⟩ := omap e1
              subst e5
              obtain ⟨od, u, e6, _, e7⟩ := c.lk.at_ a (l2 i _ a hi er ho rfl)
              rw [e3] at e6
              cases e6
              exact .fl ⟨od, e7⟩ (frz_Vs P e4 q)
            | dic kvs =>
              rw [frzO_eq] at e1
              obtain ⟨ds', e4, e5⟩ := omap e1
              subst e5
              obtain ⟨od, u, e6, _, e7⟩ := c.lk.at_ a (l2 i _ a hi er ho rfl)
              obtain ⟨zz, ⟨ks, e3, q⟩ | ⟨xs, ne, e3, q1, q2, q⟩⟩ := ro
              · rw [e3] at e6
                cases e6
                obtain ⟨i1, i2⟩ := frz_K P e4 (.of q)
                exact .fdK (by omega) e7 i1
              · rw [e3] at e6
                cases e6
                obtain ⟨i1, i2⟩ := frz_E c P e4 (.of q)
                exact .fdN (by omega) (ne_nil_len i2 ne) e7 q1 q2 i1
            | set ds =>
              simp only [frzO] at e1
              cases e1
              obtain ⟨xs, ks, e0, e3, q1, q2⟩ := ro
              obtain ⟨od, u, e6, _, e7⟩ := c.lk.at_ a (l2 i _ a hi er ho rfl)
              rw [e3] at e6
              cases e6
              exact .fset e0 e7 q1 q2
            | ins cc fs =>
              rw [frzO_eq'] at e1
              obtain ⟨fs', e3, e4⟩ := omap e1
              subst e4
              obtain ⟨i1, i2, i3⟩ := frz_F e3
              have hl : fs'.length = fs.length := by have := congrArg List.length i1; simpa using this
              have eH : H2 a = H1 a := c.lk.out a fun hm => by
                obtain ⟨j, o, _, e5, e6, e7⟩ := c.l1 a hm
                have := nodup_get c.rel.nd er e5
                subst this
                rw [ho] at e6
                cases e6
                cases e7
              obtain ⟨nd, C, dx, hC, ⟨z, ws, e5, ql, q, q2⟩ | ⟨z, vs, hs, hw, q⟩⟩ := ro
              · have q' : ∀ f, ∃ w, ∀ d, fs.lookup f = some d → G.fld cc f = true ∧ ws.lookup (G.nm f) = some w ∧ RepV G φ1 H1 d w := fun f => by
                  cases hf : fs.lookup f with
                  | none => exact ⟨.non, fun d hd => by cases hd⟩
                  | some d => obtain ⟨a0, w, a1, a2⟩ := q f d hf; exact ⟨w, fun d' hd => by cases hd; exact ⟨a0, a1, a2⟩⟩
                obtain ⟨vs, hv⟩ := Classical.axiomOfChoice q'
                exact .fiP vs (by rw [i1]; exact nd) na hC z (eH.trans e5) (by omega) (fun g d' hg => let ⟨d, g1, _⟩ := i2 g d' hg; ⟨(hv g d g1).1, (hv g d g1).2.1⟩) (fun g d' hg => let ⟨d, g1, g2⟩ := i2 g d' hg; P g2 (hv g d g1).2.2) fun x v hx => let ⟨g, g1, g2⟩ := q2 x v hx; ⟨g, g1, by rw [i3]; exact g2⟩
              · have q' : ∀ f, ∃ w, ∀ d, fs.lookup f = some d → (∃ i, G.slot cc f = some i ∧ vs[i]? = some (some w)) ∧ RepV G φ1 H1 d w := fun f => by
                  cases hf : fs.lookup f with
                  | none => exact ⟨.non, fun d hd => by cases hd⟩
                  | some d => obtain ⟨i, w, a1, a2, a3⟩ := q f d hf; exact ⟨w, fun d' hd => by cases hd; exact ⟨⟨i, a1, a2⟩, a3⟩⟩
                obtain ⟨us, hv⟩ := Classical.axiomOfChoice q'
                exact .fiS us (by rw [i1]; exact nd) na hC z (c.slt eH hs) (c.slw hw) (fun g d' hg => let ⟨d, g1, _⟩ := i2 g d' hg; (hv g d g1).1) (fun g d' hg => let ⟨d, g1, g2⟩ := i2 g d' hg; P g2 (hv g d g1).2)
          · cases e
      · cases e
end
theorem sealH_ok {n : Nat} : ∀ {h h' h1 : PHeap}, sealH n h h' = some h1 → h1.length = h.length ∧ ∀ (j : Nat) (o : PObj), h1[j]? = some o → h'[j]? = some o ∧ (h[j]? = some o ∨ clO n o = true)
  | [], h', h1, e => by simp only [sealH] at e; cases e; exact ⟨rfl, fun j o h => by simp at h⟩
  | o :: r, [], h1, e => by simp only [sealH] at e; cases e
  | o :: r, o' :: r', h1, e => by
    simp only [sealH] at e
    split at e
    · rename_i z
      obtain ⟨h2, e1, e2⟩ := omap e
      subst e2
      obtain ⟨i1, i2⟩ := sealH_ok e1
      refine ⟨by simp [i1], fun j ob hj => ?_⟩
      cases j with
      | zero =>
        simp only [List.getElem?_cons_zero, Option.some.injEq] at hj ⊢
        subst hj
        refine ⟨rfl, ?_⟩
        rw [Bool.or_eq_true] at z
        rcases z with z | z
        · exact .inl (PObj.same_eq _ _ z)
        · exact .inr z
      | succ j => simpa using i2 j ob (by simpa using hj)
    · cases e
section
variable {G : Gc} {φ φ1 : List Addr} {h h' h1 : PHeap} {H H1 H2 : Hp} {L : List Addr}
theorem cut_rel (rh : RelH G φ h H) (c : CutR G φ φ1 h.length h' H1 H2 L) (e : sealH h.length h h' = some h1) : RelH G φ h1 H2 where
  tab := fun p hp => by
    obtain ⟨ps, e1, k, f⟩ := c.rel.tab p hp
    refine ⟨ps, c.keep e1 id, k, fun pos cv hc => ?_⟩
    obtain ⟨cc, e2, n, e3⟩ := f pos cv hc
    exact ⟨cc, e2, c.sub n, (c.keep' n).trans e3⟩
  len := by rw [(sealH_ok e).1, rh.len]
  nd := rh.nd
  obj := fun i o a hi ha => by
    obtain ⟨e1, e2⟩ := (sealH_ok e).2 i o hi
    have hl : i < h.length := by rw [← rh.len]; exact (List.getElem?_eq_some_iff.mp ha).1
    have ha1 : φ1[i]? = some a := by rw [c.pre, List.getElem?_take_of_lt hl] at ha; exact ha
    have cl : clO h.length o = true := by
      rcases e2 with e2 | e2
      · rw [← rh.len]; exact repO_cl (rh.obj i o a e2 ha)
      · exact e2
    exact cut_O c (c.below ha1 hl).2 cl (c.rel.obj i o a e1 ha1)
theorem cut_ext (x : Ext φ H φ1 H1) (c : CutR G φ φ1 h.length h' H1 H2 L) (rh : RelH G φ h H) : Ext φ H φ H2 where
  pre := List.prefix_refl _
  new := fun a hm nm => absurd hm nm
  keep := fun a o e n s => (c.keep' (x.nin e n (Stays.nt s))).trans (x.keep a o e n s)
  own := fun a y e n => by rw [c.keep' (x.nin e n fun _ z => nomatch z)]; exact x.own a y e n
open Classical in
theorem cut_locks (rh : RelH G φ h H) (x : Ext φ H φ1 H1) (r1 : RelH G φ1 h' H1) {R : Hp → Prop}
    (k : ∀ L H2, CutR G φ φ1 h.length h' H1 H2 L → (∀ i o a, h.length ≤ i → φ1[i]? = some a → h'[i]? = some o → notIns o = true → a ∈ L) → R H2) : ∃ L, Frzs L H1 R := by
  have pre : φ = φ1.take h.length := by
    obtain ⟨t, rfl⟩ := x.pre
    rw [← rh.len, List.take_left]
  let L := φ1.filter fun a => decide (∃ i o, h.length ≤ i ∧ φ1[i]? = some a ∧ h'[i]? = some o ∧ notIns o = true)
  have hL : ∀ a ∈ L, ∃ i o, h.length ≤ i ∧ φ1[i]? = some a ∧ h'[i]? = some o ∧ notIns o = true := fun a ha => of_decide_eq_true (List.mem_filter.mp ha).2
  refine ⟨L, frzs_of L H1 R (r1.nd.filter _) (fun a ha => ?_) fun H2 lk => k L H2 ⟨pre, r1, lk, hL⟩ fun i o a hi ha ho no => List.mem_filter.mpr ⟨List.mem_of_getElem? ha, decide_eq_true ⟨i, o, hi, ha, ho, no⟩⟩⟩
  obtain ⟨i, o, hi, ea, eo, no⟩ := hL a ha
  have ro := r1.obj i o a eo ea
  cases o with
  | lst ds => obtain ⟨vs, e, _⟩ := ro; exact ⟨_, e, trivial⟩
  | dic kvs =>
    obtain ⟨_, ⟨ks, e, _⟩ | ⟨xs, _, e, _⟩⟩ := ro
    · exact ⟨_, e, trivial⟩
    · exact ⟨_, e, trivial⟩
  | set ds => obtain ⟨xs, ks, _, e, _⟩ := ro; exact ⟨_, e, trivial⟩
  | ins => cases no
theorem seal_post {r : R PV} {Q : VK} {E : XK} (rh : RelH G φ h H) (p : Post G φ H (sealF h r) Q E) : Post G φ H r (fun v H' => ∃ L, Frzs L H' (Q v)) E := by
  cases r with
  | ok d h' =>
    intro φ1 H1 v x r1 rv
    simp only [sealF] at p
    cases e1 : frzV h' h.length 6 d with
    | none => rw [e1] at p; exact p.elim
    | some d1 =>
      cases e2 : sealH h.length h h' with
      | none => rw [e1, e2] at p; exact p.elim
      | some h1 =>
        rw [e1, e2] at p
        exact cut_locks rh x r1 fun L H2 c l2 => p φ H2 v (cut_ext x c rh) (cut_rel rh c e2) (cut_frz c l2 6 e1 rv)
  | exc c fs h' =>
    intro φ1 H1 cls dd x r1 rx
    simp only [sealF] at p
    split at p
    · rename_i z
      rw [Bool.and_eq_true] at z
      cases e2 : sealH h.length h h' with
      | none => rw [e2] at p; exact p.elim
      | some h1 =>
        rw [e2] at p
        have pre : φ = φ1.take h.length := by
          obtain ⟨t, rfl⟩ := x.pre
          rw [← rh.len, List.take_left]
        have c : CutR G φ φ1 h.length h' H1 H1 [] := ⟨pre, r1, ⟨fun _ _ => rfl, fun a ha => nomatch ha⟩, fun a ha => nomatch ha⟩
        refine p φ H1 cls dd (cut_ext x c rh) (cut_rel rh c e2) ⟨rx.1, rx.2.imp id fun ⟨da, ws, q1, q2, q3⟩ => ⟨da, ws, q1, q2, fun f e hf => ?_⟩⟩
        obtain ⟨w, w1, w2⟩ := q3 f e hf
        exact ⟨w, w1, cut_F c fs z.2 f e hf w2⟩
    · exact p.elim
  | stuck => exact p
end
end Zed
end
section
set_option Elab.async false
set_option linter.all false
set_option maxRecDepth 100000
set_option maxHeartbeats 4000000
namespace Zed
open PySem L2
section
variable {S : Sg} {G : Gc} {C : Orc} {k : Nat}
theorem exS_for {t : Tg} {it : Itr} {b : Sxs} : exS C (.for_ t it b) = fun l h => (evI C it l h).toS l fun src h1 => forLoop t src (exSs C b) (srcLen h1 src + 1) 0 l h1 := by funext l h; simp only [exS]
theorem exS_fld {o : Ex} {f : Nat} {e : Ex} : exS C (.fld o f e) = fun l h => (evE C e l h).toS l fun v h1 => (evE C o l h1).toS l fun x h2 => match fldF C.ct x f v h2 with | some h3 => .nx l h3 | none => .stuck := by funext l h; first | (simp only [exS]; done) | (simp only [exS]; rfl)
theorem exS_whl {c : Ex} {b : Sxs} : exS C (.whl c b) = whlLoop (fun l h => truthR (evE C c l h)) (exSs C b) 1000000 := by funext l h; simp only [exS]
theorem noComp_sw {e : Expr} {line : Nat} {env : Env} (h : noComp e = true) : swapsWith e none line env = pure false := by
  cases e <;> first | rfl | (cases h)
mutual
theorem soundS : ∀ (ir : Sx) {X : Cx} {W : WX} {sc : Scope} {st : Stmt}, Glob S G C k X → X.env.scope = sc → Scp sc.names X → Takes X W → PassesOwn (model X.prog X.w) X.A X.env X.xe → chkS S X.N sc ir st = true → PS X st (tEvS G W (exS C ir))
  | .ex e, X, W, sc, st, g, es, sp, tk, po, c => by
    simp only [chkS] at c
    split at c
    · simp only [Bool.and_eq_true] at c
      exact ps_imp (ps_expr (soundE e g sp tk c.2) (noComp_sw c.1)) tDrop_ev
    · cases c
  | .asg t e, X, W, sc, st, g, es, sp, tk, po, c => by
    have hk := g.kind
    simp only [chkS] at c
    split at c
    · rename_i tg v pos
      split at c
      · rename_i sw
        split at c
        · rename_i sw1
          simp only [Bool.and_eq_true, beq_iff_eq] at c
          subst es
          refine ps_imp (soundLc g sp tk c.2 c.1.1 (sp.loc _ c.1.2) ?_) gName_ev
          rw [sw_ok hk, sw]
        · cases c
      · rename_i sw
        have sw' : swapsWithSole [tg] v pos.line X.env = pure false := by
          show swapsWith v (some tg) pos.line X.env = pure false
          rw [sw_ok hk, es]
          simp only [Bool.not_eq_true] at sw
          rw [sw]
        split at c
        · rename_i so
          simp only [Bool.and_eq_true] at c
          exact ps_imp (ps_asg (soundE e g sp tk c.2) (soundG t g.K g.nd g.calm sp c.1) sw' (swp_ok hk (by rw [es]; exact so)) (by rw [assignEach_cons (chkG_noStar c.1)]; rfl)) tAsg_ev
        · rename_i x y so
          split at c
          · simp only [Bool.and_eq_true, beq_iff_eq, bne_iff_ne] at c
            obtain ⟨⟨⟨⟨⟨⟨⟨c1, c2⟩, c3⟩, c4⟩, c5⟩, c6⟩, c7⟩, c8⟩ := c
            subst c1; subst c2
            exact ps_imp (ps_par g.calm g.nd c3 c4 c5 (sp.loc _ c6) (sp.loc _ c7) (soundA _ g sp tk c8) (swp_ok hk (by rw [es]; exact so)) sw') tPar_ev
          · cases c
        · rename_i x y z so
          split at c
          · simp only [Bool.and_eq_true, beq_iff_eq, bne_iff_ne] at c
            obtain ⟨⟨⟨⟨⟨⟨⟨⟨⟨⟨⟨⟨c1, c2⟩, c3⟩, c4⟩, c5⟩, c6⟩, c7⟩, c8⟩, c9⟩, c10⟩, c11⟩, c12⟩, c13⟩ := c
            subst c1; subst c2; subst c3
            exact ps_imp (ps_par3 g.calm g.nd c4 c5 c6 c7 c8 c9 (sp.loc _ c10) (sp.loc _ c11) (sp.loc _ c12) (soundA _ g sp tk c13) (swp_ok hk (by rw [es]; exact so)) sw') tPar3_ev
          · cases c
        · cases c
    · cases c
  | .put o i e, X, W, sc, st, g, es, sp, tk, po, c => by
    have hk := g.kind
    simp only [chkS] at c
    split at c
    · rename_i o' i' p1 v pos
      simp only [Bool.and_eq_true] at c
      refine ps_imp (ps_asg (soundE e g sp tk c.1.1.2) (pg_sub (soundE o g sp tk c.1.2) (soundE i g sp tk c.2) (set_Z g.K g.P g.w g.room.units) ?_) ?_ ?_ rfl) tPut_ev
      · intro u
        have c1 := c.1.1.1
        cases i' <;> first | rfl | (cases c1)
      · show swapsWith v (some (o'.Subscript i' p1)) pos.line X.env = pure false
        rw [sw_ok hk]
        unfold swO
        cases v <;> rfl
      · exact swp_ok hk rfl
    · cases c
  | .fld o f e, X, W, sc, st, g, es, sp, tk, po, c => by
    have hk := g.kind
    simp only [chkS] at c
    split at c
    · simp only [Bool.and_eq_true, beq_iff_eq, Bool.not_eq_true'] at c
      obtain ⟨⟨⟨c1, c2⟩, c3⟩, c4⟩ := c
      subst c1
      rename_i o' p1 v pos
      have := ps_fldZ (pos := pos) (pos' := p1) g (soundE o g sp tk c4) (soundE e g sp tk c3) (by
        rw [sw_ok hk, es]
        have z : swO sc (.Attribute o' (S.nm f) p1) v = swO sc (.Attribute o' (S.nm f) ⟨0, 0, 0, 0⟩) v := by cases v <;> rfl
        rw [z, c2])
      exact ps_imp this fun D σ H q => by rw [exS_fld] at q; exact q
    · cases c
  | .ret e, X, W, sc, st, g, es, sp, tk, po, c => by
    simp only [chkS] at c
    split at c
    · exact ps_imp (ps_ret (soundE e g sp tk c)) tRet_ev
    · cases c
  | .ret0, X, W, sc, st, g, es, sp, tk, po, c => by
    simp only [chkS] at c
    split at c
    · exact ps_imp ps_retN tRetN_ev
    · cases c
  | .iff d a b, X, W, sc, st, g, es, sp, tk, po, c => by
    simp only [chkS] at c
    split at c
    · simp only [Bool.and_eq_true] at c
      exact ps_imp (ps_if (soundT d g sp tk c.1.1) (soundSs a g es sp tk po c.1.2) (soundSs b g es sp tk po c.2)) tIff_ev
    · cases c
  | .for_ t it b, X, W, sc, st, g, es, sp, tk, po, c => by
    simp only [chkS] at c
    split at c
    · simp only [Bool.and_eq_true] at c
      exact ps_imp (ps_for po g.calm (soundI it g sp tk c.1.1.1) (soundG t g.K g.nd g.calm sp c.1.1.2) (soundSs b g es sp tk po c.2) (foldedSet c.1.2)) fun D σ H q => tFor_ev D σ H (by rw [exS_for] at q; exact q)
    · cases c
  | .whl d b, X, W, sc, st, g, es, sp, tk, po, c => by
    simp only [chkS] at c
    split at c
    · simp only [Bool.and_eq_true] at c
      exact ps_imp (ps_while po (soundT d g sp tk c.1) (soundSs b g es sp tk po c.2)) fun D σ H q => tWhl_ev D σ H (by rw [exS_whl] at q; exact q)
    · cases c
  | .pass, X, W, sc, st, g, es, sp, tk, po, c => by
    simp only [chkS] at c
    split at c
    · refine ps_imp ps_pass fun D σ H q => ?_
      obtain ⟨φ, l, h, rh, rl, p⟩ := q
      unfold exS at p
      exact p φ H σ .refl rh rl
    · cases c
  | .brk, X, W, sc, st, g, es, sp, tk, po, c => by
    simp only [chkS] at c
    split at c
    · refine ps_imp ps_break fun D σ H q => ?_
      obtain ⟨φ, l, h, rh, rl, p⟩ := q
      unfold exS at p
      exact p φ H σ .refl rh rl
    · cases c
  | .cnt, X, W, sc, st, g, es, sp, tk, po, c => by
    simp only [chkS] at c
    split at c
    · refine ps_imp ps_continue fun D σ H q => ?_
      obtain ⟨φ, l, h, rh, rl, p⟩ := q
      unfold exS at p
      exact p φ H σ .refl rh rl
    · cases c
  | .rai d m, X, W, sc, st, g, es, sp, tk, po, c => by
    simp only [chkS] at c
    split at c
    · simp only [Bool.and_eq_true, beq_iff_eq] at c
      obtain ⟨⟨⟨⟨c1, c2⟩, c3⟩, c4⟩, c5⟩ := c
      subst c1
      obtain ⟨D, e1, e2, e3, e4, e5⟩ := g.exc d c2
      refine ps_imp (ps_raise g.calm tk (pmk_own PySem.F.excBase_ValueError e3 e1 e2 (raises_own e4 e5) (sp.gl _ c3) (okNm_dbg c4).1)) fun D' σ H q => ?_
      obtain ⟨φ, l, h, rh, rl, p⟩ := q
      unfold exS at p
      exact p φ H σ _ none .refl rh rl ⟨.inl ⟨d, D, rfl, by rw [g.mg, g.nm]; exact e1, rfl⟩, .inl rfl⟩
    · cases c
theorem soundSs : ∀ (ir : Sxs) {X : Cx} {W : WX} {sc : Scope} {sts : List Stmt}, Glob S G C k X → X.env.scope = sc → Scp sc.names X → Takes X W → PassesOwn (model X.prog X.w) X.A X.env X.xe → chkSs S X.N sc ir sts = true → PSs X sts (tEvS G W (exSs C ir))
  | .nil, X, W, sc, sts, g, es, sp, tk, po, c => by
    simp only [chkSs] at c
    split at c
    · exact pss_imp pss_nil tNext_ev
    · cases c
  | .cons s r, X, W, sc, sts, g, es, sp, tk, po, c => by
    simp only [chkSs] at c
    split at c
    · simp only [Bool.and_eq_true] at c
      exact pss_imp (pss_cons (soundS s g es sp tk po c.1) (soundSs r g es sp tk po c.2)) tSeq_ev
    · cases c
end
/-! ### defs -/
/-- here, in the def f -/
def Sg.at_ (S : Sg) (f : Nat) : Sg := { S with gdH := S.rp f, lamH := S.lam f }
/-- a lambda's qualified name in a def -/
def lamQ (qual : Str) : Str := (qual ++ ".<locals>.") ++ "<lambda>"
/-- the def as a class's method, __eq__, classmethod -/
structure MthAt (S : Sg) (ct : Ct) (K : PySem.W.Frag) (mg : Str → Option Value) (f : Nat) (a : Addr) : Prop where
  mt : ∀ c m, ct.mth c m = some f → ∃ D, mg (S.nm c) = some (.ref D) ∧ Cls K D ∧ Meth K D (S.nm m) a ∧ ∀ g, ct.fld c g = true → S.nm g ≠ S.nm m
  eq : ∀ c, ct.eqm c = some f → ∃ D, mg (S.nm c) = some (.ref D) ∧ PySem.W.findIn K (.ref D) "__eq__" = some (some (.ref a)) ∧ PySem.W.isFn K (.ref a) = true ∧
    PySem.W.findIn K (.ref D) "__ne__" = some (some (.builtin "object.__ne__")) ∧ PySem.W.subIn K (.ref D) (.type "object") = some true
  cm : ∀ c m, ct.cmt c m = some f → ∃ D mc p, mg (S.nm c) = some (.ref D) ∧ ClX.CRead K D mc ∧ ClX.CMet K D mc (S.nm m) p a
/-- what is written of a def -/
structure DefOk (S : Sg) (T : List (Addr × Str)) (cs : List (Addr × Addr)) (ct : Ct) (K : PySem.W.Frag) (mg : Str → Option Value) (f : Nat) (ps : List Str) (fd : Fd) (N : List Str) (st : Stmt) : Prop where
  nm : ∃ a fdt name qual, (S.glo f = true → mg (S.nm f) = some (.ref a)) ∧ (∀ c, S.init c = some f → ∃ D, mg (S.nm c) = some (.ref D) ∧ Mk K D a) ∧ MthAt S ct K mg f a ∧
    FunD K name qual (defArgs st) (defBody st) (defScope st) [] [] a fdt ∧ (∀ (s : Shared) (us : List Value), us.length = ps.length → BindsTo s fdt ⟨us, []⟩ (ps.zip us)) ∧
    (S.lam f = true → ∃ c P, fdt.code = .ref c ∧ (c, P) ∈ cs ∧ (P, lamQ qual) ∈ T ∧ ∀ p ∈ T, p.1 = P → p.2 = lamQ qual)
  sc : FnScope N ps (defScope st)
  np : fd.np = ps.length
  n : fd.n = N.length
  chk : chkSs (S.at_ f) N (defScope st) fd.body (defBody st) = true
theorem spF_len {F : List PV → PHeap → R PV} {m : Nat} (h : ∀ ds h, ds.length ≠ m → F ds h = .stuck) {vs : List V} {H : Hp} {Q : VK} {E : XK} (q : spF G F vs H Q E) : vs.length = m := by
  obtain ⟨φ, h0, ds, rh, rv, p⟩ := q
  rw [← rv.length]
  by_cases e : ds.length = m
  · exact e
  · rw [h ds h0 e] at p; exact p.elim
theorem Scp.self {X : Cx} (hf : ∀ x, X.fn x = true) : Scp X.env.scope.names X where
  loc := fun x h => by simpa [isK] using h
  cel := fun x h => ⟨by simpa [isK] using h, hf x⟩
  vis := fun x h => by
    simp only [isVis, isK, Bool.or_eq_true, beq_iff_eq] at h
    rcases h with (h | h) | h
    · exact .inl h
    · exact .inr (.inl h)
    · exact .inr (.inr h)
  gl := fun x h => by
    have z : X.env.scope.names.lookup x = some .globalImplicit := by simpa [isK] using h
    exact z
  cf := fun x h => h
/-- what is written of the text -/
structure TxtOk (S : Sg) (G : Gc) (cs : List (Addr × Addr)) (ct : Ct) (P : Program) (w : World) (K : PySem.W.Frag) (mg : Str → Option Value) : Prop where
  hP : G.P = P
  hw : G.w = w
  hK : G.K = K
  hmg : G.mg = mg
  nm : G.nm = S.nm
  sl : G.isSl = ct.isSl
  slo : G.slot = ct.slot
  fdl : G.fld = ct.fld
  fns : ∀ f ps fd, S.fn f = some (ps, fd) → ∃ N st, DefOk S G.T cs ct K mg f ps fd N st
  scl : ∀ c D, ct.isSl c = true → mg (S.nm c) = some (.ref D) → SlX.SCls K D
  sls : ∀ c f i D, ct.slot c f = some i → mg (S.nm c) = some (.ref D) → ∃ p, SlX.Slot1 K D (S.nm f) p i
  pcl : ∀ c f D, ct.isSl c = false → ct.fld c f = true → mg (S.nm c) = some (.ref D) → Cls K D ∧ NoAttr K D (S.nm f)
  inj : ∀ c f g i, ct.slot c f = some i → ct.slot c g = some i → f = g
  inn : ∀ c f g, ct.fld c f = true → ct.fld c g = true → S.nm f = S.nm g → f = g
  cst : ∀ x d, S.cst.lookup x = some d → ∃ u v, mg x = some u ∧ RelV v u ∧ ∀ φ H, RepV G φ H d v
  blt : ∀ x, S.blts.contains x = true → mg x = none
  exc : ∀ c, S.exc c = true → ∃ D, mg (S.nm c) = some (.ref D) ∧ PySem.W.keepIn K (.ref D) = true ∧ PySem.W.excIn K D [.type "ValueError", .type "Exception", .type "BaseException", .type "object"] "ValueError.__new__" = true ∧
    PySem.W.subIn K (.ref D) (.type "BaseException") = some true ∧ PySem.W.typeIn K (.ref D) = some (.type "type")
  exm : ∀ c d b, ct.exm c d = some b → ∃ D E, mg (S.nm c) = some (.ref D) ∧ mg (S.nm d) = some (.ref E) ∧ PySem.W.exmOne K (.ref D) (.ref E) = some b
  met : ∀ m, S.met m = true → ∃ hs last g fdt st a Ng, ct.met m = some (hs, last) ∧ mg (S.nm m) = some (.ref g) ∧ FunD K (S.nm m) (S.nm m) (defArgs st) (defBody st) (defScope st) [] [] g fdt ∧ Binds K fdt [a] [] ∧ FnScope Ng [a] (defScope st) ∧
    metB S.nm (defScope st).names a hs last (defBody st) = true ∧ ∀ p ∈ hs, ∃ E, mg (S.nm p.1) = some (.ref E)
  cls : ∀ c, S.cls c = true → ∃ D, mg (S.nm c) = some (.ref D)
  mf : ∀ f, ((∃ c m, ct.mth c m = some f) ∨ (∃ c, ct.eqm c = some f) ∨ ∃ c m, ct.cmt c m = some f) → (∃ ps fd, S.fn f = some (ps, fd)) ∧ S.rp f = false
  sub : ∀ d c b, ct.sub d c = some b → ∃ D E, mg (S.nm d) = some (.ref D) ∧ mg (S.nm c) = some (.ref E) ∧ SlX.SIsi K D ∧ (ct.isSl d = false → Cls K D) ∧ PySem.W.kitOne K (.ref D) (.ref E) = some b
  isb : ∀ c t, (ct.sub c c).isSome = true → t ∈ ["NoneType", "bool", "int", "str", "tuple", "list", "dict"] → ∃ E, mg (S.nm c) = some (.ref E) ∧ PySem.W.kitOne K (.type t) (.ref E) = some false
/-- a def by its body; what leaves it may be locked -/
theorem Inv.frzs {X : Cx} {pins : List (Addr × Obj)} {σ : St} {s : Shared} {R : Hp → Prop} : ∀ {L : List Addr} {H : Hp}, Inv X pins σ H s → Frzs L H R → ∃ H', Inv X pins σ H' s ∧ R H'
  | [], H, I, q => ⟨H, I, q⟩
  | d :: L, H, I, ⟨u, e, mu, q⟩ => by
    obtain ⟨od, I'⟩ := I.lock e mu
    exact Inv.frzs I' (q od)
/-- behind the body: the call's end -/
theorem end_of {CX : CXT} {P : Program} {w : World} {K : PySem.W.Frag} {mg : Str → Option Value} {base : Heap} {N : List Str} {qual : Str} {scope : Scope} {f : Addr} {cdv : Value} {A : Around} {outer : List Env} {s s' : Shared} {H : Hp} {Q : VK} {E : XK} {fl : Flow}
    (q : SP (cxOf CX P w K mg base N qual scope f cdv A outer s H E) [] { nx := fun _ H' => ∃ L, Frzs L H' (Q .non), rt := fun v H' => ∃ L, Frzs L H' (Q v) } fl s') :
    ∃ u, (fl = .ret u ∨ (fl = .next ∧ u = .none)) ∧ CE outer P w H s Q u s' := by
  have done : ∀ {τ : L2.St} {H' : Hp} {v : V} {u : Value}, Inv (cxOf CX P w K mg base N qual scope f cdv A outer s H E) [] τ H' s' → RelV v u → (∃ L, Frzs L H' (Q v)) → CE outer P w H s Q u s' := fun J rv ⟨L, k⟩ =>
    let ⟨H2, J2, k2⟩ := Inv.frzs J k
    ⟨_, H2, J2.os, J2.bare, J2.base, J2.hok, rv, k2⟩
  match fl, q with
  | .ret u, ⟨v, τ, H', J, rv, k⟩ => exact ⟨u, .inl rfl, done J rv k⟩
  | .next, ⟨τ, H', J, k⟩ => exact ⟨.none, .inr ⟨rfl, rfl⟩, done (v := V.non) J rfl k⟩
  | .brk, ⟨_, _, _, k⟩ => exact k.elim
  | .cont, ⟨_, _, _, k⟩ => exact k.elim
open PySem.Spec PyProof.Rows in
theorem fn_ofZ {gz : Bool} {CX : CXT} {P : Program} {w : World} {K : PySem.W.Frag} {mg : Str → Option Value} {base : Heap} {k : Nat} {f : Addr} {fd : FuncData} {name qual : Str} {params : Arguments} {body : List Stmt} {scope : Scope} {N ps : List Str} {sp : Sp}
    (F : FunD K name qual params body scope [] [] f fd) (S : FnScope N ps scope) (len : ∀ vs H Q E, sp vs H Q E → vs.length = ps.length)
    (bd : ∀ (cdv : Value) (A : Around) (outer : List Env) (s : Shared) (H : Hp) (vs : List V) (Q : VK) (E : XK), fd.code = cdv → (gz = true → (cxOf CX P w K mg base N qual scope f cdv A outer s H E).A.guards = some []) → Room k (A.deeper (envOfC qual scope s.heap.objs.size f cdv)) → sp vs H Q E →
      ∃ t, PSs (cxOf CX P w K mg base N qual scope f cdv A outer s H E) body t ∧ t { nx := fun _ H' => ∃ L, Frzs L H' (Q .non), rt := fun v H' => ∃ L, Frzs L H' (Q v) } (start N vs) H) :
    FnOkZ gz P w K mg base CX (k + 1) f fd ps sp where
  len := len
  run := fun A outer s H args us vs Q E hgd room e0 bind rv hsp => by
    obtain ⟨_, _, _, _, _, _, _, cdv, _, _, rfl, at_, code, _, _⟩ := F.ex
    have old : ∀ b o, base.get? b = some o → s.heap.get? b = some o := fun b o e => (e0.bs b o e).1
    have kin := e0.mod.kin.keeps old
    have known : ∀ y ∈ ps.zip us, scope.names.lookup y.1 = some .local ∨ (scope.names.lookup y.1 = some .cell ∧ ((cellsFrom (s.heap.objs.size + 1) scope.names []).lookup y.1).isSome = true) :=
      fun y hy => (S.par y.1 (List.of_mem_zip hy).1).imp id fun c => ⟨c, PySem.W.cellsFrom_some _ _ _ (.inl c)⟩
    obtain ⟨t, runs, start⟩ := bd cdv A outer s H vs Q E rfl hgd (room.deeper _) hsp
    apply codeAny_call_function room.depth (kin _ _ at_) rfl S.co S.gen rfl (PySem.W.codeRec_of kin code)
    apply bind
    apply wpAny_newFunctionEnv_cells S.kind known
    rintro env rfl s1 x
    refine ⟨(e0.mod.nolimit.keeps old).keeps x.toInCall.keep, codeAny_func (wpAny_mono (runs.run [] s1 _ H _ (inv_start S room.hd e0 (len _ _ _ _ hsp) rv x) start) (fun fl s' q => ?_) fun _ _ q => q)⟩
    obtain ⟨u, rfl | ⟨rfl, rfl⟩, ce⟩ := end_of q
    · exact ce
    · exact ce
def tabOf (S : Sg) : Nat → Option Fd := fun f => (S.fn f).map (·.2)
theorem rep_start {φ : List Addr} {H : Hp} {ds : List PV} {vs : List V} {n m : Nat} (q : RepVs G φ H ds vs) (hm : m = ds.length) (N : List Str) (hn : n = N.length) : RepL G φ H (ds.map some ++ List.replicate (n - m) none) (L2.start N vs) := by
  have l1 := q.length
  subst hm
  subst hn
  refine ⟨by simp [L2.start, l1], fun i d e => ?_⟩
  by_cases hi : i < ds.length
  · rw [List.getElem?_append_left (by simpa using hi), List.getElem?_map] at e
    cases z : ds[i]? with
    | none => rw [z] at e; cases e
    | some d' =>
      rw [z] at e
      cases e
      obtain ⟨v, e1, r⟩ := q.get z
      refine ⟨v, ?_, r⟩
      unfold L2.start
      rw [List.getElem?_append_left (by simp; omega), List.getElem?_map, e1]
      rfl
  · rw [List.getElem?_append_right (by simpa using hi), List.getElem?_replicate] at e
    split at e <;> cases e
theorem binds_of {K : PySem.W.Frag} {fdt : FuncData} {ps : List Str} (b : ∀ (s : Shared) (us : List Value), us.length = ps.length → BindsTo s fdt ⟨us, []⟩ (ps.zip us)) : Binds K fdt ps [] := fun s us _ hl => by
  rw [List.append_nil] at hl ⊢
  exact b s us hl
theorem runFs_len {fd : Fd} {C : Orc} {ds : List PV} {h : PHeap} (hl : ds.length ≠ fd.np) : runFs fd C ds h = .stuck := by
  unfold runFs runFn
  rw [if_neg hl]
  cases fd.fz <;> rfl
theorem all_sound {P : Program} {w : World} {K : PySem.W.Frag} {mg : Str → Option Value} {ct : Ct} {cs : List (Addr × Addr)} (T : TxtOk S G cs ct P w K mg) : ∀ (n : Nat) (f : Nat) (ps : List Str) (fd : Fd), S.fn f = some (ps, fd) →
    ∃ a fdt, (S.glo f = true → mg (S.nm f) = some (.ref a)) ∧ (∀ c, S.init c = some f → ∃ D, mg (S.nm c) = some (.ref D) ∧ Mk K D a) ∧ MthAt S ct K mg f a ∧ PySem.W.keepIn K (.ref a) = true ∧
      (∀ (s : Shared) (us : List Value), us.length = ps.length → BindsTo s fdt ⟨us, []⟩ (ps.zip us)) ∧ ∀ base : Heap, (∀ p ∈ cs, LamX.TabB base mg p.1 p.2) → FnOkZ (S.rp f) P w K mg base (L2.CX P w) (4 * n) a fdt ps (spF G (callN ct (tabOf S) n f))
  | 0, f, ps, fd, hf => by
    obtain ⟨N, st, D⟩ := T.fns f ps fd hf
    obtain ⟨a, fdt, name, qual, e1, e2, em, F, b, _⟩ := D.nm
    have no : ∀ {vs H Q E}, ¬ spF G (callN ct (tabOf S) 0 f) vs H Q E := fun ⟨φ, h0, ds, rh, rv, p⟩ => p
    exact ⟨a, fdt, e1, e2, em, F.kp, b, fun base _ => ⟨fun vs H Q E q => (no q).elim, fun A outer s H args us vs Q E hgd hr he hb hv hs => (no hs).elim⟩⟩
  | n + 1, f, ps, fd, hf => by
    obtain ⟨N, st, D⟩ := T.fns f ps fd hf
    obtain ⟨a, fdt, name, qual, e1, e2, em, F, b, lm⟩ := D.nm
    refine ⟨a, fdt, e1, e2, em, F.kp, b, fun base TB => ?_⟩
    have ht : tabOf S f = some fd := by unfold tabOf; rw [hf]; rfl
    refine fn_ofZ (CX := L2.CX P w) (k := 4 * n + 3) F D.sc (fun vs H Q E q => ?_) (fun cdv A outer s H vs Q E hcd hgd hr q => ?_)
    · refine spF_len (fun ds h hne => ?_) q
      simp only [callN, ht]
      exact runFs_len (by rw [D.np]; exact hne)
    · have ih := all_sound T n
      have g : Glob (S.at_ f) G ⟨callN ct (tabOf S) n, ct⟩ (4 * n) (cxOf (L2.CX P w) P w K mg base N qual (defScope st) a cdv A outer s H E) :=
        { K := T.hK, mg := T.hmg, nm := T.nm, P := T.hP, w := T.hw, sl := T.sl, slo := T.slo, fdl := T.fdl, nd := D.sc.nd, calm := rfl, room := hr.mono (by omega), gd := hgd, kind := D.sc.kind,
          fns := fun f' ps' fd' hf' hg => (let ⟨a, fdt, e1, _, _, e2, e3, e4⟩ := ih f' ps' fd' hf'; ⟨a, fdt, e1 hg, e2, binds_of e3, e4 base TB⟩),
          mks := fun c f' ps' fd' hf' hc => (let ⟨a, fdt, _, e1, _, e2, e3, e4⟩ := ih f' ps' fd' hf'; let ⟨D, d1, d2⟩ := e1 c hc; ⟨D, a, fdt, d1, d2, binds_of e3, e4 base TB⟩),
          scl := T.scl, sls := T.sls, pcl := T.pcl, inj := T.inj, inn := T.inn, cst := T.cst, blt := T.blt, exc := T.exc, exm := T.exm, met := T.met, cls := T.cls, sub := T.sub, isb := T.isb,
          mts := fun c m f' hc => (let ⟨⟨ps', fd', hf'⟩, hrp⟩ := T.mf f' (.inl ⟨c, m, hc⟩); let ⟨a, fdt, _, _, M, e2, e3, e4⟩ := ih f' ps' fd' hf'; let ⟨D, d1, d2, d3, d4⟩ := M.mt c m hc; ⟨ps', fd', D, a, fdt, hf', d1, d2, d3, d4, binds_of e3, hrp ▸ e4 base TB⟩),
          eqs := fun c f' hc => (let ⟨⟨ps', fd', hf'⟩, hrp⟩ := T.mf f' (.inr (.inl ⟨c, hc⟩)); let ⟨a, fdt, _, _, M, e2, e3, e4⟩ := ih f' ps' fd' hf'; let ⟨D, d1, d2, d3, d4, d5⟩ := M.eq c hc; ⟨ps', fd', D, a, fdt, hf', d1, d2, d3, d4, d5, binds_of e3, hrp ▸ e4 base TB⟩),
          cms := fun c m f' hc => (let ⟨⟨ps', fd', hf'⟩, hrp⟩ := T.mf f' (.inr (.inr ⟨c, m, hc⟩)); let ⟨a, fdt, _, _, M, e2, e3, e4⟩ := ih f' ps' fd' hf'; let ⟨D, mc, p, d1, d2, d3⟩ := M.cm c m hc; ⟨ps', fd', D, mc, p, a, fdt, hf', d1, d2, d3, binds_of e3, hrp ▸ e4 base TB⟩), lam := fun z => ⟨hr, by
            obtain ⟨c, P, l1, l2, l3, l4⟩ := lm z
            refine ⟨c, P, ?_, TB _ l2, ?_, ?_⟩
            · exact hcd.symm.trans l1
            · exact l3
            · exact l4⟩ }
      refine ⟨_, soundSs fd.body g rfl (Scp.self fun _ => rfl) (takes_of rfl rfl rfl rfl) (passes_of rfl) D.chk, ?_⟩
      obtain ⟨φ, h, ds, rh, rv, p⟩ := q
      simp only [callN, ht] at p
      have p : Post G φ H (runFn fd ⟨callN ct (tabOf S) n, ct⟩ ds h) (fun v H' => ∃ L, Frzs L H' (Q v)) E := by
        unfold runFs at p
        split at p
        · exact seal_post rh p
        · exact Post.mono p fun v H' q => ⟨[], q⟩
      unfold runFn at p
      split at p
      · rename_i hl
        refine ⟨φ, _, h, rh, rep_start rv hl.symm N D.n, ?_⟩
        cases z : exSs ⟨callN ct (tabOf S) n, ct⟩ fd.body (ds.map some ++ List.replicate (fd.n - fd.np) none) h with
        | nx l1 h1 => rw [z] at p; exact fun φ' H' σ' x rh' rl' => p φ' H' _ x rh' .non
        | rt d h1 => rw [z] at p; exact p
        | bk l1 h1 => rw [z] at p; exact p.elim
        | ct l1 h1 => rw [z] at p; exact p.elim
        | exc c fs l1 h1 => rw [z] at p; exact fun φ' H' σ' cls dd x rh' rl' rx => p φ' H' cls dd x rh' rx
        | stuck => rw [z] at p; exact p.elim
      · exact p.elim
/-- the law: the script goes in, True comes out -/
theorem law_post {F : List PV → PHeap → R PV} {K : PySem.W.Frag} {H : Hp} {a : Addr} {ns : List Int} (hK : G.K = K) (hT : ∀ p ∈ G.T, TabZ [] H p.1 p.2) (hS : FzK K H a (ns.map V.int)) (h : ∃ h', F [.scr ns] [] = .ok (.bl true) h') :
    spF G F [.ref a] H (fun v _ => v = .bl true) (fun _ _ _ => False) := by
  obtain ⟨h', e⟩ := h
  refine ⟨[], [], [.scr ns], ⟨hT, rfl, List.nodup_nil, fun i o a h1 => by simp at h1⟩, .cons (.scr (hK ▸ hS)) .nil, ?_⟩
  rw [e]
  intro φ' H' v x rh rv
  cases rv
  rfl
end
end Zed
end
section
set_option Elab.async false
set_option linter.all false
set_option maxRecDepth 100000
set_option maxHeartbeats 1000000
/-! ZedG: from the head to the law's call; the law's def may want to know that no repr is under way -/
namespace Zed
open PySem PySem.Spec PyProof.Rows L2
def tabO : Obj := { cls := .none, data := .fields #[] }
/-- what is tracked at first: the script, unless it is written; the tables -/
def H0 (K : PySem.W.Frag) (a : Addr) (ob : Obj) (xs : List V) (T : List Addr) : Hp := fun b => if b ∈ T then some (.tbl #[]) else if (K.lookup a).isNone = true ∧ b = a then some (.frz ob (.lst xs)) else none
section
variable {K : PySem.W.Frag} {a b : Addr} {ob o : Obj} {xs : List V} {T : List Addr} {u : HO} {h : Heap}
theorem h0_tab (hb : b ∈ T) : H0 K a ob xs T b = some (.tbl #[]) := if_pos hb
theorem h0_cases (e : H0 K a ob xs T b = some u) : (b ∈ T ∧ u = .tbl #[]) ∨ (K.lookup a = none ∧ b = a ∧ u = .frz ob (.lst xs)) := by
  unfold H0 at e
  split at e
  · rename_i z; cases e; exact .inl ⟨z, rfl⟩
  · split at e
    · rename_i z; cases e; exact .inr ⟨by simpa using z.1, z.2, rfl⟩
    · cases e
/-- where something else stands, nothing is tracked -/
theorem h0_none (isT : ∀ p ∈ T, h.get? p = some tabO) (isA : h.get? a = some ob) (e : h.get? b = some o) (n1 : o ≠ tabO) (n2 : o ≠ ob) : H0 K a ob xs T b = none := by
  cases z : H0 K a ob xs T b with
  | none => rfl
  | some u =>
    rcases h0_cases z with ⟨hb, _⟩ | ⟨_, rfl, _⟩
    · rw [isT b hb] at e; exact absurd (Option.some.inj e).symm n1
    · rw [isA] at e; exact absurd (Option.some.inj e).symm n2
end
theorem law_callZ {gz : Bool} {P : Program} {w : World} {K : PySem.W.Frag} {mg mb : Str → Option Value} {k : Nat} {fa a : Addr} {cs : List (Addr × Addr)} {fd : FuncData} {x : Str} {sp : Sp} {s : Shared} {vs : List Value} {ns : List Int}
    (KX : K.In s.heap) (glob : s.heap.Ns mainGlobals mg) (bns : s.heap.Ns builtinsNs mb) (boot : ∀ x : Str, x ≠ "__name__" → mb x = bootBuiltins x) (lim : s.heap.NoLimit) (gens : s.gens = #[])
    (isT : ∀ p ∈ cs, s.heap.get? p.2 = some tabO) (nT : ∀ p ∈ cs, K.lookup p.2 = none) (hd : ∀ p ∈ cs, PySem.W.codeHdIn K p.1 p.2 = true)
    (bm : ∃ (bm : Addr) (ob : Obj), mg "__builtins__" = some (.ref bm) ∧ bm ≠ builtinsNs ∧ s.heap.get? bm = some ob ∧ ob.cls = .type "module" ∧ ob.dict = some builtinsNs ∧ ob.data = .plain)
    (isA : s.heap.get? a = some { cls := .type "list", data := .seq vs.toArray }) (hints : IntsAre vs ns) (len : ns.length ≤ sizeLine) (room : Room k callerA)
    (F : ∀ base : Heap, (∀ p ∈ cs, LamX.TabB base mg p.1 p.2) → FnOkZ gz P w K mg base (L2.CX P w) k fa fd [x] sp) (bind : ∀ (s : Shared) (u : Value), BindsTo s fd ⟨[u], []⟩ [(x, u)])
    (want : ∀ H : Hp, (∀ p ∈ cs, H p.2 = some (.tbl #[])) → FzK K H a (ns.map V.int) → sp [.ref a] H (fun v _ => v = .bl true) fun _ _ _ => False) :
    codeAny (model P w) callerA (.call (.ref fa) ⟨[.ref a], []⟩) (fun r s' => r = .ok (.ret (.bool true)) ∧ OldK s.heap s'.heap ∧ s'.os = s.os ∧ AllBare s'.gens) s := by
  let ob : Obj := { cls := .type "list", data := .seq vs.toArray }
  let T : List Addr := cs.map (·.2)
  let H : Hp := H0 K a ob (ns.map V.int) T
  have vals := vals_ints hints
  have tT : ∀ p ∈ T, s.heap.get? p = some tabO := fun p hp => by
    obtain ⟨q, hq, e⟩ := List.mem_map.mp hp
    rw [← e]; exact isT q hq
  have free : ∀ {b : Addr} {o : Obj}, s.heap.get? b = some o → o.data ≠ tabO.data → o.data ≠ ob.data → H b = none := fun e n1 n2 => h0_none tT isA e (fun z => n1 (by rw [z])) fun z => n2 (by rw [z])
  have stays : ∀ {b : Addr} {o : Obj}, s.heap.get? b = some o → H b = none → (hidT s.heap H).get? b = some o := fun e n => hidT_get e n
  have spaces : ∀ {b : Addr} {m : Str → Option Value}, s.heap.Ns b m → (hidT s.heap H).Ns b m := fun ⟨o, es, ep, e, d, r⟩ =>
    ⟨o, es, ep, stays e (free e (fun z => by rw [d] at z; cases z) fun z => by rw [d] at z; cases z), d, r⟩
  have kin : K.In (hidT s.heap H) := fun b o e => stays (KX b o e) <| by
    cases z : H b with
    | none => rfl
    | some u =>
      exfalso
      rcases h0_cases z with ⟨hb, _⟩ | ⟨na, rfl, _⟩
      · obtain ⟨q, hq, e2⟩ := List.mem_map.mp hb
        rw [← e2, nT q hq] at e; cases e
      · rw [na] at e; cases e
  have modu : L2.Mod K mg (hidT s.heap H) := ⟨kin, spaces glob, ⟨mb, spaces bns, boot⟩, let ⟨mc, l1, l2⟩ := lim; ⟨mc, spaces l1, l2⟩⟩
  have tabs : ∀ p ∈ cs, LamX.TabB (hidT s.heap H) mg p.1 p.2 := fun p hp => by
    obtain ⟨m, om, b1, b2, b3, b4, b5, b6⟩ := bm
    obtain ⟨og, es, ep, g1, g2, _⟩ := glob
    refine ⟨PySem.W.codeHd_of_K kin (hd p hp), ⟨m, om, b1, b2, fun z => ?_, fun z => ?_, stays b3 (free b3 (fun z => ?_) fun z => ?_), b4, b5, b6⟩, fun z => ?_⟩
    · rw [z, g1] at b3; cases b3; rw [g2] at b6; cases b6
    · rw [z, isT p hp] at b3; cases b3; cases b6
    · rw [b6] at z; cases z
    · rw [b6] at z; cases z
    · rw [z, isT p hp] at g1; cases g1; cases g2
  have holds : HOk P w H s.heap := fun b u e => by
    rcases h0_cases e with ⟨hb, rfl⟩ | ⟨_, rfl, rfl⟩
    · exact tT b hb
    · exact ⟨isA, by simpa using len, vs, _, vals, isA⟩
  have scr : FzK K H a (ns.map V.int) := by
    cases z : K.lookup a with
    | some o =>
      have e := KX a o z
      rw [isA] at e
      cases e
      exact .inr ⟨_, vs.toArray, _, z, rfl, rfl, rfl, by have := vals.length; simp at this; simp; omega, by simpa using vals⟩
    | none =>
      refine .inl ⟨ob, ?_⟩
      have na : a ∉ T := fun hm => by
        have := tT a hm
        rw [isA] at this; cases this
      show (if a ∈ T then _ else _) = _
      rw [if_neg na, if_pos ⟨by rw [z]; rfl, rfl⟩]
  have e0 : Env0 P w K mg (hidT s.heap H) callerA [] s H := ⟨rfl, modu, fun b o e => of_hidT e, Nat.le_of_eq (hidT_size _ _), trivial, (fun b hb => nomatch hb), holds, .of_eq gens⟩
  refine codeAny_mono ((F _ tabs).run callerA [] s H ⟨[.ref a], []⟩ [.ref a] [.ref a] _ _ (fun _ => rfl) room e0 (bind s (.ref a)) (.cons rfl .nil) (want H (fun p hp => h0_tab (List.mem_map.mpr ⟨p, hp, rfl⟩)) scr)) fun r s' end_ => ?_
  match r, end_ with
  | .error e, z => exact (by obtain ⟨_, _, _, _, _, _, _, _, _, _, _, _, q⟩ := z; exact q.elim)
  | .ok (.ret u), ⟨v, H', os, bare, un, ok', rel, q⟩ =>
    have q : v = .bl true := q
    subst q
    obtain rfl : u = Value.bool true := rel
    have same : ∀ b o, b ∉ T → s.heap.get? b = some o → s'.heap.get? b = some o := fun b o nb e => by
      cases z : H b with
      | none => exact un.keep b o e z (fun hm => nomatch hm) (fun hm => nomatch hm)
      | some t =>
        rcases h0_cases z with ⟨hb, _⟩ | ⟨_, rfl, rfl⟩
        · exact absurd hb nb
        · obtain ⟨k1, _⟩ := holds _ _ z
          obtain ⟨k2, _⟩ := ok' _ _ (un.frzs _ _ _ z)
          rw [e] at k1; cases k1; exact k2
    have grew : ∀ b, b ∈ T → ∃ more : Array Value, s'.heap.get? b = some { cls := .none, data := .fields more } := fun b hb => by
      obtain ⟨more, z⟩ := un.tbls b #[] (h0_tab hb)
      exact ⟨_, ok' b _ z⟩
    refine ⟨rfl, ⟨fun b o e => ?_, fun b o e => ?_⟩, os, bare⟩
    · by_cases hb : b ∈ T
      · obtain ⟨p, hp, rfl⟩ := List.mem_map.mp hb
        obtain ⟨more, e2⟩ := grew _ hb
        rw [isT p hp] at e
        cases e
        have code := PySem.W.codeHd_of_K KX (hd p hp)
        exact .inr (.inl ⟨(code.tab (isT p hp)).isCodeTable, rfl, #[], more, rfl, by rw [Array.empty_append]; exact e2⟩)
      · exact .inl (same b o hb e)
    · by_cases hb : b ∈ T
      · obtain ⟨more, e2⟩ := grew b hb
        exact ⟨_, e2⟩
      · exact ⟨o, same b o hb e⟩
end Zed
end
section
set_option Elab.async false
set_option linter.all false
set_option maxRecDepth 100000
/-! ZedH: one look at the laid heap, with defs that stand in records (classmethods, properties). -/
namespace HeZ
open PySem L2 He He5
def asY (g : Addr → Option Obj) (n : Nat) : List Addr := asD g n ++ [cStatics]
abbrev frY (g : Addr → Option Obj) (n : Nat) : PySem.W.Frag := frT g (asY g n)
abbrev AlY : Type := AlX × AlD
def obsY (n : Nat) (fa : List Fa) (fn : List DefD) (tf : List Defn) (ex : PySem.W.Frag → Bool) (fw : List DefA) (g : Addr → Option Obj) : AlY :=
  ((obsT fa fn [] (frY g n), ex (frY g n) && tabsB g tf (frY g n)), obsA [] fw (frY g n))
def valY (fn : List DefD) (fw : List DefA) (w : World) : AlY := (valX fn [] w, valA fw)
structure SaysY (fa : List Fa) (fn : List DefD) (tf : List Defn) (ex : PySem.W.Frag → Bool) (fw : List DefA) (w : World) (h : Heap) (K : PySem.W.Frag) : Prop where
  x : SaysX fa fn [] tf ex w h K
  a : SaysA [] fw K
theorem saysY_of {n : Nat} {fa : List Fa} {fn : List DefD} {tf : List Defn} {ex : PySem.W.Frag → Bool} {fw : List DefA} {w : World} {h : Heap} (e : obsY n fa fn tf ex fw h.get? = valY fn fw w) : SaysY fa fn tf ex fw w h (frY h.get? n) := by
  have e0 : (obsT fa fn [] (frY h.get? n), ex (frY h.get? n) && tabsB h.get? tf (frY h.get? n)) = valX fn [] w := congrArg (fun z : AlY => z.1) e
  have e3 : obsA [] fw (frY h.get? n) = valA fw := congrArg (fun z : AlY => z.2) e
  have e1 : obsT fa fn [] (frY h.get? n) = valT fn [] w := congrArg (fun z : AlX => z.1) e0
  have e2 : (ex (frY h.get? n) && tabsB h.get? tf (frY h.get? n)) = true := congrArg (fun z : AlX => z.2) e0
  obtain ⟨h1, h2⟩ := ba e2
  have key : ∀ p ∈ tf, PySem.W.codeHdIn (frY h.get? n) (cT (frY h.get? n) p).1 (cT (frY h.get? n) p).2 = true ∧ ∃ o, h.get? (cT (frY h.get? n) p).2 = some o ∧ emptyTab o = true := fun p hp => by
    obtain ⟨h3, h4⟩ := ba (List.all_eq_true.mp h2 p hp)
    refine ⟨h3, ?_⟩
    cases q : h.get? (cT (frY h.get? n) p).2 with
    | none =>
      rw [q] at h4
      cases h4
    | some o =>
      rw [q] at h4
      exact ⟨o, rfl, h4⟩
  exact ⟨⟨e1, h1, fun p hp => (key p hp).1, fun p hp => by
    obtain ⟨_, o, q, z⟩ := key p hp
    exact frT_none q z, fun p hp => by
    obtain ⟨_, o, q, z⟩ := key p hp
    rw [q, emptyTab_eq z]⟩, e3⟩
def hookY (n : Nat) (fa : List Fa) (fn : List DefD) (tf : List Defn) (ex : PySem.W.Frag → Bool) (fw : List DefA) : PySem.W.Hook where
  α := AlY
  obs := fun s => obsY n fa fn tf ex fw s.heap.get?
  val := fun w => valY fn fw w
  says := fun w h => ∃ K : PySem.W.Frag, K.In h ∧ SaysY fa fn tf ex fw w h K
  of := fun _ _ e => ⟨_, frT_in, saysY_of e⟩
  keeps := fun _ _ _ ⟨K, hK, c⟩ k => ⟨K, PySem.W.Frag.In.keeps hK k, ⟨⟨c.x.t, c.x.more, c.x.hd, c.x.out, fun p hp => k _ _ (c.x.empty p hp)⟩, c.a⟩⟩
theorem obsY_eq {n : Nat} {fa : List Fa} {fn : List DefD} {tf : List Defn} {ex : PySem.W.Frag → Bool} {fw : List DefA} {g : Addr → Option Obj} {s : Shared} (h : ∀ a, g a = s.heap.get? a) : obsY n fa fn tf ex fw g = (hookY n fa fn tf ex fw).obs s := by
  have e : g = s.heap.get? := funext h
  rw [e] <;> rfl
end HeZ
end
section
set_option Elab.async false
set_option linter.all false
set_option maxRecDepth 100000
set_option maxHeartbeats 4000000
namespace Zed
open PySem L2
/-! ### a law's table -/
/-- a def: its number, where it stands (a module's name; a class and its method), its name, qualified name, parameters, body, slots, text -/
structure Row where
  id : Nat
  at_ : Str × Option Str
  name : Str
  qual : Str
  ps : List Str
  fd : Fd
  N : List Str
  st : Stmt
  /-- in a classmethod's record -/
  wr : Bool := false
/-- a class: its number, name, __init__'s number; with slots: the attributes' places; else the plain attributes -/
structure CRow where
  id : Nat
  name : Str
  init : Option Nat
  isSl : Bool
  slots : List (Nat × Nat)
  flds : List Nat
/-- a def that calls a lambda and tells how it ended: its number, parameter, slots, text, what it tells -/
structure MRow where
  id : Nat
  a : Str
  N : List Str
  st : Stmt
  hs : List (Nat × Str)
  last : Str
/-- a law's text -/
structure Tx where
  nms : List (Nat × Str)
  rows : List Row
  crs : List CRow
  cst : List (Str × PV)
  blts : List Str
  /-- own errors; true: made with a text -/
  errs : List (Nat × Bool)
  exms : List (Nat × Nat × Bool)
  mets : List MRow
  rps : List Nat
  lams : List Nat
  /-- methods: class, name, def; __eq__: class, def; classmethods; classes of classes -/
  mths : List (Nat × Nat × Nat) := []
  eqms : List (Nat × Nat) := []
  cmts : List (Nat × Nat × Nat) := []
  subs : List (Nat × Nat × Bool) := []
def Tx.nm (t : Tx) (k : Nat) : Str := (t.nms.lookup k).getD ""
def sgOf (t : Tx) : Sg where
  nm := t.nm
  fn := fun k => (t.rows.find? (fun r => r.id == k)).map fun r => (r.ps, r.fd)
  glo := fun k => match t.rows.find? (fun r => r.id == k) with
    | some r => r.at_.2.isNone
    | none => false
  init := fun c => match t.crs.find? (fun r => r.id == c) with
    | some r => r.init
    | none => none
  cst := t.cst
  blts := t.blts
  rp := t.rps.contains
  exc := fun c => t.errs.contains (c, true)
  met := fun k => (t.mets.find? (fun r => r.id == k)).isSome
  lam := t.lams.contains
  cls := fun c => (t.crs.find? (fun r => r.id == c)).isSome
  gdH := false
  lamH := false
def ctOf (t : Tx) : Ct where
  isSl := fun c => match t.crs.find? (fun r => r.id == c) with
    | some r => r.isSl
    | none => false
  slot := fun c f => match t.crs.find? (fun r => r.id == c) with
    | some r => if r.isSl then r.slots.lookup f else none
    | none => none
  fld := fun c f => match t.crs.find? (fun r => r.id == c) with
    | some r => r.flds.contains f
    | none => false
  met := fun k => (t.mets.find? (fun r => r.id == k)).map fun r => (r.hs, r.last)
  exm := fun c d => (t.exms.find? (fun p => p.1 == c && p.2.1 == d)).map fun p => p.2.2
  mth := fun c m => (t.mths.find? (fun p => p.1 == c && p.2.1 == m)).map fun p => p.2.2
  sub := fun c d => (t.subs.find? (fun p => p.1 == c && p.2.1 == d)).map fun p => p.2.2
  eqm := fun c => (t.eqms.find? (fun p => p.1 == c)).map fun p => p.2
  cmt := fun c m => (t.cmts.find? (fun p => p.1 == c && p.2.1 == m)).map fun p => p.2.2
def nodupB : List Str → Bool
  | [] => true
  | x :: r => !r.contains x && nodupB r
theorem nodupB_ok : ∀ {l : List Str}, nodupB l = true → l.Nodup
  | [], _ => List.nodup_nil
  | x :: r, h => by
    simp only [nodupB, Bool.and_eq_true, Bool.not_eq_true'] at h
    have nx : x ∉ r := fun q => by
      have z : r.contains x = true := by simpa using q
      rw [z] at h
      exact Bool.noConfusion h.1
    exact List.nodup_cons.mpr ⟨nx, nodupB_ok h.2⟩
def nodupN : List Nat → Bool
  | [] => true
  | x :: r => !r.contains x && nodupN r
theorem slots_inj : ∀ {l : List (Nat × Nat)}, nodupN (l.map (·.2)) = true → ∀ {f g i : Nat}, l.lookup f = some i → l.lookup g = some i → f = g
  | [], _, f, g, i, h1, _ => by cases h1
  | (k, j) :: r, h, f, g, i, h1, h2 => by
    simp only [List.map_cons, nodupN, Bool.and_eq_true, Bool.not_eq_true'] at h
    have mem : ∀ {x : Nat}, r.lookup x = some j → False := fun {x} hx => by
      have : j ∈ r.map (·.2) := by
        clear h h1 h2
        induction r with
        | nil => cases hx
        | cons p t ih =>
          rw [List.lookup_cons] at hx
          cases z : x == p.1 with
          | true => rw [z] at hx; cases hx; exact List.mem_cons_self
          | false => rw [z] at hx; exact List.mem_cons_of_mem _ (ih hx)
      have z : (r.map (·.2)).contains j = true := by simpa using this
      rw [z] at h; cases h.1
    rw [List.lookup_cons] at h1 h2
    cases z1 : f == k with
    | true =>
      rw [z1] at h1
      cases h1
      cases z2 : g == k with
      | true => rw [beq_iff_eq.mp z1, beq_iff_eq.mp z2]
      | false => rw [z2] at h2; exact (mem h2).elim
    | false =>
      rw [z1] at h1
      cases z2 : g == k with
      | true => rw [z2] at h2; cases h2; exact (mem h1).elim
      | false => rw [z2] at h2; exact slots_inj h.2 h1 h2
theorem map_inj {F : Nat → Str} : ∀ {l : List Nat}, nodupB (l.map F) = true → ∀ {f g : Nat}, f ∈ l → g ∈ l → F f = F g → f = g
  | [], _, f, g, h1, _, _ => by cases h1
  | k :: r, h, f, g, h1, h2, e => by
    simp only [List.map_cons, nodupB, Bool.and_eq_true, Bool.not_eq_true'] at h
    have no : ∀ {x : Nat}, x ∈ r → F x = F k → False := fun {x} hx q => by
      have z : (r.map F).contains (F k) = true := by
        have : F k ∈ r.map F := List.mem_map.mpr ⟨x, hx, q⟩
        simpa using this
      rw [z] at h; cases h.1
    rcases List.mem_cons.mp h1 with a | a
    · rcases List.mem_cons.mp h2 with b | b
      · rw [a, b]
      · subst a; exact (no b e.symm).elim
    · rcases List.mem_cons.mp h2 with b | b
      · subst b; exact (no a e).elim
      · exact map_inj h.2 a b e
def scopeB (N ps : List Str) (sc : Scope) : Bool :=
  (sc.kind == .function) && !sc.isCoroutine && !sc.isGenerator && nodupB N && (N.take ps.length == ps) &&
  (ps.all fun x => sc.names.lookup x == some .local || sc.names.lookup x == some .cell) && sc.names.all fun y => y.2 != .free
theorem scopeB_ok {N ps : List Str} {sc : Scope} (h : scopeB N ps sc = true) : FnScope N ps sc := by
  simp only [scopeB, Bool.and_eq_true, beq_iff_eq, Bool.not_eq_true', List.all_eq_true, Bool.or_eq_true, bne_iff_ne] at h
  obtain ⟨⟨⟨⟨⟨⟨h1, h2⟩, h3⟩, h4⟩, h5⟩, h6⟩, h7⟩ := h
  exact ⟨h1, h2, h3, nodupB_ok h4, h5, h6, h7⟩
/-- a row's own look: a def of the module under its name; a method __init__ that its class names -/
def rowB (S : Sg) (crs : List CRow) (r : Row) : Bool := scopeB r.N r.ps (defScope r.st) && (r.fd.np == r.ps.length) && (r.fd.n == r.N.length) && chkSs (S.at_ r.id) r.N (defScope r.st) r.fd.body (defBody r.st) && (!r.wr || !S.lam r.id) && (!r.wr || crs.all fun c => c.init != some r.id) && (!r.wr || r.at_.2.isSome) &&
  (match r.at_.2 with
    | none => (r.at_.1 == S.nm r.id) && crs.all fun c => c.init != some r.id
    | some m => crs.all fun c => c.init != some r.id || ((m == ("__init__" : Str)) && (r.at_.1 == c.name)))
def mrB (S : Sg) (r : MRow) : Bool := scopeB r.N [r.a] (defScope r.st) && metB S.nm (defScope r.st).names r.a r.hs r.last (defBody r.st)
def crB (S : Sg) (c : CRow) : Bool := (S.nm c.id == c.name) && nodupN (c.slots.map (·.2)) && nodupB (c.flds.map S.nm)
def BindOk (r : Row) : Prop := ∀ (kV doc pm : Value) (an : Option Addr) (cdv ct : Value) (us : List Value), us.length = r.ps.length → bindArgs (PySem.W.fnOf r.name r.qual (defArgs r.st) (defBody r.st) (defScope r.st) .none kV doc pm an cdv ct) ⟨us, []⟩ = pure (r.ps.zip us)
def BindsAll : List Row → Prop
  | [] => True
  | r :: rs => BindOk r ∧ BindsAll rs
theorem BindsAll.mem : ∀ {rs : List Row}, BindsAll rs → ∀ {r : Row}, r ∈ rs → BindOk r
  | _ :: _, ⟨a, _⟩, _, .head _ => a
  | _ :: _, ⟨_, b⟩, _, .tail _ h => BindsAll.mem b h
/-! ### constants of the module -/
mutual
def relP (K : PySem.W.Frag) : PV → Value → Bool
  | .non, .none => true
  | .bl b, .bool c => b == c
  | .int i, .int j _ => i == j
  | .str x, .str y _ => x == y
  | .tup ds, .ref a => match K.lookup a with
    | some o => (match o.cls, o.data with
      | .type t, .seq its _ => (t == "tuple") && decide (its.size ≤ sizeLine) && relPs K ds its.toList
      | _, _ => false)
    | none => false
  | _, _ => false
def relPs (K : PySem.W.Frag) : List PV → List Value → Bool
  | [], [] => true
  | d :: ds, u :: us => relP K d u && relPs K ds us
  | _, _ => false
end
mutual
theorem relP_ok {G : Gc} : ∀ (d : PV) (u : Value), relP G.K d u = true → ∃ v, RelV v u ∧ ∀ φ H, RepV G φ H d v
  | .non, u, h => by cases u <;> simp [relP] at h; exact ⟨.non, rfl, fun _ _ => .non⟩
  | .bl b, u, h => by cases u <;> simp [relP] at h; subst h; exact ⟨.bl b, rfl, fun _ _ => .bl b⟩
  | .int b, u, h => by cases u <;> simp [relP] at h; subst h; exact ⟨.int b, ⟨_, rfl⟩, fun _ _ => .int b⟩
  | .str b, u, h => by cases u <;> simp [relP] at h; subst h; exact ⟨.str b, ⟨_, rfl⟩, fun _ _ => .str b⟩
  | .fz _, u, h => by simp [relP] at h
  | .scr _, u, h => by simp [relP] at h
  | .ref _, u, h => by simp [relP] at h
  | .ty _, u, h => by simp [relP] at h
  | .gl _, u, h => by simp [relP] at h
  | .tup ds, u, h => by
    cases u with
    | ref a =>
      simp only [relP] at h
      split at h
      · rename_i o ho
        split at h
        · rename_i t its n e1 e2
          simp only [Bool.and_eq_true, beq_iff_eq, decide_eq_true_eq] at h
          obtain ⟨⟨rfl, h2⟩, h3⟩ := h
          obtain ⟨vs, r1, r2⟩ := relPs_ok ds its.toList h3
          exact ⟨.ref a, rfl, fun φ H => .tup (.inr ⟨o, its, n, ho, e1, e2, h2, r1⟩) (r2 φ H)⟩
        · cases h
      · cases h
    | _ => simp [relP] at h
theorem relPs_ok {G : Gc} : ∀ (ds : List PV) (us : List Value), relPs G.K ds us = true → ∃ vs, Vals vs us ∧ ∀ φ H, RepVs G φ H ds vs
  | [], [], _ => ⟨[], .nil, fun _ _ => .nil⟩
  | [], _ :: _, h => by simp [relPs] at h
  | _ :: _, [], h => by simp [relPs] at h
  | d :: ds, u :: us, h => by
    simp only [relPs, Bool.and_eq_true] at h
    obtain ⟨v, a1, a2⟩ := relP_ok d u h.1
    obtain ⟨vs, b1, b2⟩ := relPs_ok ds us h.2
    exact ⟨v :: vs, .cons a1 b1, fun φ H => .cons (a2 φ H) (b2 φ H)⟩
end
def cstB (K : PySem.W.Frag) (e : Str × PV) : Bool := match PySem.W.nsIn K mainGlobals e.1 with
  | some (some u) => relP K e.2 u
  | _ => false
/-! ### the head: one look -/
def faOf (t : Tx) : List He.Fa := (t.rows.filter fun r => r.at_.2.isNone).map (fun r => He.Fa.glo r.at_.1) ++ t.crs.map (fun c => He.Fa.glo c.name) ++ (t.crs.filter fun c => c.init.isSome).map (fun c => He.Fa.mkr c.name) ++ t.blts.map He.Fa.free ++
  t.errs.map (fun e => He.Fa.glo (t.nm e.1)) ++ t.mets.map fun m => He.Fa.glo (t.nm m.id)
def ddOf (r : Row) : He.DefD := ⟨r.at_, r.name, r.qual, defArgs r.st, defBody r.st, defScope r.st, [], []⟩
def dmOf (t : Tx) (m : MRow) : He.DefD := ⟨(t.nm m.id, none), t.nm m.id, t.nm m.id, defArgs m.st, defBody m.st, defScope m.st, [], []⟩
def daOf (r : Row) : He5.DefA := ⟨fun K => He5.wf K (He.ga K r.at_.1) "classmethod" (r.at_.2.getD ""), r.name, r.qual, defArgs r.st, defBody r.st, defScope r.st, [], []⟩
def fnOfR (t : Tx) : List He.DefD := (t.rows.filter fun r => !r.wr).map ddOf ++ t.mets.map (dmOf t)
def fwOf (t : Tx) : List He5.DefA := (t.rows.filter fun r => r.wr).map daOf
/-- where a row's def stands -/
def adOf (K : PySem.W.Frag) (r : Row) : Addr := if r.wr then (daOf r).at_ K else He.fAd K r.at_
/-- the defs that make lambdas -/
def lmOf (t : Tx) : List Row := t.rows.filter fun r => t.lams.contains r.id
def tfOf (t : Tx) : List He.Defn := (lmOf t).map (·.at_)
/-- a class in the written part -/
def slB (K : PySem.W.Frag) (D : Addr) (f : Str) (i : Nat) : Bool :=
  He.eqO (PySem.W.findIn K (.ref D) f) (some (some (.ref (He.ma K D f)))) && He.eqO (PySem.W.specialIn K (.ref (He.ma K D f)) "__get__") (some (some (.builtin "member_descriptor.__get__"))) &&
  decide (PySem.W.takesIn K (.ref (He.ma K D f)) = some true) && decide (PySem.W.typeIn K (.ref (He.ma K D f)) = some (.type "member_descriptor")) && decide (PySem.W.slotIn K (He.ma K D f) D = some i) && decide (i < 1000)
def clB (nm : Nat → Str) (K : PySem.W.Frag) (c : CRow) : Bool :=
  if c.isSl then
    PySem.W.plainGet K (He.ga K c.name) Str.empty && PySem.W.isClsIn K (He.ga K c.name) && PySem.W.plainOver K (He.ga K c.name) && He.eqO (PySem.W.findIn K (.ref (He.ga K c.name)) "__setattr__") (some (some (.builtin "object.__setattr__"))) &&
    c.slots.all fun p => slB K (He.ga K c.name) (nm p.1) p.2
  else (He.Fa.cls c.name).ok K && c.flds.all fun f => (He.Fa.noat c.name (nm f)).ok K
def errB (nm : Nat → Str) (K : PySem.W.Frag) (e : Nat × Bool) : Bool := !e.2 || (PySem.W.keepIn K (.ref (He.ga K (nm e.1))) && PySem.W.excIn K (He.ga K (nm e.1)) [.type "ValueError", .type "Exception", .type "BaseException", .type "object"] "ValueError.__new__" &&
  decide (PySem.W.subIn K (.ref (He.ga K (nm e.1))) (.type "BaseException") = some true) && decide (PySem.W.typeIn K (.ref (He.ga K (nm e.1))) = some (.type "type")))
def exmB (nm : Nat → Str) (K : PySem.W.Frag) (p : Nat × Nat × Bool) : Bool := decide (PySem.W.exmOne K (.ref (He.ga K (nm p.1))) (.ref (He.ga K (nm p.2.1))) = some p.2.2)
/-- the classes' methods, __eq__, classmethods, what isinstance asks -/
def rowAt (t : Tx) (c f : Nat) (m : Str) (wr : Bool) : Bool := match t.crs.find? (fun r => r.id == c), t.rows.find? (fun r => r.id == f) with
  | some cr, some r => (r.at_ == (cr.name, some m)) && (r.wr == wr) && !t.rps.contains f
  | _, _ => false
def noFld (t : Tx) (c : Nat) (m : Str) : Bool := match t.crs.find? (fun r => r.id == c) with
  | some cr => cr.flds.all fun f => t.nm f != m
  | none => false
def mthB (t : Tx) : Bool := (t.mths.all fun p => rowAt t p.1 p.2.2 (t.nm p.2.1) false && noFld t p.1 (t.nm p.2.1)) && (t.eqms.all fun p => rowAt t p.1 p.2 "__eq__" false) && (t.cmts.all fun p => rowAt t p.1 p.2.2 (t.nm p.2.1) true) &&
  t.subs.all fun p => (t.crs.find? (fun r => r.id == p.1)).isSome && (t.crs.find? (fun r => r.id == p.2.1)).isSome
def isiB (K : PySem.W.Frag) (D : Addr) : Bool := He.eqO (PySem.W.findIn K (.ref D) "__class__") (some (some (.builtin "object.__class__"))) && He.eqO (PySem.W.specialIn K (.builtin "object.__class__") "__get__") (some (some (.builtin "getset_descriptor.__get__"))) &&
  decide (PySem.W.takesIn K (.builtin "object.__class__") = some true) && decide (PySem.W.mroIn K D (.type "object") = some true)
def mtsB (t : Tx) (K : PySem.W.Frag) : Bool := (t.mths.all fun p => (He.Fa.cls (t.nm p.1)).ok K && (He.Fa.meth (t.nm p.1) (t.nm p.2.1)).ok K) &&
  (t.eqms.all fun p => (He.Fa.meth (t.nm p.1) "__eq__").ok K && He.eqO (PySem.W.findIn K (.ref (He.ga K (t.nm p.1))) "__ne__") (some (some (.builtin "object.__ne__"))) && decide (PySem.W.subIn K (.ref (He.ga K (t.nm p.1))) (.type "object") = some true)) &&
  (t.cmts.all fun p => PySem.W.readsIn K (He.ga K (t.nm p.1)) (.type "type") && He5.wrapB K (He.ga K (t.nm p.1)) "classmethod" "classmethod.__get__" (t.nm p.2.1) && PySem.W.fnIn K (He5.wf K (He.ga K (t.nm p.1)) "classmethod" (t.nm p.2.1))) &&
  (t.subs.all fun p => isiB K (He.ga K (t.nm p.1)) && ((ctOf t).isSl p.1 || (He.Fa.cls (t.nm p.1)).ok K) && decide (PySem.W.kitOne K (.ref (He.ga K (t.nm p.1))) (.ref (He.ga K (t.nm p.2.1))) = some p.2.2) &&
    (p.1 != p.2.1 || ["NoneType", "bool", "int", "str", "tuple", "list", "dict"].all fun k => decide (PySem.W.kitOne K (.type k) (.ref (He.ga K (t.nm p.1))) = some false)))
def exOf (t : Tx) (K : PySem.W.Frag) : Bool := mtsB t K && t.cst.all (cstB K) && t.crs.all (clB t.nm K) && t.errs.all (errB t.nm K) && t.exms.all (exmB t.nm K) && nodupN ((lmOf t).map fun r => (He.cT K r.at_).2)
abbrev hookZ (n : Nat) (t : Tx) : PySem.W.Hook := HeZ.hookY n (faOf t) (fnOfR t) (tfOf t) (exOf t) (fwOf t)
/-- the errors that are asked about are known ones -/
def exB (t : Tx) : Bool := t.exms.all fun p => (t.errs.any fun e => e.1 == p.1) && (t.errs.any fun e => e.1 == p.2.1)
def mtB (t : Tx) : Bool := t.mets.all fun m => mrB (sgOf t) m && m.hs.all fun h => t.errs.any fun e => e.1 == h.1
section
variable {t : Tx} {K : PySem.W.Frag} {h : Heap} {mg : Str → Option Value}
theorem lookup_mem {cst : List (Str × PV)} {x : Str} {d : PV} (h : cst.lookup x = some d) : (x, d) ∈ cst := by
  induction cst with
  | nil => cases h
  | cons p r ih =>
    obtain ⟨y, e⟩ := p
    rw [List.lookup_cons] at h
    cases z : x == y with
    | true =>
      rw [z] at h
      cases h
      rw [beq_iff_eq.mp z]
      exact List.mem_cons_self
    | false => rw [z] at h; exact List.mem_cons_of_mem _ (ih h)
theorem lookup_memN {l : List (Nat × Nat)} {x d : Nat} (h : l.lookup x = some d) : (x, d) ∈ l := by
  induction l with
  | nil => cases h
  | cons p r ih =>
    obtain ⟨y, e⟩ := p
    rw [List.lookup_cons] at h
    cases z : x == y with
    | true =>
      rw [z] at h
      cases h
      rw [beq_iff_eq.mp z]
      exact List.mem_cons_self
    | false => rw [z] at h; exact List.mem_cons_of_mem _ (ih h)
def gcOf (t : Tx) (K : PySem.W.Frag) (mg : Str → Option Value) (P : Program) (w : World) : Gc := ⟨K, mg, t.nm, P, w, (ctOf t).isSl, (ctOf t).slot, (ctOf t).fld, (lmOf t).map fun r => ((He.cT K r.at_).2, lamQ r.qual)⟩
def csOf (t : Tx) (K : PySem.W.Frag) : List (Addr × Addr) := (tfOf t).map (He.cT K)
theorem fa_row {r : Row} (h : r ∈ t.rows) (e : r.at_.2 = none) : He.Fa.glo r.at_.1 ∈ faOf t :=
  List.mem_append_left _ (List.mem_append_left _ (List.mem_append_left _ (List.mem_append_left _ (List.mem_append_left _ (List.mem_map.mpr ⟨r, List.mem_filter.mpr ⟨h, by rw [e]; rfl⟩, rfl⟩)))))
theorem fa_cls {c : CRow} (h : c ∈ t.crs) : He.Fa.glo c.name ∈ faOf t :=
  List.mem_append_left _ (List.mem_append_left _ (List.mem_append_left _ (List.mem_append_left _ (List.mem_append_right _ (List.mem_map.mpr ⟨c, h, rfl⟩)))))
theorem fa_mkr {c : CRow} (h : c ∈ t.crs) (e : c.init.isSome = true) : He.Fa.mkr c.name ∈ faOf t :=
  List.mem_append_left _ (List.mem_append_left _ (List.mem_append_left _ (List.mem_append_right _ (List.mem_map.mpr ⟨c, List.mem_filter.mpr ⟨h, e⟩, rfl⟩))))
theorem fa_free {x : Str} (h : x ∈ t.blts) : He.Fa.free x ∈ faOf t :=
  List.mem_append_left _ (List.mem_append_left _ (List.mem_append_right _ (List.mem_map.mpr ⟨x, h, rfl⟩)))
theorem fa_err {e : Nat × Bool} (h : e ∈ t.errs) : He.Fa.glo (t.nm e.1) ∈ faOf t :=
  List.mem_append_left _ (List.mem_append_right _ (List.mem_map.mpr ⟨e, h, rfl⟩))
theorem fa_met {m : MRow} (h : m ∈ t.mets) : He.Fa.glo (t.nm m.id) ∈ faOf t := List.mem_append_right _ (List.mem_map.mpr ⟨m, h, rfl⟩)
def BindMk (t : Tx) (m : MRow) : Prop := ∀ (kV doc pm : Value) (an : Option Addr) (cdv ct : Value) (us : List Value), us.length = 1 → bindArgs (PySem.W.fnOf (t.nm m.id) (t.nm m.id) (defArgs m.st) (defBody m.st) (defScope m.st) .none kV doc pm an cdv ct) ⟨us, []⟩ = pure ([m.a].zip us)
def BindsM (t : Tx) : List MRow → Prop
  | [] => True
  | r :: rs => BindMk t r ∧ BindsM t rs
theorem BindsM.mem : ∀ {rs : List MRow}, BindsM t rs → ∀ {r : MRow}, r ∈ rs → BindMk t r
  | _ :: _, ⟨a, _⟩, _, .head _ => a
  | _ :: _, ⟨_, b⟩, _, .tail _ h => BindsM.mem b h
theorem nodupN_inj {F : Row → Addr} : ∀ {l : List Row}, nodupN (l.map F) = true → ∀ {r q : Row}, r ∈ l → q ∈ l → F r = F q → r = q
  | [], _, r, q, h1, _, _ => by cases h1
  | k :: l, h, r, q, h1, h2, e => by
    simp only [List.map_cons, nodupN, Bool.and_eq_true, Bool.not_eq_true'] at h
    have no : ∀ {x : Row}, x ∈ l → F x = F k → False := fun {x} hx z => by
      have z : (l.map F).contains (F k) = true := by
        have : F k ∈ l.map F := List.mem_map.mpr ⟨x, hx, z⟩
        simpa using this
      rw [z] at h; cases h.1
    rcases List.mem_cons.mp h1 with a | a
    · rcases List.mem_cons.mp h2 with b | b
      · rw [a, b]
      · subst a; exact (no b e.symm).elim
    · rcases List.mem_cons.mp h2 with b | b
      · subst b; exact (no a e).elim
      · exact nodupN_inj h.2 a b e
theorem cread_ofR {K : PySem.W.Frag} {C : Addr} (h : PySem.W.readsIn K C (.type "type") = true) : ClX.CRead K C (.type "type") := by
  refine ⟨h, ?_⟩
  unfold PySem.W.readsIn at h
  simp only [Bool.and_eq_true] at h
  unfold PySem.W.specialIn
  rw [beq_iff_eq.mp h.1.1.1.2, Option.bind_some]
  exact beq_iff_eq.mp h.1.1.2
theorem rowAt_ok {t : Tx} {c f : Nat} {m : Str} {wr : Bool} (h : rowAt t c f m wr = true) : ∃ cr r, t.crs.find? (fun r => r.id == c) = some cr ∧ t.rows.find? (fun r => r.id == f) = some r ∧ r.at_ = (cr.name, some m) ∧ r.wr = wr ∧ t.rps.contains f = false := by
  unfold rowAt at h
  split at h
  · rename_i cr r h1 h2
    simp only [Bool.and_eq_true, beq_iff_eq, Bool.not_eq_true'] at h
    exact ⟨cr, r, h1, h2, h.1.1, h.1.2, h.2⟩
  · cases h
theorem txt_of (P : Program) (w : World) (X : K.In h) (Gn : h.Ns mainGlobals mg) (cY : HeZ.SaysY (faOf t) (fnOfR t) (tfOf t) (exOf t) (fwOf t) w h K) (smt : mthB t = true) (st : t.rows.all (rowB (sgOf t) t.crs) = true) (sc : t.crs.all (crB (sgOf t)) = true) (sx : exB t = true) (sm : mtB t = true) (b : BindsAll t.rows) (bm : BindsM t t.mets) :
    TxtOk (sgOf t) (gcOf t K mg P w) (csOf t K) (ctOf t) P w K mg := by
  have c := cY.x
  have c1 : He.SaysD (faOf t) (fnOfR t) K := c.t.d
  have c23 := c.more
  simp only [exOf, Bool.and_eq_true] at c23
  obtain ⟨⟨⟨⟨⟨c0, c2⟩, c3⟩, c4⟩, c5⟩, c6⟩ := c23
  simp only [mtsB, Bool.and_eq_true] at c0
  obtain ⟨⟨⟨c01, c02⟩, c03⟩, c04⟩ := c0
  simp only [mthB, Bool.and_eq_true] at smt
  obtain ⟨⟨⟨s01, s02⟩, s03⟩, s04⟩ := smt
  have fact : ∀ f, f ∈ faOf t → f.ok K = true := fun f hf => by
    obtain ⟨i, hi, e⟩ := List.mem_iff_getElem.mp hf
    exact c1.fact i (by rw [List.getElem?_eq_getElem hi, e])
  -- a class, by its number
  have cls : ∀ (c : Nat) (cr : CRow), t.crs.find? (fun r => r.id == c) = some cr → cr ∈ t.crs ∧ (sgOf t).nm c = cr.name ∧ mg cr.name = some (.ref (He.ga K cr.name)) ∧ clB t.nm K cr = true ∧ crB (sgOf t) cr = true := fun c cr hc => by
    have hm := List.mem_of_find?_eq_some hc
    have hid := List.find?_some hc
    have hb := List.all_eq_true.mp sc cr hm
    have hb0 := hb
    simp only [crB, Bool.and_eq_true, beq_iff_eq] at hb0
    refine ⟨hm, ?_, He.glo_ok X Gn (fact (.glo cr.name) (fa_cls hm)), List.all_eq_true.mp c3 cr hm, hb⟩
    rw [← beq_iff_eq.mp hid]; exact hb0.1.1
  have dEq : ∀ {c : Nat} {cr : CRow} {D : Addr}, t.crs.find? (fun r => r.id == c) = some cr → mg ((sgOf t).nm c) = some (.ref D) → D = He.ga K cr.name := fun {c cr D} hc hD => by
    obtain ⟨_, e1, e2, _⟩ := cls c cr hc
    rw [e1, e2] at hD
    cases hD; rfl
  -- an error, by its number
  have err : ∀ (c : Nat), (t.errs.any fun e => e.1 == c) = true → mg (t.nm c) = some (.ref (He.ga K (t.nm c))) := fun c hc => by
    obtain ⟨e, he, z⟩ := List.any_eq_true.mp hc
    rw [← beq_iff_eq.mp z]
    exact He.glo_ok X Gn (fact _ (fa_err he))
  refine ⟨rfl, rfl, rfl, rfl, rfl, rfl, rfl, rfl, fun f ps fd hf => ?_, fun c D hc hD => ?_, fun c f i D hc hD => ?_, fun c f D hs hc hD => ?_, fun c f g i h1 h2 => ?_, fun c f g h1 h2 e => ?_, fun x d hx => ?_, fun x hx => ?_, fun c hc => ?_, fun c d v hv => ?_, fun m hm => ?_, fun c hc => ?_, fun f hf => ?_, fun d c b hb => ?_, fun c k hc hk => ?_⟩
  · have hf0 : (t.rows.find? (fun r => r.id == f)).map (fun r => (r.ps, r.fd)) = some (ps, fd) := hf
    obtain ⟨r, hr, e⟩ := omap hf0
    cases e
    have hm := List.mem_of_find?_eq_some hr
    have hid0 := List.find?_some hr
    have hid : r.id = f := beq_iff_eq.mp hid0
    have hb := List.all_eq_true.mp st r hm
    simp only [rowB, Bool.and_eq_true, beq_iff_eq] at hb
    obtain ⟨⟨⟨⟨⟨⟨⟨b1, b2⟩, b3⟩, b4⟩, bw1⟩, bw2⟩, bw3⟩, b5⟩ := hb
    rw [hid] at b4
    refine ⟨r.N, r.st, ⟨?_, scopeB_ok b1, b2, b3, b4⟩⟩
    obtain ⟨fdt, F⟩ : ∃ fdt, FunD K r.name r.qual (defArgs r.st) (defBody r.st) (defScope r.st) [] [] (adOf K r) fdt := by
      cases hw : r.wr with
      | false =>
        obtain ⟨fdt, F0⟩ := c1.defs (d := ddOf r) (List.mem_append_left _ (List.mem_map.mpr ⟨r, List.mem_filter.mpr ⟨hm, by rw [hw]; rfl⟩, rfl⟩))
        exact ⟨fdt, by unfold adOf; rw [hw]; exact F0⟩
      | true =>
        obtain ⟨i, hi, e⟩ := List.mem_iff_getElem.mp (show daOf r ∈ fwOf t from List.mem_map.mpr ⟨r, List.mem_filter.mpr ⟨hm, hw⟩, rfl⟩)
        obtain ⟨fdt, F0⟩ := cY.a.def_ i (d := daOf r) (by rw [List.getElem?_eq_getElem hi, e])
        exact ⟨fdt, by unfold adOf; rw [hw]; exact F0⟩
    have same : ∀ r' : Row, t.rows.find? (fun r => r.id == f) = some r' → r' = r := fun r' h' => by rw [hr] at h'; exact (Option.some.inj h').symm
    have mthAt : MthAt (sgOf t) (ctOf t) K mg f (adOf K r) := by
      refine ⟨fun c m hc => ?_, fun c hc => ?_, fun c m hc => ?_⟩
      · have hc0 : (t.mths.find? (fun p => p.1 == c && p.2.1 == m)).map (fun p => p.2.2) = some f := hc
        obtain ⟨p, hp, e⟩ := omap hc0
        have hpm := List.mem_of_find?_eq_some hp
        have hq := List.find?_some hp
        simp only [Bool.and_eq_true, beq_iff_eq] at hq
        obtain ⟨rfl, rfl⟩ := hq
        have k1 := List.all_eq_true.mp s01 p hpm
        have k2 := List.all_eq_true.mp c01 p hpm
        simp only [Bool.and_eq_true] at k1 k2
        obtain ⟨cr, r', h1, h2, h3, h4, h5⟩ := rowAt_ok k1.1
        rw [e] at h2
        have := same r' h2
        subst this
        obtain ⟨m1, m2, m3, m4, m5⟩ := cls p.1 cr h1
        have m2 : t.nm p.1 = cr.name := m2
        have ea : adOf K r' = He.ma K (He.ga K cr.name) (t.nm p.2.1) := by
          unfold adOf He.fAd
          rw [h4, h3]; rfl
        rw [m2] at k2
        refine ⟨He.ga K cr.name, by show mg (t.nm p.1) = _; rw [m2]; exact m3, He.cls_ok k2.1, ?_, fun g hg => ?_⟩
        · rw [ea]; exact He.meth_ok k2.2
        · have kf := k1.2
          unfold noFld at kf
          rw [h1] at kf
          have hg0 : (match t.crs.find? (fun r => r.id == p.1) with | some r => r.flds.contains g | none => false) = true := hg
          rw [h1] at hg0
          have hg1 : cr.flds.contains g = true := hg0
          have := List.all_eq_true.mp kf g (by simpa using hg1)
          show t.nm g ≠ t.nm p.2.1
          simpa using this
      · have hc0 : (t.eqms.find? (fun p => p.1 == c)).map (fun p => p.2) = some f := hc
        obtain ⟨p, hp, e⟩ := omap hc0
        have hpm := List.mem_of_find?_eq_some hp
        have hq := List.find?_some hp
        obtain rfl : p.1 = c := beq_iff_eq.mp hq
        have k1 := List.all_eq_true.mp s02 p hpm
        have k2 := List.all_eq_true.mp c02 p hpm
        simp only [Bool.and_eq_true] at k2
        obtain ⟨cr, r', h1, h2, h3, h4, h5⟩ := rowAt_ok k1
        rw [e] at h2
        have := same r' h2
        subst this
        obtain ⟨m1, m2, m3, m4, m5⟩ := cls p.1 cr h1
        have m2 : t.nm p.1 = cr.name := m2
        have ea : adOf K r' = He.ma K (He.ga K cr.name) "__eq__" := by
          unfold adOf He.fAd
          rw [h4, h3]; rfl
        rw [m2] at k2
        have mt := He.meth_ok k2.1.1
        rw [ea]
        exact ⟨He.ga K cr.name, by show mg (t.nm p.1) = _; rw [m2]; exact m3, mt.at_, mt.fn, He.eqO_ok k2.1.2, of_decide_eq_true k2.2⟩
      · have hc0 : (t.cmts.find? (fun p => p.1 == c && p.2.1 == m)).map (fun p => p.2.2) = some f := hc
        obtain ⟨p, hp, e⟩ := omap hc0
        have hpm := List.mem_of_find?_eq_some hp
        have hq := List.find?_some hp
        simp only [Bool.and_eq_true, beq_iff_eq] at hq
        obtain ⟨rfl, rfl⟩ := hq
        have k1 := List.all_eq_true.mp s03 p hpm
        have k2 := List.all_eq_true.mp c03 p hpm
        simp only [Bool.and_eq_true] at k2
        obtain ⟨cr, r', h1, h2, h3, h4, h5⟩ := rowAt_ok k1
        rw [e] at h2
        have := same r' h2
        subst this
        obtain ⟨m1, m2, m3, m4, m5⟩ := cls p.1 cr h1
        have m2 : t.nm p.1 = cr.name := m2
        have ea : adOf K r' = He5.wf K (He.ga K cr.name) "classmethod" (t.nm p.2.1) := by
          unfold adOf daOf
          rw [h4, h3]; rfl
        rw [m2] at k2
        rw [ea]
        exact ⟨He.ga K cr.name, .type "type", _, by show mg (t.nm p.1) = _; rw [m2]; exact m3, cread_ofR k2.1.1, He5.cmet_of k2.1.2 k2.2⟩
    refine ⟨_, fdt, r.name, r.qual, fun hg => ?_, fun c hc => ?_, mthAt, F, FunD.bindsA F (b.mem hm), fun hl => ?_⟩
    · have hg0 : (match t.rows.find? (fun r => r.id == f) with | some r => r.at_.2.isNone | none => false) = true := hg
      rw [hr] at hg0
      have hg0 : r.at_.2.isNone = true := hg0
      have hn : r.at_.2 = none := by
        cases z : r.at_.2 with
        | none => rfl
        | some m => rw [z] at hg0; cases hg0
      rw [hn] at b5
      simp only [Bool.and_eq_true, beq_iff_eq] at b5
      have g := He.glo_ok X Gn (fact (.glo r.at_.1) (fa_row hm hn))
      have hw : r.wr = false := by
        cases z : r.wr with
        | false => rfl
        | true => rw [z, hn] at bw3; cases bw3
      have e0 : adOf K r = He.ga K r.at_.1 := by unfold adOf He.fAd; rw [hw, hn]; rfl
      show mg _ = some (.ref (adOf K r))
      rw [e0, ← hid, ← b5.1]
      exact g
    · have hc0 : (match t.crs.find? (fun r => r.id == c) with | some r => r.init | none => none) = some f := hc
      cases hcr : t.crs.find? (fun r => r.id == c) with
      | none => rw [hcr] at hc0; cases hc0
      | some cr =>
        rw [hcr] at hc0
        obtain ⟨m1, m2, m3, m4, m5⟩ := cls c cr hcr
        have hin : cr.init = some r.id := by rw [hid]; exact hc0
        cases z : r.at_.2 with
        | none =>
          rw [z] at b5
          simp only [Bool.and_eq_true] at b5
          have := List.all_eq_true.mp b5.2 cr m1
          rw [hin] at this
          simp at this
        | some m =>
          rw [z] at b5
          simp only at b5
          have := List.all_eq_true.mp b5 cr m1
          rw [hin] at this
          simp only [bne_self_eq_false, Bool.false_or, Bool.and_eq_true, beq_iff_eq] at this
          have mk := He.mkr_ok (fact (.mkr cr.name) (fa_mkr m1 (by rw [hin]; rfl)))
          have hw : r.wr = false := by
            cases zw : r.wr with
            | false => rfl
            | true =>
              rw [zw, Bool.not_true, Bool.false_or] at bw2
              have := List.all_eq_true.mp bw2 cr m1
              rw [hin] at this
              simp at this
          have e0 : adOf K r = He.ma K (He.ga K cr.name) "__init__" := by
            unfold adOf He.fAd
            rw [hw, z, this.2, this.1]; rfl
          refine ⟨He.ga K cr.name, by rw [m2]; exact m3, ?_⟩
          show Mk K _ (adOf K r)
          rw [e0]
          exact mk
    · have hmem : r ∈ lmOf t := List.mem_filter.mpr ⟨hm, by rw [hid]; exact hl⟩
      have hw : r.wr = false := by
        cases zw : r.wr with
        | false => rfl
        | true =>
          rw [zw] at bw1
          have hl' : (sgOf t).lam r.id = true := by rw [hid]; exact hl
          rw [hl'] at bw1
          cases bw1
      have ead : adOf K r = He.fAd K r.at_ := by unfold adOf; rw [hw]; rfl
      rw [ead] at F
      obtain ⟨oc, od, dV, kV, doc, pm, an, cdv, ct, osl, e1, lk, hcd, _, _⟩ := F.ex
      have hc : ∃ cc, cdv = .ref cc := by
        cases cdv <;> first | exact ⟨_, rfl⟩ | (simp [PySem.W.codeIn] at hcd)
      obtain ⟨cc, rfl⟩ := hc
      have ec : fdt.code = .ref cc := by subst e1; rfl
      have eo : He.codeOf K r.at_ = cc := He.codeOf_eq lk ec
      have et : (He.cT K r.at_).1 = cc := eo
      refine ⟨cc, (He.cT K r.at_).2, ec, List.mem_map.mpr ⟨r.at_, List.mem_map.mpr ⟨r, hmem, rfl⟩, by rw [← et]⟩, List.mem_map.mpr ⟨r, hmem, rfl⟩, fun p hp e => ?_⟩
      obtain ⟨q, hq, rfl⟩ := List.mem_map.mp hp
      rw [nodupN_inj c6 hq hmem e]
  · have hc0 : (match t.crs.find? (fun r => r.id == c) with | some r => r.isSl | none => false) = true := hc
    cases hcr : t.crs.find? (fun r => r.id == c) with
    | none => rw [hcr] at hc0; cases hc0
    | some cr =>
      rw [hcr] at hc0
      obtain ⟨m1, m2, m3, m4, m5⟩ := cls c cr hcr
      have hc1 : cr.isSl = true := hc0
      unfold clB at m4
      rw [if_pos hc1] at m4
      simp only [Bool.and_eq_true] at m4
      rw [dEq hcr hD]
      exact ⟨m4.1.1.1.1, m4.1.1.1.2, m4.1.1.2, He.eqO_ok m4.1.2⟩
  · have hc0 : (match t.crs.find? (fun r => r.id == c) with | some r => if r.isSl then r.slots.lookup f else none | none => none) = some i := hc
    cases hcr : t.crs.find? (fun r => r.id == c) with
    | none => rw [hcr] at hc0; cases hc0
    | some cr =>
      rw [hcr] at hc0
      simp only at hc0
      split at hc0
      · rename_i sl
        obtain ⟨m1, m2, m3, m4, m5⟩ := cls c cr hcr
        unfold clB at m4
        rw [if_pos sl] at m4
        simp only [Bool.and_eq_true] at m4
        have s1 := List.all_eq_true.mp m4.2 (f, i) (lookup_memN hc0)
        simp only [slB, Bool.and_eq_true] at s1
        rw [dEq hcr hD]
        exact ⟨_, He.eqO_ok s1.1.1.1.1.1, He.eqO_ok s1.1.1.1.1.2, of_decide_eq_true s1.1.1.1.2, of_decide_eq_true s1.1.1.2, of_decide_eq_true s1.1.2, of_decide_eq_true s1.2⟩
      · cases hc0
  · have hc0 : (match t.crs.find? (fun r => r.id == c) with | some r => r.flds.contains f | none => false) = true := hc
    have hs0 : (match t.crs.find? (fun r => r.id == c) with | some r => r.isSl | none => false) = false := hs
    cases hcr : t.crs.find? (fun r => r.id == c) with
    | none => rw [hcr] at hc0; cases hc0
    | some cr =>
      rw [hcr] at hc0 hs0
      have hs1 : cr.isSl = false := hs0
      have hc1 : cr.flds.contains f = true := hc0
      obtain ⟨m1, m2, m3, m4, m5⟩ := cls c cr hcr
      unfold clB at m4
      rw [hs1, if_neg Bool.false_ne_true] at m4
      rw [Bool.and_eq_true] at m4
      rw [dEq hcr hD]
      exact ⟨He.cls_ok m4.1, He.noat_ok (List.all_eq_true.mp m4.2 f (by simpa using hc1))⟩
  · have h10 : (match t.crs.find? (fun r => r.id == c) with | some r => if r.isSl then r.slots.lookup f else none | none => none) = some i := h1
    have h20 : (match t.crs.find? (fun r => r.id == c) with | some r => if r.isSl then r.slots.lookup g else none | none => none) = some i := h2
    cases hcr : t.crs.find? (fun r => r.id == c) with
    | none => rw [hcr] at h10; cases h10
    | some cr =>
      rw [hcr] at h10 h20
      simp only at h10 h20
      split at h10
      · rename_i sl
        rw [if_pos sl] at h20
        obtain ⟨m1, m2, m3, m4, m5⟩ := cls c cr hcr
        simp only [crB, Bool.and_eq_true] at m5
        exact slots_inj m5.1.2 h10 h20
      · cases h10
  · have h10 : (match t.crs.find? (fun r => r.id == c) with | some r => r.flds.contains f | none => false) = true := h1
    have h20 : (match t.crs.find? (fun r => r.id == c) with | some r => r.flds.contains g | none => false) = true := h2
    cases hcr : t.crs.find? (fun r => r.id == c) with
    | none => rw [hcr] at h10; cases h10
    | some cr =>
      rw [hcr] at h10 h20
      have h11 : cr.flds.contains f = true := h10
      have h21 : cr.flds.contains g = true := h20
      obtain ⟨m1, m2, m3, m4, m5⟩ := cls c cr hcr
      simp only [crB, Bool.and_eq_true] at m5
      exact map_inj m5.2 (by simpa using h11) (by simpa using h21) e
  · have hc := List.all_eq_true.mp c2 _ (lookup_mem hx)
    unfold cstB at hc
    split at hc
    · rename_i u hu
      obtain ⟨v, r1, r2⟩ := relP_ok (G := gcOf t K mg P w) d u hc
      exact ⟨u, v, PySem.W.mg_of X Gn hu, r1, r2⟩
    · cases hc
  · have : x ∈ t.blts := by
      have z : t.blts.contains x = true := hx
      simpa using z
    exact He.free_ok X Gn (fact (.free x) (fa_free this))
  · have hc0 : t.errs.contains (c, true) = true := hc
    have hm : (c, true) ∈ t.errs := by simpa using hc0
    have k := List.all_eq_true.mp c4 _ hm
    simp only [errB, Bool.not_true, Bool.false_or, Bool.and_eq_true, decide_eq_true_eq] at k
    exact ⟨He.ga K (t.nm c), He.glo_ok X Gn (fact _ (fa_err hm)), k.1.1.1, k.1.1.2, k.1.2, k.2⟩
  · have hv0 : (t.exms.find? (fun p => p.1 == c && p.2.1 == d)).map (fun p => p.2.2) = some v := hv
    obtain ⟨p, hp, e⟩ := omap hv0
    have hm := List.mem_of_find?_eq_some hp
    have hq := List.find?_some hp
    simp only [Bool.and_eq_true, beq_iff_eq] at hq
    obtain ⟨rfl, rfl⟩ := hq
    have k := List.all_eq_true.mp c5 _ hm
    have kx := List.all_eq_true.mp sx _ hm
    simp only [Bool.and_eq_true] at kx
    simp only [exmB, decide_eq_true_eq] at k
    exact ⟨_, _, err _ kx.1, err _ kx.2, by rw [← e]; exact k⟩
  · have hm0 : (t.mets.find? (fun r => r.id == m)).isSome = true := hm
    obtain ⟨r, hr⟩ := Option.isSome_iff_exists.mp hm0
    have hmem := List.mem_of_find?_eq_some hr
    have hid0 := List.find?_some hr
    have hid : r.id = m := beq_iff_eq.mp hid0
    have k := List.all_eq_true.mp sm r hmem
    simp only [mrB, Bool.and_eq_true] at k
    obtain ⟨fdt, F0⟩ := c1.defs (d := dmOf t r) (List.mem_append_right _ (List.mem_map.mpr ⟨r, hmem, rfl⟩))
    have F : FunD K (t.nm r.id) (t.nm r.id) (defArgs r.st) (defBody r.st) (defScope r.st) [] [] (He.fAd K (t.nm r.id, none)) fdt := F0
    have e0 : He.fAd K (t.nm r.id, none) = He.ga K (t.nm r.id) := rfl
    rw [e0] at F
    refine ⟨r.hs, r.last, He.ga K (t.nm r.id), fdt, r.st, r.a, r.N, ?_, ?_, ?_, binds_of (ps := [r.a]) (FunD.bindsA F (bm.mem hmem)), scopeB_ok k.1.1, k.1.2, fun p hp => ⟨_, err _ (List.all_eq_true.mp k.2 p hp)⟩⟩
    · show (t.mets.find? (fun r => r.id == m)).map (fun r => (r.hs, r.last)) = _
      rw [hr]; rfl
    · show mg (t.nm m) = _
      rw [← hid]; exact He.glo_ok X Gn (fact _ (fa_met hmem))
    · show FunD K (t.nm m) (t.nm m) _ _ _ _ _ _ _
      rw [← hid]; exact F
  · have hc0 : (t.crs.find? (fun r => r.id == c)).isSome = true := hc
    obtain ⟨cr, hcr⟩ := Option.isSome_iff_exists.mp hc0
    obtain ⟨m1, m2, m3, m4, m5⟩ := cls c cr hcr
    exact ⟨_, by rw [m2]; exact m3⟩
  · have fin : ∀ {c f : Nat} {m : Str} {wr : Bool}, rowAt t c f m wr = true → (∃ ps fd, (sgOf t).fn f = some (ps, fd)) ∧ (sgOf t).rp f = false := fun {c f m wr} k => by
      obtain ⟨cr, r, h1, h2, h3, h4, h5⟩ := rowAt_ok k
      refine ⟨⟨r.ps, r.fd, ?_⟩, h5⟩
      show (t.rows.find? (fun r => r.id == f)).map (fun r => (r.ps, r.fd)) = _
      rw [h2]; rfl
    rcases hf with ⟨c, m, hc⟩ | ⟨c, hc⟩ | ⟨c, m, hc⟩
    · have hc0 : (t.mths.find? (fun p => p.1 == c && p.2.1 == m)).map (fun p => p.2.2) = some f := hc
      obtain ⟨p, hp, e⟩ := omap hc0
      have k1 := List.all_eq_true.mp s01 p (List.mem_of_find?_eq_some hp)
      simp only [Bool.and_eq_true] at k1
      rw [e] at k1
      exact fin k1.1
    · have hc0 : (t.eqms.find? (fun p => p.1 == c)).map (fun p => p.2) = some f := hc
      obtain ⟨p, hp, e⟩ := omap hc0
      have k1 := List.all_eq_true.mp s02 p (List.mem_of_find?_eq_some hp)
      rw [e] at k1
      exact fin k1
    · have hc0 : (t.cmts.find? (fun p => p.1 == c && p.2.1 == m)).map (fun p => p.2.2) = some f := hc
      obtain ⟨p, hp, e⟩ := omap hc0
      have k1 := List.all_eq_true.mp s03 p (List.mem_of_find?_eq_some hp)
      rw [e] at k1
      exact fin k1
  · have hb0 : (t.subs.find? (fun p => p.1 == d && p.2.1 == c)).map (fun p => p.2.2) = some b := hb
    obtain ⟨p, hp, e⟩ := omap hb0
    have hpm := List.mem_of_find?_eq_some hp
    have hq := List.find?_some hp
    simp only [Bool.and_eq_true, beq_iff_eq] at hq
    obtain ⟨rfl, rfl⟩ := hq
    have k1 := List.all_eq_true.mp s04 p hpm
    have k2 := List.all_eq_true.mp c04 p hpm
    simp only [Bool.and_eq_true, decide_eq_true_eq] at k1 k2
    obtain ⟨cr, h1⟩ := Option.isSome_iff_exists.mp k1.1
    obtain ⟨cr', h2⟩ := Option.isSome_iff_exists.mp k1.2
    obtain ⟨_, m2, m3, _⟩ := cls _ cr h1
    obtain ⟨_, n2, n3, _⟩ := cls _ cr' h2
    have m2 : t.nm p.1 = cr.name := m2
    have n2 : t.nm p.2.1 = cr'.name := n2
    rw [m2, n2] at k2
    have ki := k2.1.1.1
    simp only [isiB, Bool.and_eq_true, decide_eq_true_eq] at ki
    refine ⟨_, _, by show mg (t.nm p.1) = _; rw [m2]; exact m3, by show mg (t.nm p.2.1) = _; rw [n2]; exact n3, ⟨He.eqO_ok ki.1.1.1, He.eqO_ok ki.1.1.2, ki.1.2, ki.2⟩, fun sl => ?_, by rw [← e]; exact k2.1.2⟩
    have kc := k2.1.1.2
    rw [sl] at kc
    exact He.cls_ok (by simpa using kc)
  · obtain ⟨b, hb⟩ := Option.isSome_iff_exists.mp hc
    have hb0 : (t.subs.find? (fun p => p.1 == c && p.2.1 == c)).map (fun p => p.2.2) = some b := hb
    obtain ⟨p, hp, e⟩ := omap hb0
    have hpm := List.mem_of_find?_eq_some hp
    have hq := List.find?_some hp
    simp only [Bool.and_eq_true, beq_iff_eq] at hq
    obtain ⟨q1, q2⟩ := hq
    have k1 := List.all_eq_true.mp s04 p hpm
    have k2 := List.all_eq_true.mp c04 p hpm
    simp only [Bool.and_eq_true] at k1 k2
    obtain ⟨cr, h1⟩ := Option.isSome_iff_exists.mp k1.1
    obtain ⟨_, m2, m3, _⟩ := cls _ cr h1
    have m2 : t.nm p.1 = cr.name := m2
    have ka := k2.2
    rw [q1, q2] at ka
    simp only [bne_self_eq_false, Bool.false_or] at ka
    have kk := List.all_eq_true.mp ka k hk
    have q1' : t.nm c = cr.name := by rw [← q1]; exact m2
    refine ⟨He.ga K cr.name, by show mg (t.nm c) = _; rw [q1']; exact m3, ?_⟩
    rw [q1'] at kk
    exact of_decide_eq_true kk
end
/-- THE END: what is left of a law is plain -/
theorem law_walk {l : PySem.W.OpenLaw} {q : Program} {loose : List Str} {XP : (Str → Option Value) → Heap → Prop} {d : DefRec} {n : Nat} {t : Tx} {k f : Nat} {x : Str} {r : Row}
    (hn : l.most = some 63) (hdf : d.params.defaults = []) (hr : Room (4 * k) callerA) (hnm : d.name = t.nm f) (hf : t.rows.find? (fun r => r.id == f) = some r) (hg : r.at_.2 = none) (hx : r.ps = [x])
    (st : t.rows.all (rowB (sgOf t) t.crs) = true) (sc : t.crs.all (crB (sgOf t)) = true) (sx : exB t = true) (sm : mtB t = true) (smt : mthB t = true) (b : BindsAll t.rows) (bm : BindsM t t.mets)
    (law : ∀ ns : List Int, ns.length ≤ 63 → ∃ h', callN (ctOf t) (tabOf (sgOf t)) k f [.scr ns] [] = .ok (.bl true) h') :
    PySem.W.WalkO q loose XP (hookZ n t).says l.row.toRowW d [] (fun f vs => PySem.call f vs) := by
  refine Att.attach_callB hn hdf fun w s₀ s₁ mg mb fa o pm cd doc a vs ns Gd Y ho hd hcd hmg hobj hints hlen hbits hg' => ?_
  obtain ⟨K, KX, cY⟩ := Y
  have c := cY.x
  have T := txt_of l.prog w KX Gd.T.g cY smt st sc sx sm b bm
  have hfn : (sgOf t).fn f = some ([x], r.fd) := by
    show (t.rows.find? (fun r => r.id == f)).map (fun r => (r.ps, r.fd)) = _
    rw [hf, ← hx]; rfl
  have hgl : (sgOf t).glo f = true := by
    show (match t.rows.find? (fun r => r.id == f) with | some r => r.at_.2.isNone | none => false) = true
    rw [hf]
    show r.at_.2.isNone = true
    rw [hg]; rfl
  obtain ⟨a1, fdt, e1, _, _, e2, e3, e4⟩ := all_sound (P := l.prog) (w := w) T k f [x] r.fd hfn
  have e1 := e1 hgl
  have hmg2 : mg ((sgOf t).nm f) = some (.ref fa) := by rw [← hmg, hnm]; rfl
  rw [hmg2] at e1
  cases e1
  have ct : ∀ p ∈ csOf t K, ∃ q ∈ tfOf t, He.cT K q = p := fun p hp => List.mem_map.mp hp
  refine law_callZ KX Gd.T.g Gd.T.b Gd.T.builtins Gd.T.nolimit hg' (cs := csOf t K) (fun p hp => ?_) (fun p hp => ?_) (fun p hp => ?_) Gd.T.bmain hobj hints (Nat.le_trans hlen (by decide)) hr (fun base TB => e4 base TB) (fun s u => e3 s [u] rfl) fun H hT hS => ?_
  · obtain ⟨q, hq, rfl⟩ := ct p hp; exact c.empty q hq
  · obtain ⟨q, hq, rfl⟩ := ct p hp; exact c.out q hq
  · obtain ⟨q, hq, rfl⟩ := ct p hp; exact c.hd q hq
  · refine law_post rfl (fun p hp => ?_) hS (law ns hlen)
    obtain ⟨q, hq, rfl⟩ := List.mem_map.mp hp
    refine ⟨#[], hT _ (List.mem_map.mpr ⟨q.at_, List.mem_map.mpr ⟨q, hq, rfl⟩, rfl⟩), trivial, fun pos cv hc => ?_⟩
    simp [codeAmong] at hc
end Zed
end
section
set_option Elab.async false
set_option linter.all false
set_option maxRecDepth 100000
set_option exponentiation.threshold 10000
/-! ZedP: the plain law's tools: what an answer must be, by the interpreter's own clauses. -/
namespace Zed
open PySem L2
abbrev XP := PV → List (Nat × PV) → PHeap → Prop
/-- no error -/
abbrev NoX : XP := fun _ _ _ => False
def Okx {α : Type} (X : XP) (r : R α) (Q : α → PHeap → Prop) : Prop := match r with
  | .ok a h => Q a h
  | .exc c fs h => X c fs h
  | .stuck => False
abbrev Ok {α : Type} (r : R α) (Q : α → PHeap → Prop) : Prop := Okx NoX r Q
def OkP (o : Option (PV × PHeap)) (Q : PV → PHeap → Prop) : Prop := match o with
  | some (d, h) => Q d h
  | none => False
def OkO {α : Type} (o : Option α) (Q : α → Prop) : Prop := match o with
  | some a => Q a
  | none => False
/-- a statement goes on, or returns, or raises -/
def OkSx (X : XP) (r : RS) (N : Loc → PHeap → Prop) (T : PV → PHeap → Prop) : Prop := match r with
  | .nx l h => N l h
  | .rt d h => T d h
  | .exc c fs _ h => X c fs h
  | _ => False
abbrev OkS (r : RS) (N : Loc → PHeap → Prop) (T : PV → PHeap → Prop) : Prop := OkSx NoX r N T
section
variable {α β : Type} {C : Orc} {l : Loc} {h : PHeap} {Q : PV → PHeap → Prop} {N : Loc → PHeap → Prop} {T : PV → PHeap → Prop} {X : XP}
theorem Okx.mono {r : R α} {Q Q' : α → PHeap → Prop} (k : Okx X r Q) (i : ∀ a h, Q a h → Q' a h) : Okx X r Q' := by
  cases r with
  | ok a h => exact i a h k
  | exc => exact k
  | stuck => exact k
theorem Okx.imp {r : R α} {Q Q' : α → PHeap → Prop} {X' : XP} (k : Okx X r Q) (i : ∀ a h, Q a h → Q' a h) (j : ∀ c fs h, X c fs h → X' c fs h) : Okx X' r Q' := by
  cases r with
  | ok a h => exact i a h k
  | exc => exact j _ _ _ k
  | stuck => exact k
theorem Ok.mono {r : R α} {Q Q' : α → PHeap → Prop} (k : Ok r Q) (i : ∀ a h, Q a h → Q' a h) : Okx X r Q' := Okx.imp k i fun _ _ _ z => z.elim
theorem OkSx.mono {r : RS} {N N' : Loc → PHeap → Prop} {T T' : PV → PHeap → Prop} (k : OkSx X r N T) (i : ∀ l h, N l h → N' l h) (j : ∀ d h, T d h → T' d h) : OkSx X r N' T' := by
  cases r <;> first | exact i _ _ k | exact j _ _ k | exact k
theorem OkS.mono {r : RS} {N N' : Loc → PHeap → Prop} {T T' : PV → PHeap → Prop} (k : OkS r N T) (i : ∀ l h, N l h → N' l h) (j : ∀ d h, T d h → T' d h) : OkSx X r N' T' := by
  cases r <;> first | exact i _ _ k | exact j _ _ k | exact k | exact k.elim
theorem Ok.get {r : R α} {Q : α → PHeap → Prop} (k : Ok r Q) : ∃ a h, r = .ok a h ∧ Q a h := by
  cases r with
  | ok a h => exact ⟨a, h, rfl, k⟩
  | exc => exact k.elim
  | stuck => exact k.elim
theorem Okx.get {r : R α} {Q : α → PHeap → Prop} (k : Okx X r Q) : (∃ a h, r = .ok a h ∧ Q a h) ∨ ∃ c fs h, r = .exc c fs h ∧ X c fs h := by
  cases r with
  | ok a h => exact .inl ⟨a, h, rfl, k⟩
  | exc c fs h => exact .inr ⟨c, fs, h, rfl, k⟩
  | stuck => exact k.elim
theorem ok_ok {a : α} {Q : α → PHeap → Prop} : Okx X (.ok a h) Q ↔ Q a h := Iff.rfl
theorem ok_bind {m : R α} {k : α → PHeap → R β} {Q : β → PHeap → Prop} : Okx X (m.bind k) Q ↔ Okx X m fun a h => Okx X (k a h) Q := by
  cases m <;> exact Iff.rfl
theorem ok_lift {o : Option (PV × PHeap)} : Okx X (liftP o) Q ↔ OkP o Q := by
  cases o <;> exact Iff.rfl
theorem okS_to {m : R α} {k : α → PHeap → RS} : OkSx X (m.toS l k) N T ↔ Okx X m fun a h => OkSx X (k a h) N T := by
  cases m <;> exact Iff.rfl
theorem ok_truth {m : R PV} {Q : Bool → PHeap → Prop} : Okx X (truthR m) Q ↔ Okx X m fun d h => OkO (truthF h d) fun b => Q b h := by
  unfold truthR
  rw [ok_bind]
  cases m with
  | ok d h =>
    show Okx X (match truthF h d with | some b => _ | none => _) Q ↔ OkO (truthF h d) fun b => Q b h
    cases truthF h d <;> exact Iff.rfl
  | exc => exact Iff.rfl
  | stuck => exact Iff.rfl
/-! expressions -/
theorem w_loc {i : Nat} : Okx X (evE C (.loc i) l h) Q ↔ OkO (l[i]?.bind id) fun d => Q d h := by
  show Okx X (match l[i]? with | some (some d) => R.ok d h | _ => .stuck) Q ↔ _
  cases l[i]? with
  | none => exact Iff.rfl
  | some o => cases o <;> exact Iff.rfl
theorem w_con {d : PV} : Okx X (evE C (.con d) l h) Q ↔ Q d h := Iff.rfl
theorem w_bin {op : Bop} {a b : Ex} : Okx X (evE C (.bin op a b) l h) Q ↔ Okx X (evE C a l h) fun x h1 => Okx X (evE C b l h1) fun y h2 => OkP (bopF op [x, y] h2) Q := by
  show Okx X (ev2 _ _ _ _ _) _ ↔ _
  unfold ev2
  simp only [ok_bind, ok_lift]
theorem w_cmp {op : Cop} {a b : Ex} : Okx X (evE C (.cmp op a b) l h) Q ↔ Okx X (evE C a l h) fun x h1 => Okx X (evE C b l h1) fun y h2 => OkO (cmpB op h2 x y) fun b => Q (.bl b) h2 := by
  show Okx X (ev2 _ _ _ _ _) _ ↔ _
  unfold ev2
  simp only [ok_bind, ok_lift]
  refine iff_of_eq (congrArg _ (funext fun x => funext fun h1 => congrArg _ (funext fun y => funext fun h2 => ?_)))
  show OkP ((cmpB op h2 x y).map _) Q = _
  cases cmpB op h2 x y <;> rfl
theorem w_sub {a b : Ex} : Okx X (evE C (.sub a b) l h) Q ↔ Okx X (evE C a l h) fun x h1 => Okx X (evE C b l h1) fun y h2 => OkO (getF x y h2) fun d => Q d h2 := by
  show Okx X (ev2 _ _ _ _ _) _ ↔ _
  unfold ev2
  simp only [ok_bind, ok_lift]
  refine iff_of_eq (congrArg _ (funext fun x => funext fun h1 => congrArg _ (funext fun y => funext fun h2 => ?_)))
  show OkP ((getF x y h2).map _) Q = _
  cases getF x y h2 <;> rfl
theorem w_not {a : Ex} : Okx X (evE C (.not a) l h) Q ↔ Okx X (evE C a l h) fun x h1 => OkO (truthF h1 x) fun b => Q (.bl !b) h1 := by
  show Okx X ((truthR _).bind _) _ ↔ _
  rw [ok_bind, ok_truth]; exact Iff.rfl
theorem w_and {a b : Ex} : Okx X (evE C (.and a b) l h) Q ↔ Okx X (evE C a l h) fun x h1 => OkO (truthF h1 x) fun k => (k = true → Okx X (evE C b l h1) Q) ∧ (k = false → Q x h1) := by
  show Okx X (R.bind _ _) _ ↔ _
  rw [ok_bind]
  refine iff_of_eq (congrArg _ (funext fun x => funext fun h1 => propext ?_))
  cases truthF h1 x with
  | none => exact Iff.rfl
  | some k => cases k <;> simp [OkO, Okx]
theorem w_or {a b : Ex} : Okx X (evE C (.or a b) l h) Q ↔ Okx X (evE C a l h) fun x h1 => OkO (truthF h1 x) fun k => (k = true → Q x h1) ∧ (k = false → Okx X (evE C b l h1) Q) := by
  show Okx X (R.bind _ _) _ ↔ _
  rw [ok_bind]
  refine iff_of_eq (congrArg _ (funext fun x => funext fun h1 => propext ?_))
  cases truthF h1 x with
  | none => exact Iff.rfl
  | some k => cases k <;> simp [OkO, Okx]
theorem w_ite {c a b : Ex} : Okx X (evE C (.ite c a b) l h) Q ↔ Okx X (evE C c l h) fun x h1 => OkO (truthF h1 x) fun k => (k = true → Okx X (evE C a l h1) Q) ∧ (k = false → Okx X (evE C b l h1) Q) := by
  show Okx X (R.bind _ _) _ ↔ _
  rw [ok_bind, ok_truth]
  refine iff_of_eq (congrArg _ (funext fun x => funext fun h1 => propext ?_))
  cases truthF h1 x with
  | none => exact Iff.rfl
  | some k => cases k <;> simp [OkO]
theorem w_chn {op op' : Cop} {a b c : Ex} : Okx X (evE C (.chn op op' a b c) l h) Q ↔ Okx X (evE C a l h) fun x h1 => Okx X (evE C b l h1) fun y h2 => OkO (cmpB op h2 x y) fun k => (k = true → Okx X (evE C c l h2) fun z h3 => OkO (cmpB op' h3 y z) fun b => Q (.bl b) h3) ∧ (k = false → Q (.bl false) h2) := by
  show Okx X (R.bind _ _) _ ↔ _
  simp only [ok_bind, ok_lift]
  refine iff_of_eq (congrArg _ (funext fun x => funext fun h1 => congrArg _ (funext fun y => funext fun h2 => propext ?_)))
  show OkP ((cmpB op h2 x y).map _) _ ↔ _
  cases cmpB op h2 x y with
  | none => exact Iff.rfl
  | some k =>
    cases k with
    | false => simp [OkO, OkP, Okx]
    | true =>
      simp only [Option.map_some, OkP, OkO, ok_bind, ok_lift]
      refine ⟨fun q => ⟨fun _ => ?_, fun z => (nomatch z)⟩, fun q => ?_⟩
      · refine Okx.mono q fun z h3 => ?_
        show OkP ((cmpB op' h3 y z).map _) _ → _
        cases cmpB op' h3 y z <;> exact id
      · refine Okx.mono (q.1 trivial) fun z h3 => ?_
        show _ → OkP ((cmpB op' h3 y z).map _) _
        cases cmpB op' h3 y z <;> exact id
theorem w_tup {es : Exs} : Okx X (evE C (.tup es) l h) Q ↔ Okx X (evA C es l h) fun ds h1 => ds.length ≤ sizeLine ∧ Q (.tup ds) h1 := by
  show Okx X (R.bind _ _) _ ↔ _
  rw [ok_bind]
  refine iff_of_eq (congrArg _ (funext fun ds => funext fun h1 => propext ?_))
  by_cases z : ds.length ≤ sizeLine <;> simp [z, Okx]
theorem w_lst {es : Exs} : Okx X (evE C (.lst true es) l h) Q ↔ Okx X (evA C es l h) fun ds h1 => ds.length ≤ sizeLine ∧ Q (.fl ds) h1 := by
  show Okx X (R.bind _ _) _ ↔ _
  rw [ok_bind]
  refine iff_of_eq (congrArg _ (funext fun ds => funext fun h1 => propext ?_))
  by_cases z : ds.length ≤ sizeLine <;> simp [z, Okx, liftP, mkL]
theorem w_lsh {es : Exs} : Okx X (evE C (.lst false es) l h) Q ↔ Okx X (evA C es l h) fun ds h1 => ds.length ≤ sizeLine ∧ Q (.ref h1.length) (h1 ++ [.lst ds]) := by
  show Okx X (R.bind _ _) _ ↔ _
  rw [ok_bind]
  refine iff_of_eq (congrArg _ (funext fun ds => funext fun h1 => propext ?_))
  by_cases z : ds.length ≤ sizeLine <;> simp [z, Okx, liftP, newO, mkL]
theorem w_call {f : Nat} {es : Exs} : Okx X (evE C (.call f es) l h) Q ↔ Okx X (evA C es l h) fun ds h1 => Okx X (C.call f ds h1) Q := by
  show Okx X (R.bind _ _) _ ↔ _
  rw [ok_bind]
theorem w_blt {b : Bi} {es : Exs} : Okx X (evE C (.blt b es) l h) Q ↔ Okx X (evA C es l h) fun ds h1 => OkP (bltF b ds h1) Q := by
  show Okx X (R.bind _ _) _ ↔ _
  simp only [ok_bind, ok_lift]
theorem w_attr {o : Ex} {f : Nat} : Okx X (evE C (.attr o f) l h) Q ↔ Okx X (evE C o l h) fun x h1 => OkP (attrF C.ct f [x] h1) Q := by
  show Okx X (ev1 _ _ _ _) _ ↔ _
  unfold ev1
  simp only [ok_bind, ok_lift]
theorem w_dic0 : Okx X (evE C (.dic0 true) l h) Q ↔ Q (.fz (.dic [])) h := Iff.rfl
theorem w_dich : Okx X (evE C (.dic0 false) l h) Q ↔ Q (.ref h.length) (h ++ [.dic []]) := Iff.rfl
theorem w_meth {m : Mi} {o : Ex} {es : Exs} : Okx X (evE C (.meth m o es) l h) Q ↔ Okx X (evE C o l h) fun x h1 => rcvOk m x h1 = true ∧ Okx X (evA C es l h1) fun ds h2 => OkP (methF m (x :: ds) h2) Q := by
  show Okx X (R.bind _ _) _ ↔ _
  rw [ok_bind]
  refine iff_of_eq (congrArg _ (funext fun x => funext fun h1 => propext ?_))
  cases z : rcvOk m x h1 with
  | false => simp [Okx]
  | true => simp only [true_and, ok_bind, ok_lift]
theorem w_slc {o : Ex} {lo hi : Op} : Okx X (evE C (.slc o lo hi) l h) Q ↔ Okx X (evE C o l h) fun x h1 => Okx X (evOp C lo l h1) fun a h2 => Okx X (evOp C hi l h2) fun b h3 => OkP (slcF x a b h3) Q := by
  show Okx X (R.bind _ _) _ ↔ _
  simp only [ok_bind, ok_lift]
theorem w_ono {Q : Option Int → PHeap → Prop} : Okx X (evOp C .no l h) Q ↔ Q none h := Iff.rfl
theorem w_oyes {e : Ex} {Q : Option Int → PHeap → Prop} : Okx X (evOp C (.yes e) l h) Q ↔ Okx X (evE C e l h) fun d h1 => match d with
    | .int i => Q (some i) h1
    | _ => False := by
  show Okx X (optI (evE C e l h)) Q ↔ _
  cases evE C e l h with
  | ok d h1 => cases d <;> exact Iff.rfl
  | exc => exact Iff.rfl
  | stuck => exact Iff.rfl
theorem w_nil {Q : List PV → PHeap → Prop} : Okx X (evA C .nil l h) Q ↔ Q [] h := Iff.rfl
theorem w_cons {e : Ex} {es : Exs} {Q : List PV → PHeap → Prop} : Okx X (evA C (.cons e es) l h) Q ↔ Okx X (evE C e l h) fun x h1 => Okx X (evA C es l h1) fun xs h2 => Q (x :: xs) h2 := by
  show Okx X (evCons _ _ _ _) _ ↔ _
  unfold evCons
  simp only [ok_bind, ok_ok]
theorem w_star {e : Ex} {es : Exs} {Q : List PV → PHeap → Prop} : Okx X (evA C (.star e es) l h) Q ↔ Okx X (evE C e l h) fun x h1 => OkO (seqOf h1 x) fun ds => Okx X (evA C es l h1) fun xs h2 => Q (ds ++ xs) h2 := by
  show Okx X (R.bind _ _) _ ↔ _
  rw [ok_bind]
  refine iff_of_eq (congrArg _ (funext fun x => funext fun h1 => propext ?_))
  cases seqOf h1 x with
  | none => exact Iff.rfl
  | some ds => simp only [OkO, ok_bind, ok_ok]
/-! statements -/
theorem s_ex {e : Ex} : OkSx X (exS C (.ex e) l h) N T ↔ Okx X (evE C e l h) fun _ h1 => N l h1 := by
  show OkSx X (R.toS _ _ _) _ _ ↔ _
  rw [okS_to]; exact Iff.rfl
theorem s_asg {t : Tg} {e : Ex} : OkSx X (exS C (.asg t e) l h) N T ↔ Okx X (evE C e l h) fun d h1 => OkO (bindT t d l) fun l1 => N l1 h1 := by
  show OkSx X (R.toS _ _ _) _ _ ↔ _
  rw [okS_to]
  refine iff_of_eq (congrArg _ (funext fun d => funext fun h1 => propext ?_))
  cases bindT t d l <;> exact Iff.rfl
theorem s_put {o i e : Ex} : OkSx X (exS C (.put o i e) l h) N T ↔ Okx X (evE C e l h) fun v h1 => Okx X (evE C o l h1) fun x h2 => Okx X (evE C i l h2) fun y h3 => OkO (putF x y v h3) fun h4 => N l h4 := by
  show OkSx X (R.toS _ _ _) _ _ ↔ _
  simp only [okS_to]
  refine iff_of_eq (congrArg _ (funext fun v => funext fun h1 => congrArg _ (funext fun x => funext fun h2 => congrArg _ (funext fun y => funext fun h3 => propext ?_))))
  cases putF x y v h3 <;> exact Iff.rfl
theorem s_fld {o e : Ex} {f : Nat} : OkSx X (exS C (.fld o f e) l h) N T ↔ Okx X (evE C e l h) fun v h1 => Okx X (evE C o l h1) fun x h2 => OkO (fldF C.ct x f v h2) fun h4 => N l h4 := by
  show OkSx X (R.toS _ _ _) _ _ ↔ _
  simp only [okS_to]
  refine iff_of_eq (congrArg _ (funext fun v => funext fun h1 => congrArg _ (funext fun x => funext fun h2 => propext ?_)))
  cases fldF C.ct x f v h2 <;> exact Iff.rfl
theorem s_ret {e : Ex} : OkSx X (exS C (.ret e) l h) N T ↔ Okx X (evE C e l h) T := by
  show OkSx X (R.toS _ _ _) _ _ ↔ _
  rw [okS_to]; exact Iff.rfl
theorem s_ret0 : OkSx X (exS C .ret0 l h) N T ↔ T .non h := Iff.rfl
theorem s_iff {c : Ex} {a b : Sxs} : OkSx X (exS C (.iff c a b) l h) N T ↔ Okx X (evE C c l h) fun x h1 => OkO (truthF h1 x) fun k => (k = true → OkSx X (exSs C a l h1) N T) ∧ (k = false → OkSx X (exSs C b l h1) N T) := by
  show OkSx X (R.toS _ _ _) _ _ ↔ _
  rw [okS_to, ok_truth]
  refine iff_of_eq (congrArg _ (funext fun x => funext fun h1 => propext ?_))
  cases truthF h1 x with
  | none => exact Iff.rfl
  | some k => cases k <;> simp [OkO]
theorem s_rai {c : Nat} {m : Str} : OkSx X (exS C (.rai c m) l h) N T ↔ X (.gl c) [] h := Iff.rfl
theorem s_nil : OkSx X (exSs C .nil l h) N T ↔ N l h := Iff.rfl
theorem s_cons {s : Sx} {r : Sxs} : OkSx X (exSs C (.cons s r) l h) N T ↔ OkSx X (exS C s l h) (fun l1 h1 => OkSx X (exSs C r l1 h1) N T) T := by
  show OkSx X (match exS C s l h with | .nx l1 h1 => exSs C r l1 h1 | x => x) N T ↔ _
  cases exS C s l h <;> exact Iff.rfl
/-- a def -/
theorem f_run {fd : Fd} {ds : List PV} (hl : ds.length = fd.np) : Okx X (runFn fd C ds h) Q ↔ OkSx X (exSs C fd.body (ds.map some ++ List.replicate (fd.n - fd.np) none) h) (fun _ h1 => Q .non h1) Q := by
  unfold runFn
  rw [if_pos hl]
  cases exSs C fd.body (ds.map some ++ List.replicate (fd.n - fd.np) none) h <;> exact Iff.rfl
/-- what leaves a sealed def -/
def Seal (h : PHeap) (d : PV) (h1 : PHeap) (Q : PV → PHeap → Prop) : Prop := ∃ d2 h2, frzV h1 h.length 6 d = some d2 ∧ sealH h.length h h1 = some h2 ∧ Q d2 h2
/-- an error that leaves a sealed def -/
def SealX (h : PHeap) (X : XP) : XP := fun c fs h1 => (clV h.length c && clFs h.length fs) = true ∧ ∃ h2, sealH h.length h h1 = some h2 ∧ X c fs h2
theorem ok_sealx {r : R PV} : Okx X (sealF h r) Q ↔ Okx (SealX h X) r fun d h1 => Seal h d h1 Q := by
  cases r with
  | ok d h1 =>
    show Okx X (match frzV h1 h.length 6 d, sealH h.length h h1 with | some d1, some h1 => .ok d1 h1 | _, _ => .stuck) Q ↔ Seal h d h1 Q
    unfold Seal
    cases frzV h1 h.length 6 d <;> cases sealH h.length h h1 <;> simp [Okx]
  | exc c fs h1 =>
    show Okx X (if clV h.length c && clFs h.length fs then (match sealH h.length h h1 with | some h1 => .exc c fs h1 | none => .stuck) else .stuck) Q ↔ SealX h X c fs h1
    unfold SealX
    cases clV h.length c && clFs h.length fs <;> cases sealH h.length h h1 <;> simp [Okx]
  | stuck => exact Iff.rfl
theorem ok_seal {r : R PV} : Ok (sealF h r) Q ↔ Ok r fun d h1 => Seal h d h1 Q := by
  refine ok_sealx.trans ?_
  cases r <;> first | exact Iff.rfl | (simp [Okx, SealX, NoX])
theorem f_open {ct : Ct} {Tb : Nat → Option Fd} {n f : Nat} {fd : Fd} {ds : List PV} (e : Tb f = some fd) (z : fd.fz = false) (hl : ds.length = fd.np) :
    Okx X (callN ct Tb (n + 1) f ds h) Q ↔ OkSx X (exSs ⟨callN ct Tb n, ct⟩ fd.body (ds.map some ++ List.replicate (fd.n - fd.np) none) h) (fun _ h1 => Q .non h1) Q := by
  show Okx X (match Tb f with | some fd => runFs fd ⟨callN ct Tb n, ct⟩ ds h | none => .stuck) Q ↔ _
  rw [e]
  show Okx X (runFs fd _ ds h) Q ↔ _
  unfold runFs
  rw [z, if_neg Bool.false_ne_true]
  exact f_run hl
theorem f_call {ct : Ct} {Tb : Nat → Option Fd} {n f : Nat} {fd : Fd} {ds : List PV} (e : Tb f = some fd) (z : fd.fz = true) (hl : ds.length = fd.np) :
    Ok (callN ct Tb (n + 1) f ds h) Q ↔ OkS (exSs ⟨callN ct Tb n, ct⟩ fd.body (ds.map some ++ List.replicate (fd.n - fd.np) none) h) (fun _ h1 => Seal h .non h1 Q) (fun d h1 => Seal h d h1 Q) := by
  show Ok (match Tb f with | some fd => runFs fd ⟨callN ct Tb n, ct⟩ ds h | none => .stuck) Q ↔ _
  rw [e]
  show Ok (runFs fd _ ds h) Q ↔ _
  unfold runFs
  rw [z, if_pos rfl, ok_seal]
  exact f_run hl
theorem f_callx {ct : Ct} {Tb : Nat → Option Fd} {n f : Nat} {fd : Fd} {ds : List PV} (e : Tb f = some fd) (z : fd.fz = true) (hl : ds.length = fd.np) :
    Okx X (callN ct Tb (n + 1) f ds h) Q ↔ OkSx (SealX h X) (exSs ⟨callN ct Tb n, ct⟩ fd.body (ds.map some ++ List.replicate (fd.n - fd.np) none) h) (fun _ h1 => Seal h .non h1 Q) (fun d h1 => Seal h d h1 Q) := by
  show Okx X (match Tb f with | some fd => runFs fd ⟨callN ct Tb n, ct⟩ ds h | none => .stuck) Q ↔ _
  rw [e]
  show Okx X (runFs fd _ ds h) Q ↔ _
  unfold runFs
  rw [z, if_pos rfl, ok_sealx]
  exact f_run hl
/-! closed values -/
mutual
theorem cl_up {n m : Nat} (k : n ≤ m) : ∀ d : PV, clV n d = true → clV m d = true
  | .non, _ => rfl
  | .bl _, _ => rfl
  | .int _, _ => rfl
  | .str _, _ => rfl
  | .ty _, _ => rfl
  | .gl _, _ => rfl
  | .scr _, _ => rfl
  | .tup ds, z => by simp only [clV] at z ⊢; exact cls_up k ds z
  | .ref i, z => by simp only [clV, decide_eq_true_eq] at z ⊢; omega
  | .fz (.lst ds), z => by simp only [clV, clO] at z ⊢; exact cls_up k ds z
  | .fz (.set ds), z => by simp only [clV, clO] at z ⊢; exact cls_up k ds z
  | .fz (.dic kvs), z => by simp only [clV, clO] at z ⊢; exact clK_up k kvs z
  | .fz (.ins _ fs), z => by simp only [clV, clO] at z ⊢; exact clF_up k fs z
theorem cls_up {n m : Nat} (k : n ≤ m) : ∀ ds : List PV, clVs n ds = true → clVs m ds = true
  | [], _ => rfl
  | d :: r, z => by simp only [clVs, Bool.and_eq_true] at z ⊢; exact ⟨cl_up k d z.1, cls_up k r z.2⟩
theorem clK_up {n m : Nat} (k : n ≤ m) : ∀ ds : List (PV × PV), clKs n ds = true → clKs m ds = true
  | [], _ => rfl
  | (a, b) :: r, z => by simp only [clKs, Bool.and_eq_true] at z ⊢; exact ⟨⟨cl_up k a z.1.1, cl_up k b z.1.2⟩, clK_up k r z.2⟩
theorem clF_up {n m : Nat} (k : n ≤ m) : ∀ ds : List (Nat × PV), clFs n ds = true → clFs m ds = true
  | [], _ => rfl
  | (_, b) :: r, z => by simp only [clFs, Bool.and_eq_true] at z ⊢; exact ⟨cl_up k b z.1, clF_up k r z.2⟩
end
theorem frz_cl {d : PV} {h1 : PHeap} {n k : Nat} (z : clV n d = true) : frzV h1 n k d = some d := by
  cases k <;> (unfold frzV; rw [if_pos z])
theorem seal_app' {n : Nat} : ∀ (h g : PHeap), sealH n h (h ++ g) = some h
  | [], g => by cases g <;> rfl
  | o :: r, g => by
    show (if PObj.same o o || clO n o then (sealH n r (r ++ g)).map (o :: ·) else none) = _
    rw [PObj.same_rfl, Bool.true_or, if_pos rfl, seal_app' r g]; rfl
theorem seal_set' {n : Nat} {o : PObj} (z : clO n o = true) : ∀ (h g : PHeap) (i : Nat), sealH n h (h.set i o ++ g) = some (h.set i o)
  | [], g, i => by cases g <;> rfl
  | p :: r, g, 0 => by
    show (if PObj.same p o || clO n o then (sealH n r (r ++ g)).map (o :: ·) else none) = _
    rw [z, Bool.or_true, if_pos rfl, seal_app' r g]; rfl
  | p :: r, g, i + 1 => by
    show (if PObj.same p p || clO n p then (sealH n r (r.set i o ++ g)).map (p :: ·) else none) = _
    rw [PObj.same_rfl, Bool.true_or, if_pos rfl, seal_set' z r g i]; rfl
theorem sl_same {d : PV} (z : clV 0 d = true) (q : Q d h) : Seal h d h Q := ⟨d, h, frz_cl (cl_up (Nat.zero_le _) d z), by simpa using seal_app' h [], q⟩
theorem sl_app {d : PV} {g : PHeap} (z : clV 0 d = true) (q : Q d h) : Seal h d (h ++ g) Q := ⟨d, h, frz_cl (cl_up (Nat.zero_le _) d z), seal_app' h g, q⟩
theorem sl_set {d : PV} {g : PHeap} {i : Nat} {o : PObj} (z : clV 0 d = true) (zo : clO 0 o = true) (q : Q d (h.set i o)) : Seal h d (h.set i o ++ g) Q := by
  refine ⟨d, h.set i o, frz_cl (cl_up (Nat.zero_le _) d z), seal_set' ?_ h g i, q⟩
  have := cl_up (Nat.zero_le h.length) (.fz o) (by simpa only [clV] using zo)
  simpa only [clV] using this
theorem sl_set0 {d : PV} {i : Nat} {o : PObj} (z : clV 0 d = true) (zo : clO 0 o = true) (q : Q d (h.set i o)) : Seal h d (h.set i o) Q := by
  have := sl_set (Q := Q) (g := []) (h := h) z zo q
  simpa using this
/-- a new list that is returned -/
theorem frz_lst {h1 : PHeap} {n i : Nat} {ds : List PV} (e : h1[i]? = some (.lst ds)) (hi : n ≤ i) (z : clVs 0 ds = true) : frzV h1 n 6 (.ref i) = some (.fl ds) := by
  have m : ∀ {k : Nat} (l : List PV), clVs 0 l = true → mapO (frzV h1 n k) l = some l := fun {k} l => by
    induction l with
    | nil => intro _; rfl
    | cons d r ih =>
      intro z
      simp only [clVs, Bool.and_eq_true] at z
      simp only [mapO, frz_cl (cl_up (Nat.zero_le n) d z.1), ih z.2]
  unfold frzV
  rw [if_neg (by simp only [clV, decide_eq_true_eq]; omega)]
  dsimp only
  rw [e]
  show (Option.map PObj.lst (mapO (frzV h1 n 5) ds)).map PV.fz = _
  rw [m ds z]; rfl
theorem sl_lst {h1 g : PHeap} {ds : List PV} {i : Nat} (e : h1 = h ++ g) (ei : h1[i]? = some (.lst ds)) (hi : h.length ≤ i) (z : clVs 0 ds = true) (q : Q (.fl ds) h) : Seal h (.ref i) h1 Q := by
  subst e
  exact ⟨_, h, frz_lst ei hi z, seal_app' h g, q⟩
end

/-! ### steps: one clause at the head of the goal -/
section
variable {C : Orc} {l : Loc} {h : PHeap} {Q : PV → PHeap → Prop}
theorem okP_of {o : Option (PV × PHeap)} {d : PV} {h' : PHeap} (e : o = some (d, h')) (q : Q d h') : OkP o Q := by rw [e]; exact q
theorem okO_of {α : Type} {o : Option α} {a : α} {Q : α → Prop} (e : o = some a) (q : Q a) : OkO o Q := by rw [e]; exact q
theorem x_loc {X : XP} {i : Nat} {d : PV} (e : l[i]? = some (some d)) (q : Q d h) : Okx X (evE C (.loc i) l h) Q := w_loc.mpr (by rw [e]; exact q)
theorem x_int {Q : Option Int → PHeap → Prop} {i : Int} (q : Q (some i) h) : (match PV.int i with | .int i => Q (some i) h | _ => False) := q
theorem get_lst {i : Nat} {ds : List PV} {k : Int} (e : h[i]? = some (.lst ds)) : getF (.ref i) (.int k) h = atI ds k := by
  simp only [getF, objOf, e]
theorem get_dic {i : Nat} {kvs : List (PV × PV)} {k : PV} (e : h[i]? = some (.dic kvs)) : getF (.ref i) k h = dGetF kvs k := by
  simp only [getF, objOf, e]
theorem put_lst {i j : Nat} {ds : List PV} {k : Int} {v : PV} (e : h[i]? = some (.lst ds)) (hj : ixN ds.length k = some j) : putF (.ref i) (.int k) v h = some (h.set i (.lst (ds.set j v))) := by
  simp only [putF, e, hj]; rfl
theorem mod_ok {i j : Int} (hj : 0 < j) : bopF .mod [.int i, .int j] h = some (.int (i % j), h) := by
  simp only [bopF, arI, if_pos hj]; rfl
theorem fdiv_ok {i j : Int} (hj : 0 < j) (hb : j.natAbs < big) : bopF .fdiv [.int i, .int j] h = some (.int (i / j), h) := by
  simp only [bopF, arI, if_pos (And.intro hj hb)]; rfl
theorem mul_ok {i j : Int} (hi : i.natAbs < big) (hj : j.natAbs < big) : bopF .mul [.int i, .int j] h = some (.int (i * j), h) := by
  simp only [bopF, mulF, if_pos (And.intro hi hj)]
theorem lt_big {i : Int} (h1 : -(2 ^ 200) < i) (h2 : i < 2 ^ 200) : i.natAbs < big := by
  have : i.natAbs < 2 ^ 200 := by omega
  exact Nat.lt_of_lt_of_le this (by unfold big; exact Nat.pow_le_pow_right (by decide) (by decide))
end
theorem line_of {n : Nat} (h : n ≤ 1000) : n ≤ sizeLine := Nat.le_trans h (by rw [sizeLine_eq]; decide)
theorem okL {ds : List PV} {P : Prop} (hl : ds.length ≤ 1000) (p : P) : ds.length ≤ sizeLine ∧ P := ⟨line_of hl, p⟩
theorem okO_bind {i : Nat} {d : PV} {l : Loc} {Q : Loc → Prop} (hi : i < l.length) (q : Q (l.set i (some d))) : OkO (bindT (.nm i) d l) Q := by
  unfold bindT
  rw [if_pos hi]; exact q
theorem okO_get {h : PHeap} {i : Nat} {k : Int} {ds : List PV} {d : PV} {Q : PV → Prop} (e : h[i]? = some (.lst ds)) (g : atI ds k = some d) (q : Q d) : OkO (getF (.ref i) (.int k) h) Q := okO_of ((get_lst e).trans g) q
theorem okO_put {h : PHeap} {i j : Nat} {k : Int} {ds : List PV} {v : PV} {Q : PHeap → Prop} (e : h[i]? = some (.lst ds)) (g : ixN ds.length k = some j) (q : Q (h.set i (.lst (ds.set j v)))) : OkO (putF (.ref i) (.int k) v h) Q := okO_of (put_lst e g) q
theorem okP_mod {h : PHeap} {i j : Int} {Q : PV → PHeap → Prop} (hj : 0 < j) (q : Q (.int (i % j)) h) : OkP (bopF .mod [.int i, .int j] h) Q := okP_of (mod_ok hj) q
theorem okP_fdiv {h : PHeap} {i j : Int} {Q : PV → PHeap → Prop} (hj : 0 < j) (hb : j < 2 ^ 200) (q : Q (.int (i / j)) h) : OkP (bopF .fdiv [.int i, .int j] h) Q := okP_of (fdiv_ok hj (lt_big (by omega) hb)) q
theorem okP_mul {h : PHeap} {i j : Int} {Q : PV → PHeap → Prop} (h1 : -2 ^ 200 < i ∧ i < 2 ^ 200) (h2 : -2 ^ 200 < j ∧ j < 2 ^ 200) (q : Q (.int (i * j)) h) : OkP (bopF .mul [.int i, .int j] h) Q := okP_of (mul_ok (lt_big h1.1 h1.2) (lt_big h2.1 h2.2)) q
theorem get_self {h : PHeap} {i : Nat} {o o' : PObj} (e : h[i]? = some o) : (h.set i o')[i]? = some o' := by
  rw [List.getElem?_set_self (List.getElem?_eq_some_iff.mp e).1]
theorem sh_str {x : Str} (hx : PyData.strOk x = true) : SeqAt.shaped (.str x) = true := by
  unfold SeqAt.shaped
  simp only [PyData.canLay0, hx, PyData.depth]; rfl
theorem eqD_str {h : PHeap} {x y : Str} (hx : PyData.strOk x = true) (hy : PyData.strOk y = true) : eqD h (.str x) (.str y) = some (x == y) := by
  unfold eqD
  show (if SeqAt.shaped (.str x) = true ∧ SeqAt.shaped (.str y) = true then _ else _) = _
  rw [if_pos ⟨sh_str hx, sh_str hy⟩]
  simp only [PyData.eqv]
theorem eq_str {h : PHeap} {x y : Str} (hx : PyData.strOk x = true) (hy : PyData.strOk y = true) : eqF h (.str x) (.str y) = some (x == y) := by
  unfold eqF
  rw [eqD_str hx hy]
theorem okO_eqs {h : PHeap} {x y : Str} {Q : Bool → Prop} (hx : PyData.strOk x = true) (hy : PyData.strOk y = true) (q : Q (x == y)) : OkO (cmpB .eq h (.str x) (.str y)) Q := okO_of (show eqF h _ _ = _ from eq_str hx hy) q
theorem okO_nes {h : PHeap} {x y : Str} {Q : Bool → Prop} (hx : PyData.strOk x = true) (hy : PyData.strOk y = true) (q : Q (!(x == y))) : OkO (cmpB .ne h (.str x) (.str y)) Q := okO_of (show (eqD h _ _).map _ = _ by rw [eqD_str hx hy]; rfl) q
theorem br_t {b : Bool} {A B : Prop} (e : b = true) (a : A) : (b = true → A) ∧ (b = false → B) := ⟨fun _ => a, fun z => by rw [e] at z; cases z⟩
theorem br_f {b : Bool} {A B : Prop} (e : b = false) (a : B) : (b = true → A) ∧ (b = false → B) := ⟨fun z => (by rw [e] at z; cases z), fun _ => a⟩
theorem okO_some {α : Type} {a : α} {Q : α → Prop} (q : Q a) : OkO (some a) Q := q
theorem okO_bl {h : PHeap} {b : Bool} {Q : Bool → Prop} (q : Q b) : OkO (truthF h (.bl b)) Q := q
/-! ### walks -/
section
variable {C : Orc} {l : Loc} {h : PHeap} {Q : PV → PHeap → Prop} {N : Loc → PHeap → Prop} {T : PV → PHeap → Prop} {X : XP}
theorem w_val {e : Ex} {Q : Src → PHeap → Prop} : Okx X (evI C (.val e) l h) Q ↔ Okx X (evE C e l h) fun d h1 => OkO (srcOf h1 d) fun s => Q s h1 := by
  show Okx X (R.bind _ _) _ ↔ _
  rw [ok_bind]
  refine iff_of_eq (congrArg _ (funext fun d => funext fun h1 => propext ?_))
  show Okx X (srcR (srcOf h1 d) h1) Q ↔ _
  cases srcOf h1 d <;> exact Iff.rfl
theorem x_rng1 {e : Ex} {Q : Src → PHeap → Prop} (k : Okx X (evE C e l h) fun d h1 => ∃ j : Int, d = .int j ∧ 0 ≤ j ∧ j < 1000 ∧ Q (.seq ((List.range j.toNat).map fun (i : Nat) => .int (0 + i))) h1) : Okx X (evI C (.rng1 e) l h) Q := by
  show Okx X (R.bind _ _) _
  rw [ok_bind]
  refine k.mono fun d h1 ⟨j, e1, j0, j1, q⟩ => ?_
  subst e1
  show Okx X (srcR (rngOf 0 j) h1) Q
  unfold rngOf
  rw [if_pos ⟨by decide, by decide, by omega, by omega⟩, Int.sub_zero]
  exact q
theorem x_rng2 {a b : Ex} {Q : Src → PHeap → Prop} (k : Okx X (evE C a l h) fun d h1 => ∃ i : Int, d = .int i ∧ 0 ≤ i ∧ i < 1000 ∧ Okx X (evE C b l h1) fun d h2 => ∃ j : Int, d = .int j ∧ 0 ≤ j ∧ j < 1000 ∧ Q (.seq ((List.range (j - i).toNat).map fun (n : Nat) => .int (i + n))) h2) : Okx X (evI C (.rng2 a b) l h) Q := by
  show Okx X (R.bind _ _) _
  rw [ok_bind]
  refine k.mono fun d h1 ⟨i, e1, i0, i1, q⟩ => ?_
  subst e1
  rw [ok_bind]
  refine q.mono fun d h2 ⟨j, e2, j0, j1, q⟩ => ?_
  subst e2
  show Okx X (srcR (rngOf i j) h2) Q
  unfold rngOf
  rw [if_pos ⟨by omega, by omega, by omega, by omega⟩]
  exact q
theorem w_lc {elt : Ex} {tg : Tg} {it : Itr} {ifs : Op} {own : List Nat} : Okx X (evE C (.lc true elt tg it ifs own) l h) Q ↔ Okx X (evI C it l h) fun src h1 => Okx X (lcLoop tg src (evT1 C ifs) (evE C elt) (wipeP l own) (srcLen h1 src + 1) 0 [] h1) fun ds h2 => Q (.fl ds) h2 := by
  show Okx X (R.bind _ _) _ ↔ _
  simp only [ok_bind, ok_lift]; exact Iff.rfl
theorem w_lch {elt : Ex} {tg : Tg} {it : Itr} {ifs : Op} {own : List Nat} : Okx X (evE C (.lc false elt tg it ifs own) l h) Q ↔ Okx X (evI C it l h) fun src h1 => Okx X (lcLoop tg src (evT1 C ifs) (evE C elt) (wipeP l own) (srcLen h1 src + 1) 0 [] h1) fun ds h2 => Q (.ref h2.length) (h2 ++ [.lst ds]) := by
  show Okx X (R.bind _ _) _ ↔ _
  simp only [ok_bind, ok_lift]; exact Iff.rfl
theorem x_met {m : Nat} {e : Ex} {hs : List (Nat × Str)} {last : Str} (em : C.ct.met m = some (hs, last)) (k : Okx (fun c _ h1 => ∃ k, c = .gl k ∧ Okx X (metGo C.ct k h1 hs) Q) (evE C e l h) fun _ h1 => Q (.str last) h1) : Okx X (evE C (.met m e) l h) Q := by
  show Okx X (metF C.ct m (evE C e l h)) Q
  unfold metF
  rw [em]
  revert k
  cases evE C e l h with
  | ok d h1 => exact id
  | exc c fs h1 => rintro ⟨k, rfl, q⟩; exact q
  | stuck => exact id
theorem w_for {t : Tg} {it : Itr} {b : Sxs} : OkSx X (exS C (.for_ t it b) l h) N T ↔ Okx X (evI C it l h) fun src h1 => OkSx X (forLoop t src (exSs C b) (srcLen h1 src + 1) 0 l h1) N T := by
  show OkSx X (R.toS _ _ _) _ _ ↔ _
  rw [okS_to]
theorem w_tno {Q : Bool → PHeap → Prop} : Okx X (evT1 C .no l h) Q ↔ Q true h := Iff.rfl
theorem w_tyes {e : Ex} {Q : Bool → PHeap → Prop} : Okx X (evT1 C (.yes e) l h) Q ↔ Okx X (evE C e l h) fun d h1 => OkO (truthF h1 d) fun b => Q b h1 := by
  show Okx X (truthR _) _ ↔ _
  rw [ok_truth]
/-- the turns of a comprehension -/
theorem ok_lc {tg : Tg} {src : Src} {tt : Loc → PHeap → R Bool} {el : Loc → PHeap → R PV} {lw : Loc} {ds : List PV} (P : Nat → List PV → PHeap → Prop) (hz : ds.length ≤ 1000)
    (hs : ∀ i acc h, P i acc h → srcAt h i src = some ds[i]?)
    (st : ∀ i d acc h, ds[i]? = some d → P i acc h → OkO (bindT tg d lw) fun l => Ok (tt l h) fun b h1 => (b = false → P (i + 1) acc h1) ∧ (b = true → Ok (el l h1) fun y h2 => P (i + 1) (acc ++ [y]) h2)) :
    ∀ (n i : Nat) (acc : List PV) (h : PHeap), n + i = ds.length + 1 → i ≤ ds.length → acc.length ≤ i → P i acc h → Okx X (lcLoop tg src tt el lw n i acc h) fun acc h' => P ds.length acc h' := by
  intro n
  induction n with
  | zero => intro i acc h e hi; omega
  | succ n ih =>
    intro i acc h e hi hl p
    unfold lcLoop
    rw [hs i acc h p]
    by_cases q : i < ds.length
    · rw [List.getElem?_eq_getElem q]
      have s := st i ds[i] acc h (List.getElem?_eq_getElem q) p
      dsimp only
      revert s
      cases bindT tg ds[i] lw with
      | none => exact False.elim
      | some l =>
        intro s
        obtain ⟨b, h1, e1, k1, k2⟩ := Ok.get (r := tt l h) s
        dsimp only
        rw [e1]
        cases b with
        | false => exact ih (i + 1) acc h1 (by omega) q (by omega) (k1 rfl)
        | true =>
          obtain ⟨y, h2, e2, k⟩ := (k2 rfl).get
          dsimp only
          rw [e2]
          dsimp only
          rw [if_pos (Nat.lt_of_lt_of_le (by omega : acc.length < 1000) (line_of (Nat.le_refl _)))]
          exact ih (i + 1) (acc ++ [y]) h2 (by omega) q (by rw [List.length_append]; simp; omega) k
    · obtain rfl : i = ds.length := by omega
      rw [List.getElem?_eq_none (Nat.le_refl _)]
      exact p
/-- the turns of a for -/
theorem ok_for {tg : Tg} {src : Src} {body : Loc → PHeap → RS} {ds : List PV} (P : Nat → Loc → PHeap → Prop)
    (hs : ∀ i l h, P i l h → srcAt h i src = some ds[i]?)
    (st : ∀ i d l h, ds[i]? = some d → P i l h → OkO (bindT tg d l) fun l1 => OkSx X (body l1 h) (fun l2 h2 => P (i + 1) l2 h2) T) (pn : ∀ l h, P ds.length l h → N l h) :
    ∀ (n i : Nat) (l : Loc) (h : PHeap), n + i = ds.length + 1 → i ≤ ds.length → P i l h → OkSx X (forLoop tg src body n i l h) N T := by
  intro n
  induction n with
  | zero => intro i l h e hi; omega
  | succ n ih =>
    intro i l h e hi p
    unfold forLoop
    rw [hs i l h p]
    by_cases q : i < ds.length
    · rw [List.getElem?_eq_getElem q]
      have s := st i ds[i] l h (List.getElem?_eq_getElem q) p
      dsimp only
      revert s
      cases bindT tg ds[i] l with
      | none => exact False.elim
      | some l1 =>
        intro s
        have s : OkSx X (body l1 h) (fun l2 h2 => P (i + 1) l2 h2) T := s
        revert s
        dsimp only
        cases body l1 h with
        | nx l2 h2 => intro s; exact ih (i + 1) l2 h2 (by omega) q s
        | rt d h2 => exact id
        | bk => exact False.elim
        | ct => exact False.elim
        | exc => exact id
        | stuck => exact False.elim
    · obtain rfl : i = ds.length := by omega
      rw [List.getElem?_eq_none (Nat.le_refl _)]
      exact pn l h p
end
section
variable {h : PHeap}
theorem okP_lenT {ds : List PV} {Q : PV → PHeap → Prop} (q : Q (.int ds.length) h) : OkP (bltF .len [.tup ds] h) Q := okP_of rfl q
theorem okO_get0 {d : PV} {r : List PV} {Q : PV → Prop} (q : Q d) : OkO (getF (.tup (d :: r)) (.int 0) h) Q := okO_of (show atI (d :: r) 0 = some d by simp [atI, ixN]) q
theorem okO_get1 {d e : PV} {r : List PV} {Q : PV → Prop} (q : Q e) : OkO (getF (.tup (d :: e :: r)) (.int 1) h) Q := okO_of (show atI (d :: e :: r) 1 = some e by
  unfold atI ixN
  rw [if_pos (by decide), if_pos (by simp only [List.length_cons]; omega)]; rfl) q
theorem okO_get2 {d e g : PV} {r : List PV} {Q : PV → Prop} (q : Q g) : OkO (getF (.tup (d :: e :: g :: r)) (.int 2) h) Q := okO_of (show atI (d :: e :: g :: r) 2 = some g by
  unfold atI ixN
  rw [if_pos (by decide), if_pos (by simp only [List.length_cons]; omega)]; rfl) q
end
theorem for_step {tg : Tg} {src : Src} {body : Loc → PHeap → RS} {n i : Nat} {l : Loc} {h : PHeap} {d : PV} {N : Loc → PHeap → Prop} {T : PV → PHeap → Prop} {X : XP} (hs : srcAt h i src = some (some d))
    (k : OkO (bindT tg d l) fun l1 => OkSx X (body l1 h) (fun l2 h2 => OkSx X (forLoop tg src body n (i + 1) l2 h2) N T) T) : OkSx X (forLoop tg src body (n + 1) i l h) N T := by
  unfold forLoop
  rw [hs]
  dsimp only
  revert k
  cases bindT tg d l with
  | none => exact False.elim
  | some l1 =>
    intro k
    have k : OkSx X (body l1 h) (fun l2 h2 => OkSx X (forLoop tg src body n (i + 1) l2 h2) N T) T := k
    revert k
    dsimp only
    cases body l1 h <;> first | exact id | exact False.elim
theorem for_end {tg : Tg} {src : Src} {body : Loc → PHeap → RS} {n i : Nat} {l : Loc} {h : PHeap} {N : Loc → PHeap → Prop} {T : PV → PHeap → Prop} {X : XP} (hs : srcAt h i src = some none) (k : N l h) : OkSx X (forLoop tg src body (n + 1) i l h) N T := by
  unfold forLoop
  rw [hs]
  exact k
theorem okO_seq {h : PHeap} {i : Nat} {ds : List PV} {Q : List PV → Prop} (e : h[i]? = some (.lst ds)) (q : Q ds) : OkO (seqOf h (.ref i)) Q := okO_of (show seqOf h (.ref i) = some ds by simp only [seqOf, lstOf, objOf, e]) q
theorem set_new {h : PHeap} {o o' : PObj} : (h ++ [o]).set h.length o' = h ++ [o'] := by
  rw [List.set_append_right _ _ (Nat.le_refl _), Nat.sub_self]; rfl
theorem up1 {N a : Nat} (k : a + 1 ≤ N) : ∃ n, N = n + 1 := ⟨N - 1, by omega⟩
theorem mapO_len {α β : Type} {f : α → Option β} : ∀ {xs : List α} {ys : List β}, mapO f xs = some ys → ys.length = xs.length
  | [], _, e => by simp only [mapO] at e; cases e; rfl
  | x :: xs, _, e => by
    obtain ⟨b, bs, e1, e2, rfl⟩ := mapO_cons e
    simp [mapO_len e2]
theorem lstOf_fl {h : PHeap} {xs : List PV} : lstOf h (.fl xs) = some xs := rfl
theorem eqG_nil {h : PHeap} {n : Nat} {v : PV} {xs : List PV} (e : lstOf h v = some xs) : eqG h (n + 1) v (.fl []) = some xs.isEmpty := by
  unfold eqG
  have nf : (flatP v && flatP (.fl [])) = false := by cases v <;> rfl
  rw [if_neg (by rw [nf]; decide)]
  cases v with
  | tup ds => simp [lstOf, objOf] at e
  | _ =>
    dsimp only
    rw [e, lstOf_fl]
    dsimp only
    cases xs with
    | nil => rfl
    | cons x r => rfl
theorem toD_lst {h : PHeap} {n : Nat} {v : PV} {xs : List PV} {d : PyData} (e : lstOf h v = some xs) (t : toD h (n + 1) v = some d) : ∃ ys, mapO (toD h n) xs = some ys ∧ d = .list ys := by
  cases v <;> simp only [lstOf, objOf] at e <;> first | (cases e; done) | skip
  · rename_i o
    cases o <;> first | (cases e; done) | skip
    cases e
    simp only [toD] at t
    obtain ⟨ys, e1, rfl⟩ := omap t
    exact ⟨ys, e1, rfl⟩
  · rename_i i
    simp only [toD] at t
    cases hi : h[i]? with
    | none => rw [hi] at e; cases e
    | some o =>
      rw [hi] at e t
      cases o <;> first | (cases e; done) | skip
      cases e
      obtain ⟨ys, e1, rfl⟩ := omap t
      exact ⟨ys, e1, rfl⟩
/-- a list against the empty one -/
theorem eq_nil {h : PHeap} {v : PV} {xs : List PV} (e : lstOf h v = some xs) : eqF h v (.fl []) = some xs.isEmpty := by
  have nt : ∀ ds, v ≠ .tup ds := fun ds z => by subst z; simp [lstOf, objOf] at e
  unfold eqF
  split
  · rename_i b hb
    unfold eqD at hb
    split at hb
    · rename_i p q h1 h2
      split at hb
      · cases hb
        obtain ⟨ys, e1, rfl⟩ := toD_lst e h1
        obtain ⟨zs, e2, rfl⟩ := toD_lst lstOf_fl h2
        simp only [mapO] at e2
        cases e2
        have := mapO_len e1
        cases ys with
        | nil => cases xs with
          | nil => simp [PyData.eqv, PyData.eqvAll]
          | cons => simp at this
        | cons => cases xs with
          | nil => simp at this
          | cons => simp [PyData.eqv, PyData.eqvAll]
      · cases hb
    · cases hb
  · cases v with
    | tup ds => exact absurd rfl (nt ds)
    | _ => exact (if_neg (by simp [flatP])).trans (eqG_nil e)
theorem okO_eq_nil {h : PHeap} {v : PV} {xs : List PV} {Q : Bool → Prop} (e : lstOf h v = some xs) (q : Q xs.isEmpty) : OkO (cmpB .eq h v (.fl [])) Q := okO_of (eq_nil e) q
theorem okO_eq_nilF {h : PHeap} {xs : List PV} {Q : Bool → Prop} (q : Q xs.isEmpty) : OkO (cmpB .eq h (.fl xs) (.fl [])) Q := okO_of (eq_nil lstOf_fl) q
theorem cutP_all {ds : List PV} {lo hi : Option Int} (h0 : HT.sIx ds.length 0 lo = 0) (h1 : HT.sIx ds.length ds.length hi = ds.length) : cutP ds lo hi = ds := by
  simp only [cutP, h0, h1, List.drop_zero, Nat.sub_zero, List.take_length]
theorem okP_slcT {h : PHeap} {ds : List PV} {lo hi : Option Int} {Q : PV → PHeap → Prop} (q : Q (.tup (cutP ds lo hi)) h) : OkP (slcF (.tup ds) lo hi h) Q := by
  simp only [slcF]
  split
  · rename_i z
    rw [cutP_all z.1 z.2] at q; exact q
  · exact q
theorem cutP_nat {ds : List PV} {a : Nat} : cutP ds (some (a : Int)) none = ds.drop a := by
  simp only [cutP, HT.sIx_nat, HT.sIx_none]
  rw [List.take_of_length_le (by rw [List.length_drop]; omega)]
  by_cases z : a ≤ ds.length
  · rw [Nat.min_eq_left z]
  · rw [Nat.min_eq_right (by omega), List.drop_of_length_le (Nat.le_refl _), List.drop_of_length_le (by omega)]
theorem cutP_upto {ds : List PV} {a : Nat} : cutP ds none (some (a : Int)) = ds.take a := by
  simp only [cutP, HT.sIx_nat, HT.sIx_none, List.drop_zero, Nat.sub_zero]
  by_cases z : a ≤ ds.length
  · rw [Nat.min_eq_left z]
  · rw [Nat.min_eq_right (by omega), List.take_of_length_le (Nat.le_refl _), List.take_of_length_le (by omega)]
theorem okP_tail {h : PHeap} {d : PV} {r : List PV} {Q : PV → PHeap → Prop} (q : Q (.tup r) h) : OkP (slcF (.tup (d :: r)) (some 1) none h) Q := okP_slcT (by rw [show (1 : Int) = ((1 : Nat) : Int) from rfl, cutP_nat]; exact q)

/-! ### frames -/
def Fr (S : List Nat) (h h' : PHeap) : Prop := h.length ≤ h'.length ∧ ∀ j, j < h.length → j ∉ S → h'[j]? = h[j]?
section
variable {S S' : List Nat} {h h1 h2 : PHeap} {o : PObj} {i j : Nat}
theorem Fr.refl : Fr S h h := ⟨Nat.le_refl _, fun _ _ _ => rfl⟩
theorem Fr.trans (a : Fr S h h1) (b : Fr S h1 h2) : Fr S h h2 := ⟨Nat.le_trans a.1 b.1, fun j hj n => (b.2 j (Nat.lt_of_lt_of_le hj a.1) n).trans (a.2 j hj n)⟩
theorem Fr.mono (a : Fr S h h1) (s : ∀ x ∈ S, x ∈ S') : Fr S' h h1 := ⟨a.1, fun j hj n => a.2 j hj fun z => n (s j z)⟩
theorem Fr.app (x : PHeap) : Fr S h (h ++ x) := ⟨by rw [List.length_append]; omega, fun j hj _ => List.getElem?_append_left hj⟩
theorem Fr.set (hi : i ∈ S) : Fr S h (h.set i o) := ⟨by rw [List.length_set]; exact Nat.le_refl _, fun j hj n => List.getElem?_set_ne fun z : i = j => n (z ▸ hi)⟩
theorem lt_of_get (e : h[j]? = some o) : j < h.length := (List.getElem?_eq_some_iff.mp e).1
theorem Fr.get (a : Fr S h h1) (e : h[j]? = some o) (n : j ∉ S) : h1[j]? = some o := (a.2 j (lt_of_get e) n).trans e
theorem Fr.get0 (a : Fr [] h h1) (e : h[j]? = some o) : h1[j]? = some o := a.get e List.not_mem_nil
/-- what is written beyond h is free to change -/
theorem Fr.drop (a : Fr S h h1) (n : ∀ x ∈ S, h.length ≤ x ∨ x ∈ S') : Fr S' h h1 := ⟨a.1, fun j hj m => a.2 j hj fun z => (n j z).elim (fun q => by omega) m⟩
theorem Fr.len (a : Fr S h h1) : h.length ≤ h1.length := a.1
theorem get_new : (h ++ [o])[h.length]? = some o := by rw [List.getElem?_append_right (Nat.le_refl _), Nat.sub_self]; rfl
theorem okP_len {ds : List PV} {Q : PV → PHeap → Prop} (e : h[j]? = some (.lst ds)) (q : Q (.int ds.length) h) : OkP (bltF .len [.ref j] h) Q := by
  refine okP_of (d := .int ds.length) (h' := h) ?_ q
  show (seqOf h (.ref j)).map _ = _
  simp only [seqOf, lstOf, objOf, e]; rfl
theorem atI_mem {ds : List PV} {r : Int} (h0 : 0 ≤ r) (h1 : r < ds.length) : ∃ d, atI ds r = some d ∧ d ∈ ds ∧ ds[r.toNat]? = some d := by
  unfold atI ixN
  rw [if_pos h0, if_pos h1]
  have hl : r.toNat < ds.length := by omega
  exact ⟨ds[r.toNat], by simp [List.getElem?_eq_getElem hl], List.getElem_mem hl, List.getElem?_eq_getElem hl⟩
end

section
variable {h : PHeap} {i j : Nat} {xs ys : List PV} {v : PV} {Q : PV → PHeap → Prop}
theorem rcv_lst {m : Mi} (e : h[i]? = some (.lst xs)) : rcvOk m (.ref i) h = true := by simp only [rcvOk, e]
theorem okP_app (e : h[i]? = some (.lst xs)) (hl : xs.length < 1000) (q : Q .non (h.set i (.lst (xs ++ [v])))) : OkP (methF .append [.ref i, v] h) Q := by
  refine okP_of ?_ q
  show appP [.ref i, v] h = _
  simp only [appP, e]
  rw [if_pos (Nat.lt_of_lt_of_le hl (line_of (Nat.le_refl _)))]
theorem okP_ext {v : PV} (e : h[i]? = some (.lst xs)) (e' : lstOf h v = some ys) (ne : neRef i v = true) (hl : xs.length + ys.length ≤ 1000) (q : Q .non (h.set i (.lst (xs ++ ys)))) : OkP (methF .extend [.ref i, v] h) Q := by
  refine okP_of ?_ q
  show extP [.ref i, v] h = _
  simp only [extP, e, e']
  rw [if_pos ⟨line_of hl, ne⟩]
end

/-! dicts with nested keys -/
theorem sameK_iff {p : PV} {q k : NestedKey} (h : nkOf p = some q) : sameK p k = decide (q = k) := by
  unfold sameK; rw [h, NestedKey.decide_eq]
theorem find_map (k : NestedKey) (v : PV) (k' : NestedKey) : ∀ kvs : List (PV × PV), dFind (kvs.map fun p => if sameK p.1 k then (p.1, v) else p) k' = if k = k' then (dFind kvs k).map (fun _ => v) else dFind kvs k'
  | [] => by unfold dFind; simp
  | (a, b) :: r => by
    have ih := find_map k v k' r
    unfold dFind at ih ⊢
    rw [List.map_cons, List.find?_cons, List.find?_cons, List.find?_cons]
    by_cases hk : k = k'
    · subst hk
      rw [if_pos rfl] at ih ⊢
      cases z : sameK a k with
      | true => simp [z]
      | false => simp only [z, Bool.false_eq_true, if_false]; exact ih
    · rw [if_neg hk] at ih ⊢
      cases z : sameK a k with
      | true =>
        have z' : sameK a k' = false := by
          unfold sameK at z ⊢
          cases hn : nkOf a with
          | none => rfl
          | some q =>
            rw [hn] at z
            have := NestedKey.eq_of_beq _ _ z
            subst this
            dsimp only
            cases zz : NestedKey.beq q k' with
            | false => rfl
            | true => exact absurd (NestedKey.eq_of_beq _ _ zz) hk
        simp only [z', if_true, Bool.false_eq_true]; exact ih
      | false =>
        simp only [Bool.false_eq_true, if_false]
        cases z' : sameK a k' with
        | true => rfl
        | false => exact ih
theorem find_store {kvs : List (PV × PV)} {k k' : NestedKey} {kp v : PV} (h : nkOf kp = some k) : dFind (dStore kvs k kp v) k' = if k = k' then some v else dFind kvs k' := by
  unfold dStore
  cases z : dFind kvs k with
  | some u =>
    rw [if_pos (show (some u).isSome = true from rfl), find_map, z]; rfl
  | none =>
    rw [if_neg (by simp)]
    unfold dFind at z ⊢
    rw [List.find?_append]
    by_cases hk : k = k'
    · subst hk
      rw [if_pos rfl]
      have : kvs.find? (fun p => sameK p.1 k) = none := by
        cases y : kvs.find? (fun p => sameK p.1 k) with
        | none => rfl
        | some _ => rw [y] at z; cases z
      rw [this]
      simp [List.find?_cons, sameK_iff h]
    · rw [if_neg hk]
      simp [List.find?_cons, sameK_iff h, hk]
theorem store_len {kvs : List (PV × PV)} {k : NestedKey} {kp v : PV} : (dStore kvs k kp v).length ≤ kvs.length + 1 := by
  unfold dStore
  split
  · rw [List.length_map]; omega
  · rw [List.length_append]; exact Nat.le_refl _
theorem store_all {kvs : List (PV × PV)} {k : NestedKey} {kp v : PV} {f : PV → Bool} (hk : f kp = true) (h : kvs.all (fun p => f p.1) = true) : (dStore kvs k kp v).all (fun p => f p.1) = true := by
  unfold dStore
  rw [List.all_eq_true] at h ⊢
  split
  · intro x hx
    obtain ⟨y, hy, rfl⟩ := List.mem_map.mp hx
    split <;> exact h y hy
  · intro x hx
    rcases List.mem_append.mp hx with hx | hx
    · exact h x hx
    · rw [List.mem_singleton.mp hx]; exact hk
section
variable {C : Orc} {ct : Ct} {l : Loc} {h : PHeap} {i : Nat} {Q : PV → PHeap → Prop} {X : XP}
theorem okO_getD {kvs : List (PV × PV)} {k d : PV} {Q : PV → Prop} (e : h[i]? = some (.dic kvs)) (g : dGetF kvs k = some d) (q : Q d) : OkO (getF (.ref i) k h) Q := okO_of ((get_dic e).trans g) q
theorem okO_putD {kvs kvs' : List (PV × PV)} {k v : PV} {Q : PHeap → Prop} (e : h[i]? = some (.dic kvs)) (g : dPutF kvs k v = some kvs') (q : Q (h.set i (.dic kvs'))) : OkO (putF (.ref i) k v h) Q := by
  refine okO_of ?_ q
  simp only [putF, e, g]; rfl
theorem okP_attr {c f : Nat} {fs : List (Nat × PV)} {d : PV} (e : h[i]? = some (.ins c fs)) (o : ownF ct c f = true) (g : fs.lookup f = some d) (q : Q d h) : OkP (attrF ct f [.ref i] h) Q := by
  refine okP_of ?_ q
  simp only [attrF, objOf, e, o, g]; rfl
theorem okP_attrF {c f : Nat} {fs : List (Nat × PV)} {d : PV} (o : ownF ct c f = true) (g : fs.lookup f = some d) (q : Q d h) : OkP (attrF ct f [.fz (.ins c fs)] h) Q := by
  refine okP_of ?_ q
  simp only [attrF, objOf, o, g]; rfl
theorem okO_getDF {kvs : List (PV × PV)} {k d : PV} {Q : PV → Prop} (g : dGetF kvs k = some d) (q : Q d) : OkO (getF (.fz (.dic kvs)) k h) Q := okO_of g q
theorem okO_fld {c f : Nat} {fs : List (Nat × PV)} {v : PV} {Q : PHeap → Prop} (e : h[i]? = some (.ins c fs)) (o : ownF ct c f = true) (g : fs.length < 900) (q : Q (h.set i (.ins c (setFl fs f v)))) : OkO (fldF ct (.ref i) f v h) Q := by
  refine okO_of ?_ q
  simp only [fldF, e, o, decide_eq_true g]; rfl
theorem w_make {c f : Nat} {es : Exs} : Okx X (evE C (.make c f es) l h) Q ↔ Okx X (evA C es l h) fun ds h1 => Ok (C.call f (.ref h1.length :: ds) (h1 ++ [.ins c []])) fun d h2 => d = .non ∧ Q (.ref h1.length) h2 := by
  show Okx X (R.bind _ _) _ ↔ _
  rw [ok_bind]
  refine iff_of_eq (congrArg _ (funext fun ds => funext fun h1 => propext ?_))
  show Okx X (makeF C.call c f ds h1) Q ↔ _
  unfold makeF
  cases C.call f (.ref h1.length :: ds) (h1 ++ [.ins c []]) with
  | ok d h2 => cases d <;> simp [Okx]
  | exc => exact Iff.rfl
  | stuck => exact Iff.rfl
end
end Zed
end
section
set_option Elab.async false
set_option linter.all false
set_option maxRecDepth 100000
set_option exponentiation.threshold 10000
/-! ZedY: the plain law's tools for pop, reversed slices, methods, classmethods, isinstance, own equality, while, zip. -/
namespace Zed
open PySem L2
section
variable {C : Orc} {l : Loc} {h : PHeap} {Q : PV → PHeap → Prop} {N : Loc → PHeap → Prop} {T : PV → PHeap → Prop} {X : XP}
theorem w_pop {o : Ex} : Okx X (evE C (.pop o) l h) Q ↔ Okx X (evE C o l h) fun x h1 => OkP (popP [x] h1) Q := by
  show Okx X (ev1 _ _ _ _) _ ↔ _
  unfold ev1
  simp only [ok_bind, ok_lift]
theorem w_rev {z : Bool} {o : Ex} : Okx X (evE C (.rev z o) l h) Q ↔ Okx X (evE C o l h) fun x h1 => OkP (revP z [x] h1) Q := by
  show Okx X (ev1 _ _ _ _) _ ↔ _
  unfold ev1
  simp only [ok_bind, ok_lift]
theorem w_isi {es : Exs} : Okx X (evE C (.isi es) l h) Q ↔ Okx X (evA C es l h) fun ds h1 => OkP (isiP C.ct ds h1) Q := by
  show Okx X (R.bind _ _) _ ↔ _
  simp only [ok_bind, ok_lift]
theorem w_mcl {m : Nat} {o : Ex} {es : Exs} : Okx X (evE C (.mcl m o es) l h) Q ↔ Okx X (evE C o l h) fun x h1 => OkO (mthF C.ct h1 x m) fun f => Okx X (evA C es l h1) fun ds h2 => Okx X (C.call f (x :: ds) h2) Q := by
  show Okx X (R.bind _ _) _ ↔ _
  rw [ok_bind]
  refine iff_of_eq (congrArg _ (funext fun x => funext fun h1 => propext ?_))
  cases mthF C.ct h1 x m with
  | none => exact Iff.rfl
  | some f => simp only [OkO, ok_bind]
theorem w_mc0 {m : Nat} {o : Ex} : Okx X (evE C (.mc0 m o) l h) Q ↔ Okx X (evE C o l h) fun x h1 => OkO (mthF C.ct h1 x m) fun f => Okx X (C.call f [x] h1) Q := by
  show Okx X (R.bind _ _) _ ↔ _
  rw [ok_bind]
  refine iff_of_eq (congrArg _ (funext fun x => funext fun h1 => propext ?_))
  cases mthF C.ct h1 x m <;> exact Iff.rfl
theorem w_cmt {c m : Nat} {es : Exs} : Okx X (evE C (.cmt c m es) l h) Q ↔ OkO (C.ct.cmt c m) fun f => Okx X (evA C es l h) fun ds h1 => Okx X (C.call f (.gl c :: ds) h1) Q := by
  show Okx X (match C.ct.cmt c m with | some f => _ | none => _) _ ↔ _
  cases C.ct.cmt c m with
  | none => exact Iff.rfl
  | some f => simp only [OkO, ok_bind]
theorem x_mkl {i c f : Nat} {es : Exs} (e : l[i]? = some (some (.gl c))) (k : Okx X (evA C es l h) fun ds h1 => Ok (C.call f (.ref h1.length :: ds) (h1 ++ [.ins c []])) fun d h2 => d = .non ∧ Q (.ref h1.length) h2) : Okx X (evE C (.mkl i c f es) l h) Q := by
  have key : Okx X (evE C (.make c f es) l h) Q := w_make.mpr k
  show Okx X (match l[i]? with | some (some (.gl d)) => if d = c then _ else _ | _ => _) Q
  rw [e]
  dsimp only
  rw [if_pos rfl]
  exact key
theorem w_oeq {ne : Bool} {a b : Ex} : Okx X (evE C (.oeq ne a b) l h) Q ↔ Okx X (evE C a l h) fun x h1 => Okx X (evE C b l h1) fun y h2 => Okx X (oeqR C ne x y h2) Q := by
  show Okx X (R.bind _ _) _ ↔ _
  simp only [ok_bind]
theorem x_oeq {ne : Bool} {x y : PV} {c f : Nat} {fs gs : List (Nat × PV)} (e1 : objOf h x = some (.ins c fs)) (e2 : objOf h y = some (.ins c gs)) (sl : C.ct.isSl c = false) (em : C.ct.eqm c = some f)
    (k : Ok (C.call f [x, y] h) fun d h3 => ∃ r : Bool, d = .bl r ∧ Q (.bl (ne != r)) h3) : Okx X (oeqR C ne x y h) Q := by
  unfold oeqR
  rw [e1, e2]
  dsimp only
  rw [if_pos ⟨rfl, sl⟩, em]
  dsimp only
  obtain ⟨d, h3, e, r, rfl, q⟩ := k.get
  rw [e]
  exact q
theorem w_enm {e : Ex} {Q : Src → PHeap → Prop} : Okx X (evI C (.enm e) l h) Q ↔ Okx X (evE C e l h) fun d h1 => OkO (enmP d) fun s => Q s h1 := by
  show Okx X (R.bind _ _) _ ↔ _
  rw [ok_bind]
  refine iff_of_eq (congrArg _ (funext fun d => funext fun h1 => propext ?_))
  show Okx X (srcR (enmP d) h1) Q ↔ _
  cases enmP d <;> exact Iff.rfl
theorem w_zp {a b : Ex} {Q : Src → PHeap → Prop} : Okx X (evI C (.zp a b) l h) Q ↔ Okx X (evE C a l h) fun d h1 => Okx X (evE C b l h1) fun e h2 => OkO (zipP d e) fun s => Q s h2 := by
  show Okx X (R.bind _ _) _ ↔ _
  simp only [ok_bind]
  refine iff_of_eq (congrArg _ (funext fun d => funext fun h1 => congrArg _ (funext fun e => funext fun h2 => propext ?_)))
  show Okx X (srcR (zipP d e) h2) Q ↔ _
  cases zipP d e <;> exact Iff.rfl
theorem okP_pop {i : Nat} {xs : List PV} {y : PV} (e : h[i]? = some (.lst (xs ++ [y]))) (q : Q y (h.set i (.lst xs))) : OkP (popP [.ref i] h) Q := by
  refine okP_of ?_ q
  simp only [popP, e]
  rw [show (xs ++ [y])[(xs ++ [y]).length - 1]? = some y by rw [List.length_append]; simp]
  simp
theorem okP_popi {i : Nat} {k : Int} {xs : List PV} {y : PV} (e : h[i]? = some (.lst xs)) (k0 : 0 ≤ k) (k1 : k < 1000) (hy : xs[k.toNat]? = some y) (q : Q y (h.set i (.lst (xs.eraseIdx k.toNat)))) : OkP (methF .pop [.ref i, .int k] h) Q := by
  refine okP_of ?_ q
  show popiP [.ref i, .int k] h = _
  simp only [popiP, e]
  rw [if_pos ⟨k0, by omega⟩, hy]
theorem okP_rev {v : PV} {xs : List PV} (e : lstOf h v = some xs) (q : Q (.fl xs.reverse) h) : OkP (revP true [v] h) Q := by
  refine okP_of ?_ q
  show (lstOf h v).map _ = _
  rw [e]; rfl
/-- while: P holds at each turn's start, the measure falls -/
theorem ok_whl {c : Ex} {b : Sxs} (P : Nat → Loc → PHeap → Prop)
    (st : ∀ m l h, P m l h → Okx X (evE C c l h) fun d h1 => OkO (truthF h1 d) fun k => (k = true → OkSx X (exSs C b l h1) (fun l2 h2 => ∃ m2, m2 < m ∧ P m2 l2 h2) T) ∧ (k = false → N l h1)) {m : Nat} (hm : m < 1000) (p : P m l h) : OkSx X (exS C (.whl c b) l h) N T := by
  have key : ∀ (n m : Nat) (l : Loc) (h : PHeap), m < n → P m l h → OkSx X (whlLoop (fun l h => truthR (evE C c l h)) (exSs C b) n l h) N T := by
    intro n
    induction n with
    | zero => intro m l h hm; omega
    | succ n ih =>
      intro m l h hm p
      unfold whlLoop
      rw [okS_to, ok_truth]
      refine (st m l h p).mono fun d h1 z => ?_
      revert z
      cases truthF h1 d with
      | none => exact id
      | some k =>
        intro z
        cases k with
        | false => exact z.2 rfl
        | true =>
          have z := z.1 rfl
          show OkSx X (match exSs C b l h1 with | .nx l2 h2 => _ | .ct l2 h2 => _ | .bk l2 h2 => _ | .rt d h2 => _ | .exc c fs l2 h2 => _ | .stuck => _) N T
          revert z
          cases exSs C b l h1 with
          | nx l2 h2 => rintro ⟨m2, k2, p2⟩; exact ih m2 l2 h2 (by omega) p2
          | bk => exact False.elim
          | ct => exact False.elim
          | rt => exact id
          | exc => exact id
          | stuck => exact id
  exact key 1000000 m l h (by omega) p
end
end Zed
end
open PySem L2 Zed
local macro_rules | `(tactic| walk_at "z1") => `(tactic| first | with_reducible refine s_cons.mpr ?_ | with_reducible refine w_val.mpr ?_ | with_reducible refine w_lc.mpr ?_ | with_reducible refine w_lch.mpr ?_ | with_reducible refine w_for.mpr ?_ | with_reducible refine w_tno.mpr ?_ | with_reducible refine w_tyes.mpr ?_ | with_reducible refine s_nil.mpr ?_ | with_reducible refine s_rai.mpr ?_ | with_reducible refine s_asg.mpr ?_ | with_reducible refine s_put.mpr ?_ | with_reducible refine s_fld.mpr ?_ | with_reducible refine s_ret.mpr ?_ | with_reducible refine s_ret0.mpr ?_ | with_reducible refine s_iff.mpr ?_ | with_reducible refine s_ex.mpr ?_ | with_reducible refine w_con.mpr ?_ | with_reducible refine w_bin.mpr ?_ | with_reducible refine w_cmp.mpr ?_ | with_reducible refine w_sub.mpr ?_ | with_reducible refine w_not.mpr ?_ | with_reducible refine w_and.mpr ?_ | with_reducible refine w_or.mpr ?_ | with_reducible refine w_ite.mpr ?_ | with_reducible refine w_chn.mpr ?_ | with_reducible refine w_tup.mpr ?_ | with_reducible refine w_lst.mpr ?_ | with_reducible refine w_lsh.mpr ?_ | with_reducible refine w_call.mpr ?_ | with_reducible refine w_blt.mpr ?_ | with_reducible refine w_attr.mpr ?_ | with_reducible refine w_dic0.mpr ?_ | with_reducible refine w_dich.mpr ?_ | with_reducible refine w_meth.mpr ?_ | with_reducible refine w_slc.mpr ?_ | with_reducible refine w_ono.mpr ?_ | with_reducible refine w_oyes.mpr ?_ | with_reducible refine w_nil.mpr ?_ | with_reducible refine w_cons.mpr ?_ | with_reducible refine w_star.mpr ?_ | ((with_reducible apply x_loc); first | rfl | assumption) | ((with_reducible refine okO_bind ?_ ?_); exact Nat.le_of_ble_eq_true rfl; dsimp only [List.set]) | with_reducible refine okO_bl ?_ | with_reducible refine okO_some ?_ )
local macro_rules | `(tactic| walk_at "zz") => `(tactic| repeat (first | walk_at "z1" | ((with_reducible refine okO_eqs ?_ ?_ ?_); (first | assumption | decide +kernel); (first | assumption | decide +kernel)) | ((with_reducible refine okO_nes ?_ ?_ ?_); (first | assumption | decide +kernel); (first | assumption | decide +kernel)) | ((with_reducible refine br_t ?_ ?_); first | rfl | assumption) | ((with_reducible refine br_f ?_ ?_); first | rfl | assumption) | ((with_reducible refine okL ?_ ?_); exact Nat.le_of_ble_eq_true rfl) | ((with_reducible apply okO_get); assumption; rfl) | ((with_reducible apply okO_put); assumption; rfl; try dsimp only [Int.reduceToNat, List.set]) | ((with_reducible apply okP_of); rfl) | ((with_reducible apply okO_of); rfl)))
local macro_rules | `(tactic| walk_at "zs") => `(tactic| (first | (with_reducible refine x_rng1 ?_) | (with_reducible refine x_rng2 ?_) | walk_at "z1" | (with_reducible refine okO_get0 ?_) | (with_reducible refine okO_get1 ?_) | (with_reducible refine okO_get2 ?_) | (with_reducible refine okP_tail ?_) | (with_reducible refine okO_eq_nilF ?_) | ((with_reducible refine okO_eqs ?_ ?_ ?_); (first | assumption | decide +kernel); (first | assumption | decide +kernel)) | ((with_reducible refine okO_nes ?_ ?_ ?_); (first | assumption | decide +kernel); (first | assumption | decide +kernel)) | ((with_reducible refine br_t ?_ ?_); first | rfl | assumption) | ((with_reducible refine br_f ?_ ?_); first | rfl | assumption) | ((with_reducible refine okL ?_ ?_); exact Nat.le_of_ble_eq_true rfl) | ((with_reducible apply okO_get); assumption; rfl) | ((with_reducible apply okO_put); assumption; rfl; try dsimp only [Int.reduceToNat, List.set]) | ((with_reducible apply okP_of); rfl) | ((with_reducible apply okO_of); rfl)))
local macro_rules | `(tactic| walk_at "zy") => `(tactic| repeat walk_at "zs")
local macro_rules | `(tactic| walk_at "z2") => `(tactic| first | with_reducible refine w_pop.mpr ?_ | with_reducible refine w_rev.mpr ?_ | with_reducible refine w_isi.mpr ?_ | with_reducible refine w_mcl.mpr ?_ | with_reducible refine w_mc0.mpr ?_ | with_reducible refine w_cmt.mpr ?_ | with_reducible refine w_oeq.mpr ?_ | with_reducible refine w_enm.mpr ?_ | with_reducible refine w_zp.mpr ?_ | with_reducible refine w_make.mpr ?_)
local macro_rules | `(tactic| walk_at "zw") => `(tactic| repeat (first | walk_at "zs" | walk_at "z2"))
section
set_option Elab.async false
set_option linter.all false
set_option maxRecDepth 100000
set_option maxHeartbeats 1000000
set_option exponentiation.threshold 10000
namespace Zed
/-! ### tuples compared: flat as far as both go -/
open PySem L2
theorem toD_flat {h : PHeap} {n : Nat} {d : PV} {x : PyData} (f : flatP d = true) (e : toD h n d = some x) : (d = .non ∧ x = .none) ∨ (∃ b, d = .bl b ∧ x = .bool b) ∨ (∃ i, d = .int i ∧ x = .int i) ∨ ∃ s, d = .str s ∧ x = .str s := by
  cases d <;> simp only [flatP] at f <;> first | (cases f; done) | skip
  all_goals (cases n <;> simp only [toD, Option.some.injEq] at e <;> subst e <;> simp)
theorem eqv_flat {h : PHeap} {n : Nat} {d e : PV} {x y : PyData} (f : flatP d = true) (g : flatP e = true) (e1 : toD h n d = some x) (e2 : toD h n e = some y) : PyData.eqv x y = eqP d e := by
  rcases toD_flat f e1 with ⟨rfl, rfl⟩ | ⟨b, rfl, rfl⟩ | ⟨i, rfl, rfl⟩ | ⟨s, rfl, rfl⟩ <;> rcases toD_flat g e2 with ⟨rfl, rfl⟩ | ⟨b', rfl, rfl⟩ | ⟨i', rfl, rfl⟩ | ⟨s', rfl, rfl⟩ <;> simp [PyData.eqv, eqP]
theorem eqTup_eqv {h : PHeap} {n : Nat} : ∀ {ds es : List PV} {xs ys : List PyData} {b : Bool}, mapO (toD h n) ds = some xs → mapO (toD h n) es = some ys → eqTup ds es = some b → PyData.eqvAll xs ys = b
  | [], [], _, _, _, e1, e2, e => by simp only [mapO] at e1 e2; cases e1; cases e2; simp only [eqTup] at e; cases e; simp [PyData.eqvAll]
  | [], _ :: _, _, _, _, e1, e2, e => by
    obtain ⟨_, _, _, _, rfl⟩ := mapO_cons e2
    simp only [mapO] at e1; cases e1; simp only [eqTup] at e; cases e; simp [PyData.eqvAll]
  | _ :: _, [], _, _, _, e1, e2, e => by
    obtain ⟨_, _, _, _, rfl⟩ := mapO_cons e1
    simp only [mapO] at e2; cases e2; simp only [eqTup] at e; cases e; simp [PyData.eqvAll]
  | d :: ds, c :: es, _, _, b, e1, e2, e => by
    obtain ⟨x, xs, p1, p2, rfl⟩ := mapO_cons e1
    obtain ⟨y, ys, q1, q2, rfl⟩ := mapO_cons e2
    simp only [eqTup] at e
    split at e
    · rename_i f
      rw [Bool.and_eq_true] at f
      obtain ⟨b', r1, r2⟩ := omap e
      subst r2
      simp only [PyData.eqvAll, eqv_flat f.1 f.2 p1 q1, eqTup_eqv p2 q2 r1]
    · cases e
theorem eq_tup {h : PHeap} {ds es : List PV} {b : Bool} (e : eqTup ds es = some b) : eqF h (.tup ds) (.tup es) = some b := by
  unfold eqF
  split
  · rename_i b' hb
    unfold eqD at hb
    split at hb
    · rename_i x y h1 h2
      split at hb
      · cases hb
        simp only [toD] at h1 h2
        obtain ⟨xs, p1, rfl⟩ := omap h1
        obtain ⟨ys, p2, rfl⟩ := omap h2
        simp only [PyData.eqv, eqTup_eqv p1 p2 e]
      · cases hb
    · cases hb
  · dsimp only; rw [e]
theorem okO_eqt {h : PHeap} {ds es : List PV} {b : Bool} {Q : Bool → Prop} (e : eqTup ds es = some b) (q : Q b) : OkO (cmpB .eq h (.tup ds) (.tup es)) Q := okO_of (eq_tup e) q
theorem eqD_int {h : PHeap} {i j : Int} : eqD h (.int i) (.int j) = some (i == j) := by
  unfold eqD
  show (if SeqAt.shaped (.int i) = true ∧ SeqAt.shaped (.int j) = true then some (PyData.eqv (.int i) (.int j)) else none) = _
  rw [if_pos ⟨rfl, rfl⟩]
  simp only [PyData.eqv]
theorem okO_eqi {h : PHeap} {i j : Int} {Q : Bool → Prop} (q : Q (i == j)) : OkO (cmpB .eq h (.int i) (.int j)) Q := okO_of (show eqF h (.int i) (.int j) = some (i == j) by unfold eqF; rw [eqD_int]) q
theorem okO_nei {h : PHeap} {i j : Int} {Q : Bool → Prop} (q : Q (!(i == j))) : OkO (cmpB .ne h (.int i) (.int j)) Q := okO_of (show (eqD h (.int i) (.int j)).map _ = some (!(i == j)) by rw [eqD_int]; rfl) q
end Zed
end
section
set_option Elab.async false
set_option linter.all false
set_option maxRecDepth 100000
set_option maxHeartbeats 0
namespace Zed
namespace Law
open PySem L2
def top (i : Nat) : Stmt := PySem.Challenge.pw_depthmarks_k04_whole_events_and_back.main.body.getD i (.Pass ⟨0, 0, 0, 0⟩)
def inn (i j : Nat) : Stmt := match top i with
  | .ClassDef _ _ _ b _ _ _ _ _ _ _ => b.getD j (.Pass ⟨0, 0, 0, 0⟩)
  | _ => .Pass ⟨0, 0, 0, 0⟩
def f_wall : Fd := ⟨1, 1, (.cons (.whl (.con (.bl true))
  (.cons .pass
  .nil))
  .nil), true⟩
def f_is_index : Fd := ⟨2, 2, (.cons (.ret (.and (.blt .isinstance (.cons (.loc 0) (.cons (.con (.ty "int")) .nil))) (.and (.not (.blt .isinstance (.cons (.loc 0) (.cons (.con (.ty "bool")) .nil)))) (.chn .le .lt (.con (.int 0)) (.loc 0) (.loc 1)))))
  .nil), true⟩
def f_is_name : Fd := ⟨1, 2, (.cons (.iff (.or (.not (.blt .isinstance (.cons (.loc 0) (.cons (.con (.ty "str")) .nil)))) (.not (.chn .le .le (.con (.int 1)) (.blt .len (.cons (.loc 0) .nil)) (.con (.int 8)))))
  (.cons (.ret (.con (.bl false)))
  .nil)
  .nil)
  (.cons (.ret (.blt .all (.cons (.lc true (.chn .le .le (.con (.str "a")) (.loc 1) (.con (.str "z"))) (.nm 1) (.val (.loc 0)) .no [1]) .nil)))
  .nil)), true⟩
def f_is_mode : Fd := ⟨1, 1, (.cons (.ret (.and (.blt .isinstance (.cons (.loc 0) (.cons (.con (.ty "str")) .nil))) (.cmp .isin (.loc 0) (.con (.tup [(.str "bare"), (.str "late"), (.str "named")])))))
  .nil), true⟩
def f_require_mode : Fd := ⟨1, 1, (.cons (.iff (.not (.call 42 (.cons (.loc 0) .nil)))
  (.cons (.rai 31 "a mode is expected")
  .nil)
  .nil)
  .nil), true⟩
def f_is_node : Fd := ⟨1, 1, (.cons (.iff (.or (.not (.blt .isinstance (.cons (.loc 0) (.cons (.con (.ty "tuple")) .nil)))) (.or (.cmp .ne (.blt .len (.cons (.loc 0) .nil)) (.con (.int 2))) (.not (.call 1 (.cons (.sub (.loc 0) (.con (.int 0))) .nil)))))
  (.cons (.ret (.con (.bl false)))
  .nil)
  .nil)
  (.cons (.ret (.and (.blt .isinstance (.cons (.sub (.loc 0) (.con (.int 1))) (.cons (.con (.ty "int")) .nil))) (.not (.blt .isinstance (.cons (.sub (.loc 0) (.con (.int 1))) (.cons (.con (.ty "bool")) .nil))))))
  .nil)), true⟩
def f_are_depths : Fd := ⟨1, 3, (.cons (.ret (.and (.cmp .eq (.sub (.loc 0) (.con (.int 0))) (.con (.int 1))) (.blt .all (.cons (.lc true (.chn .le .le (.con (.int 2)) (.loc 2) (.bin .add (.loc 1) (.con (.int 1)))) (.tp (.cons (.nm 1) (.cons (.nm 2) .nil))) (.zp (.loc 0) (.slc (.loc 0) (.yes (.con (.int 1))) .no)) .no [1, 2]) .nil))))
  .nil), true⟩
def f_checked : Fd := ⟨1, 4, (.cons (.iff (.or (.not (.blt .isinstance (.cons (.loc 0) (.cons (.con (.ty "tuple")) .nil)))) (.not (.chn .le .le (.con (.int 1)) (.blt .len (.cons (.loc 0) .nil)) (.con (.int 40)))))
  (.cons (.rai 39 "a tuple of one to forty nodes is expected")
  .nil)
  .nil)
  (.cons (.iff (.or (.not (.blt .all (.cons (.lc true (.call 44 (.cons (.loc 1) .nil)) (.nm 1) (.val (.loc 0)) .no [1]) .nil))) (.not (.call 43 (.cons (.lc true (.loc 3) (.tp (.cons (.nm 2) (.cons (.nm 3) .nil))) (.val (.loc 0)) .no [2, 3]) .nil))))
  (.cons (.rai 39 "nodes of a tree are expected")
  .nil)
  .nil)
  (.cons (.ret (.make 45 46 (.cons (.loc 0) .nil)))
  .nil))), true⟩
def f_ways_in : Fd := ⟨1, 5, (.cons (.asg (.nm 1) (.lst false .nil))
  (.cons (.asg (.nm 2) (.tup .nil))
  (.cons (.for_ (.tp (.cons (.nm 3) (.cons (.nm 4) .nil))) (.val (.loc 0))
  (.cons (.asg (.nm 2) (.tup (.star (.slc (.loc 2) .no (.yes (.bin .sub (.loc 4) (.con (.int 1))))) (.cons (.loc 3) .nil))))
  (.cons (.ex (.meth .append (.loc 1) (.cons (.loc 2) .nil)))
  .nil)))
  (.cons (.ret (.loc 1))
  .nil)))), true⟩
def f_closings_in : Fd := ⟨1, 6, (.cons (.asg (.nm 1) (.lst false .nil))
  (.cons (.asg (.nm 2) (.lst false .nil))
  (.cons (.for_ (.tp (.cons (.nm 3) (.cons (.tp (.cons (.nm 4) (.cons (.nm 5) .nil))) .nil))) (.enm (.loc 0))
  (.cons (.whl (.cmp .ge (.blt .len (.cons (.loc 2) .nil)) (.loc 5))
  (.cons (.ex (.meth .append (.loc 1) (.cons (.pop (.loc 2)) .nil)))
  .nil))
  (.cons (.ex (.meth .append (.loc 2) (.cons (.loc 3) .nil)))
  .nil)))
  (.cons (.ret (.bin .add (.loc 1) (.rev true (.loc 2))))
  .nil)))), true⟩
def f_close_of : Fd := ⟨2, 2, (.cons (.ret (.ite (.cmp .eq (.loc 1) (.con (.str "named"))) (.tup (.cons (.con (.str "close")) (.cons (.loc 0) .nil))) (.tup (.cons (.con (.str "close")) .nil))))
  .nil), true⟩
def f_events_in : Fd := ⟨2, 6, (.cons (.asg (.tp (.cons (.nm 2) (.cons (.nm 3) .nil))) (.tup (.cons (.lst false .nil) (.cons (.lst false .nil) .nil))))
  (.cons (.for_ (.tp (.cons (.nm 4) (.cons (.nm 5) .nil))) (.val (.loc 0))
  (.cons (.whl (.cmp .ge (.blt .len (.cons (.loc 3) .nil)) (.loc 5))
  (.cons (.ex (.meth .append (.loc 2) (.cons (.call 47 (.cons (.pop (.loc 3)) (.cons (.loc 1) .nil))) .nil)))
  .nil))
  (.cons (.ex (.meth .append (.loc 2) (.cons (.tup (.cons (.con (.str "open")) (.cons (.loc 4) .nil))) .nil)))
  (.cons (.ex (.meth .append (.loc 3) (.cons (.loc 4) .nil)))
  .nil))))
  (.cons (.ret (.bin .add (.loc 2) (.lc true (.call 47 (.cons (.loc 4) (.cons (.loc 1) .nil))) (.nm 4) (.val (.rev true (.loc 3))) .no [4])))
  .nil))), true⟩
def f_is_event : Fd := ⟨2, 2, (.cons (.iff (.or (.not (.blt .isinstance (.cons (.loc 0) (.cons (.con (.ty "tuple")) .nil)))) (.or (.cmp .eq (.loc 0) (.tup .nil)) (.not (.blt .isinstance (.cons (.sub (.loc 0) (.con (.int 0))) (.cons (.con (.ty "str")) .nil))))))
  (.cons (.ret (.con (.bl false)))
  .nil)
  .nil)
  (.cons (.iff (.or (.cmp .eq (.sub (.loc 0) (.con (.int 0))) (.con (.str "open"))) (.and (.cmp .eq (.sub (.loc 0) (.con (.int 0))) (.con (.str "close"))) (.cmp .eq (.loc 1) (.con (.str "named")))))
  (.cons (.ret (.and (.cmp .eq (.blt .len (.cons (.loc 0) .nil)) (.con (.int 2))) (.call 1 (.cons (.sub (.loc 0) (.con (.int 1))) .nil))))
  .nil)
  .nil)
  (.cons (.ret (.cmp .eq (.loc 0) (.tup (.cons (.con (.str "close")) .nil))))
  .nil))), true⟩
def f_tracked : Fd := ⟨2, 4, (.cons (.asg (.nm 2) (.make 48 49 (.cons (.loc 1) .nil)))
  (.cons (.iff (.or (.not (.blt .isinstance (.cons (.loc 0) (.cons (.con (.ty "tuple")) .nil)))) (.not (.blt .all (.cons (.lc true (.call 50 (.cons (.loc 3) (.cons (.loc 1) .nil))) (.nm 3) (.val (.loc 0)) .no [3]) .nil))))
  (.cons (.ret (.con .non))
  .nil)
  .nil)
  (.cons (.ret (.ite (.blt .all (.cons (.lc true (.mcl 51 (.loc 2) (.cons (.loc 3) .nil)) (.nm 3) (.val (.loc 0)) .no [3]) .nil)) (.loc 2) (.con .non)))
  .nil))), true⟩
def f_nodes_of : Fd := ⟨2, 3, (.cons (.asg (.nm 2) (.call 52 (.cons (.loc 0) (.cons (.loc 1) .nil))))
  (.cons (.iff (.or (.cmp .is (.loc 2) (.con .non)) (.or (.cmp .ne (.attr (.loc 2) 54) (.lst true .nil)) (.cmp .eq (.attr (.loc 2) 53) (.lst true .nil))))
  (.cons (.ret (.con .non))
  .nil)
  .nil)
  (.cons (.ret (.blt .tuple (.cons (.attr (.loc 2) 53) .nil)))
  .nil))), true⟩
def f_is_beginning : Fd := ⟨2, 2, (.cons (.ex (.call 55 (.cons (.loc 1) .nil)))
  (.cons (.ret (.cmp .isnot (.call 52 (.cons (.loc 0) (.cons (.loc 1) .nil))) (.con .non)))
  .nil)), true⟩
def f_is_complete : Fd := ⟨2, 2, (.cons (.ex (.call 55 (.cons (.loc 1) .nil)))
  (.cons (.ret (.cmp .isnot (.call 56 (.cons (.loc 0) (.cons (.loc 1) .nil))) (.con .non)))
  .nil)), true⟩
def f_completed : Fd := ⟨2, 4, (.cons (.ex (.call 55 (.cons (.loc 1) .nil)))
  (.cons (.asg (.nm 2) (.call 52 (.cons (.loc 0) (.cons (.loc 1) .nil))))
  (.cons (.iff (.or (.cmp .is (.loc 2) (.con .non)) (.or (.cmp .eq (.loc 0) (.tup .nil)) (.cmp .gt (.blt .len (.cons (.loc 0) .nil)) (.con (.int 80)))))
  (.cons (.rai 31 "a beginning of one to eighty events is expected")
  .nil)
  .nil)
  (.cons (.ret (.tup (.star (.loc 0) (.star (.lc true (.call 47 (.cons (.loc 3) (.cons (.loc 1) .nil))) (.nm 3) (.val (.rev true (.attr (.loc 2) 54))) .no [3]) .nil))))
  .nil)))), true⟩
def f_law_dice : Fd := ⟨2, 6, (.cons (.asg (.nm 2) (.bin .add (.bin .mul (.con (.int 59)) (.loc 1)) (.con (.int 23))))
  (.cons (.iff (.cmp .lt (.loc 1) (.blt .len (.cons (.loc 0) .nil)))
  (.cons (.asg (.nm 2) (.sub (.loc 0) (.loc 1)))
  .nil)
  .nil)
  (.cons (.asg (.nm 3) (.bin .mod (.blt .int (.cons (.blt .abs (.cons (.loc 2) .nil)) .nil)) (.bin .pow (.bin .pow (.con (.int 10)) (.con (.int 60))) (.con (.int 10)))))
  (.cons (.asg (.nm 4) (.bin .fdiv (.loc 3) (.bin .pow (.con (.int 10)) (.con (.int 18)))))
  (.cons (.asg (.nm 5) (.bin .add (.bin .add (.bin .add (.bin .mul (.bin .mod (.loc 3) (.con (.int 2147483409))) (.con (.int 50053))) (.bin .mul (.con (.int 2801)) (.loc 1))) (.bin .mul (.con (.int 41)) (.blt .int (.cons (.cmp .lt (.loc 2) (.con (.int 0))) .nil)))) (.con (.int 67))))
  (.cons (.ret (.lst false (.cons (.loc 4) (.cons (.bin .mod (.loc 5) (.con (.int 2147483399))) (.cons (.con (.int 0)) .nil)))))
  .nil)))))), false⟩
def f_law_roll : Fd := ⟨2, 6, (.cons (.asg (.nm 2) (.blt .int (.cons (.loc 1) .nil)))
  (.cons (.iff (.cmp .gt (.sub (.loc 0) (.con (.int 0))) (.con (.int 0)))
  (.cons (.asg (.nm 5) (.bin .mod (.sub (.loc 0) (.con (.int 0))) (.loc 2)))
  (.cons (.put (.loc 0) (.con (.int 0)) (.bin .fdiv (.sub (.loc 0) (.con (.int 0))) (.loc 2)))
  (.cons (.ret (.blt .int (.cons (.loc 5) .nil)))
  .nil)))
  .nil)
  (.cons (.put (.loc 0) (.con (.int 2)) (.bin .add (.sub (.loc 0) (.con (.int 2))) (.con (.int 1))))
  (.cons (.asg (.nm 3) (.bin .mod (.bin .add (.sub (.loc 0) (.con (.int 1))) (.bin .mul (.con (.int 1000117)) (.sub (.loc 0) (.con (.int 2))))) (.con (.int 2305843009213693951))))
  (.cons (.asg (.nm 4) (.bin .add (.bin .mul (.bin .mod (.bin .mul (.loc 3) (.loc 3)) (.con (.int 2305843009213693921))) (.loc 3)) (.bin .mul (.con (.int 9421)) (.sub (.loc 0) (.con (.int 2))))))
  (.cons (.asg (.nm 4) (.bin .mod (.loc 4) (.con (.int 2305843009213693907))))
  (.cons (.ret (.blt .int (.cons (.bin .mod (.bin .fdiv (.loc 4) (.con (.int 4096))) (.loc 2)) .nil)))
  .nil))))))), true⟩
def f_law_one_of : Fd := ⟨2, 2, (.cons (.ret (.sub (.loc 1) (.call 13 (.cons (.loc 0) (.cons (.blt .len (.cons (.loc 1) .nil)) .nil)))))
  .nil), true⟩
def f_law_mixed : Fd := ⟨2, 4, (.cons (.asg (.tp (.cons (.nm 2) (.cons (.nm 3) .nil))) (.tup (.cons (.blt .listm (.cons (.loc 1) .nil)) (.cons (.lst false .nil) .nil))))
  (.cons (.whl (.cmp .ne (.loc 2) (.lst true .nil))
  (.cons (.ex (.meth .append (.loc 3) (.cons (.meth .pop (.loc 2) (.cons (.call 13 (.cons (.loc 0) (.cons (.blt .len (.cons (.loc 2) .nil)) .nil))) .nil)) .nil)))
  .nil))
  (.cons (.ret (.loc 3))
  .nil))), true⟩
def f_law_labels : Fd := ⟨2, 2, (.cons (.ret (.blt .sorted (.cons (.slc (.call 57 (.cons (.loc 0) (.cons (.lst true (.cons (.con (.str "a")) (.cons (.con (.str "b")) (.cons (.con (.str "c")) (.cons (.con (.str "node")) (.cons (.con (.str "x")) (.cons (.con (.str "zz")) .nil))))))) .nil))) .no (.yes (.loc 1))) .nil)))
  .nil), true⟩
def f_law_document : Fd := ⟨3, 6, (.cons (.asg (.nm 3) (.lst false (.cons (.tup (.cons (.call 14 (.cons (.loc 0) (.cons (.loc 1) .nil))) (.cons (.con (.int 1)) .nil))) .nil)))
  (.cons (.for_ (.nm 4) (.rng1 (.call 13 (.cons (.loc 0) (.cons (.loc 2) .nil))))
  (.cons (.asg (.nm 5) (.bin .add (.sub (.sub (.loc 3) (.neg (.con (.int 1)))) (.con (.int 1))) (.con (.int 1))))
  (.cons (.whl (.and (.cmp .gt (.loc 5) (.con (.int 2))) (.cmp .eq (.call 13 (.cons (.loc 0) (.cons (.con (.int 3)) .nil))) (.con (.int 0))))
  (.cons (.asg (.nm 5) (.bin .sub (.loc 5) (.con (.int 1))))
  .nil))
  (.cons (.ex (.meth .append (.loc 3) (.cons (.tup (.cons (.call 14 (.cons (.loc 0) (.cons (.loc 1) .nil))) (.cons (.loc 5) .nil))) .nil)))
  .nil))))
  (.cons (.ret (.loc 3))
  .nil))), true⟩
def f_law_made_document : Fd := ⟨1, 1, (.cons (.ret (.make 58 59 (.cons (.blt .tuple (.cons (.loc 0) .nil)) .nil)))
  .nil), true⟩
def f_law_close : Fd := ⟨2, 2, (.cons (.ret (.ite (.cmp .eq (.loc 1) (.con (.str "named"))) (.tup (.cons (.con (.str "close")) (.cons (.loc 0) .nil))) (.tup (.cons (.con (.str "close")) .nil))))
  .nil), true⟩
def f_law_events : Fd := ⟨2, 6, (.cons (.asg (.tp (.cons (.nm 2) (.cons (.nm 3) .nil))) (.tup (.cons (.lst false .nil) (.cons (.lst false .nil) .nil))))
  (.cons (.for_ (.tp (.cons (.nm 4) (.cons (.nm 5) .nil))) (.val (.loc 0))
  (.cons (.whl (.cmp .ge (.blt .len (.cons (.loc 3) .nil)) (.loc 5))
  (.cons (.ex (.meth .append (.loc 2) (.cons (.call 60 (.cons (.pop (.loc 3)) (.cons (.loc 1) .nil))) .nil)))
  .nil))
  (.cons (.ex (.meth .append (.loc 2) (.cons (.tup (.cons (.con (.str "open")) (.cons (.loc 4) .nil))) .nil)))
  (.cons (.ex (.meth .append (.loc 3) (.cons (.loc 4) .nil)))
  .nil))))
  (.cons (.ret (.bin .add (.loc 2) (.lc true (.call 60 (.cons (.loc 4) (.cons (.loc 1) .nil))) (.nm 4) (.val (.rev true (.loc 3))) .no [4])))
  .nil))), true⟩
def f_law_judged : Fd := ⟨2, 5, (.cons (.asg (.tp (.cons (.nm 3) (.cons (.nm 4) .nil))) (.tup (.cons (.lst false .nil) (.cons (.con (.int 0)) .nil))))
  (.cons (.for_ (.nm 2) (.val (.loc 0))
  (.cons (.iff (.and (.cmp .eq (.slc (.loc 2) .no (.yes (.con (.int 1)))) (.tup (.cons (.con (.str "open")) .nil))) (.cmp .eq (.blt .len (.cons (.loc 2) .nil)) (.con (.int 2))))
  (.cons (.iff (.and (.cmp .eq (.loc 3) (.lst true .nil)) (.cmp .gt (.loc 4) (.con (.int 0))))
  (.cons (.ret (.tup (.cons (.con (.bl false)) (.cons (.con (.bl false)) (.cons (.lst true .nil) .nil)))))
  .nil)
  .nil)
  (.cons (.ex (.meth .append (.loc 3) (.cons (.sub (.loc 2) (.con (.int 1))) .nil)))
  (.cons (.asg (.nm 4) (.bin .add (.loc 4) (.con (.int 1))))
  .nil)))
  (.cons (.iff (.or (.cmp .eq (.loc 3) (.lst true .nil)) (.cmp .ne (.loc 2) (.call 60 (.cons (.pop (.loc 3)) (.cons (.loc 1) .nil)))))
  (.cons (.ret (.tup (.cons (.con (.bl false)) (.cons (.con (.bl false)) (.cons (.lst true .nil) .nil)))))
  .nil)
  .nil)
  .nil))
  .nil))
  (.cons (.ret (.tup (.cons (.con (.bl true)) (.cons (.and (.cmp .gt (.loc 4) (.con (.int 0))) (.cmp .eq (.loc 3) (.lst true .nil))) (.cons (.loc 3) .nil)))))
  .nil))), true⟩
def f_law_event_right : Fd := ⟨2, 8, (.cons (.asg (.tp (.cons (.nm 3) (.cons (.nm 4) (.cons (.nm 5) .nil)))) (.call 38 (.cons (.loc 0) (.cons (.loc 1) .nil))))
  (.cons (.iff (.cmp .ne (.blt .reprc (.cons (.lst true (.cons (.call 62 (.cons (.loc 0) (.cons (.loc 1) .nil))) (.cons (.call 61 (.cons (.loc 0) (.cons (.loc 1) .nil))) .nil))) .nil)) (.blt .reprc (.cons (.lst true (.cons (.loc 3) (.cons (.loc 4) .nil))) .nil)))
  (.cons (.ret (.con (.bl false)))
  .nil)
  .nil)
  (.cons (.asg (.nm 2) (.ite (.and (.loc 3) (.chn .le .le (.con (.int 1)) (.blt .len (.cons (.loc 0) .nil)) (.con (.int 80)))) (.con (.str "fine")) (.con (.str "operation"))))
  (.cons (.iff (.cmp .ne (.met 37 (.call 63 (.cons (.loc 0) (.cons (.loc 1) .nil)))) (.loc 2))
  (.cons (.ret (.con (.bl false)))
  .nil)
  .nil)
  (.cons (.iff (.cmp .eq (.loc 2) (.con (.str "fine")))
  (.cons (.asg (.nm 6) (.blt .tuple (.cons (.lc true (.call 60 (.cons (.loc 7) (.cons (.loc 1) .nil))) (.nm 7) (.val (.rev true (.loc 5))) .no [7]) .nil)))
  (.cons (.iff (.or (.cmp .ne (.call 63 (.cons (.loc 0) (.cons (.loc 1) .nil))) (.bin .add (.loc 0) (.loc 6))) (.not (.call 61 (.cons (.call 63 (.cons (.loc 0) (.cons (.loc 1) .nil))) (.cons (.loc 1) .nil)))))
  (.cons (.ret (.con (.bl false)))
  .nil)
  .nil)
  .nil))
  .nil)
  (.cons (.ret (.con (.bl true)))
  .nil)))))), true⟩
def f_law_bent : Fd := ⟨3, 6, (.cons (.asg (.tp (.cons (.nm 4) (.cons (.nm 5) .nil))) (.tup (.cons (.call 13 (.cons (.loc 0) (.cons (.blt .len (.cons (.loc 1) .nil)) .nil))) (.cons (.call 13 (.cons (.loc 0) (.cons (.con (.int 5)) .nil))) .nil))))
  (.cons (.iff (.cmp .eq (.loc 5) (.con (.int 0)))
  (.cons (.ret (.bin .add (.slc (.loc 1) .no (.yes (.loc 4))) (.slc (.loc 1) (.yes (.bin .add (.loc 4) (.con (.int 1)))) .no)))
  .nil)
  .nil)
  (.cons (.iff (.cmp .eq (.loc 5) (.con (.int 1)))
  (.cons (.ret (.bin .add (.bin .add (.slc (.loc 1) .no (.yes (.loc 4))) (.slc (.loc 1) (.yes (.loc 4)) (.yes (.bin .add (.loc 4) (.con (.int 1)))))) (.slc (.loc 1) (.yes (.loc 4)) .no)))
  .nil)
  .nil)
  (.cons (.iff (.cmp .eq (.loc 5) (.con (.int 2)))
  (.cons (.ret (.bin .add (.bin .add (.bin .add (.slc (.loc 1) .no (.yes (.loc 4))) (.slc (.loc 1) (.yes (.bin .add (.loc 4) (.con (.int 1)))) (.yes (.bin .add (.loc 4) (.con (.int 2)))))) (.slc (.loc 1) (.yes (.loc 4)) (.yes (.bin .add (.loc 4) (.con (.int 1)))))) (.slc (.loc 1) (.yes (.bin .add (.loc 4) (.con (.int 2)))) .no)))
  .nil)
  .nil)
  (.cons (.asg (.nm 3) (.lst true (.cons (.tup (.cons (.con (.str "open")) (.cons (.con (.str "a")) .nil))) (.cons (.tup (.cons (.con (.str "open")) (.cons (.con (.str "zz")) .nil))) (.cons (.call 60 (.cons (.con (.str "a")) (.cons (.loc 2) .nil))) (.cons (.call 60 (.cons (.con (.str "b")) (.cons (.loc 2) .nil))) .nil))))))
  (.cons (.ret (.bin .add (.bin .add (.slc (.loc 1) .no (.yes (.loc 4))) (.tup (.cons (.call 14 (.cons (.loc 0) (.cons (.loc 3) .nil))) .nil))) (.slc (.loc 1) (.yes (.bin .add (.loc 4) (.blt .int (.cons (.cmp .eq (.loc 5) (.con (.int 3))) .nil)))) .no)))
  .nil)))))), true⟩
def f_law_right : Fd := ⟨1, 11, (.cons (.asg (.tp (.cons (.nm 6) (.cons (.nm 7) .nil))) (.tup (.cons (.call 64 (.cons (.loc 0) (.cons (.bin .add (.con (.int 1)) (.call 13 (.cons (.loc 0) (.cons (.con (.int 3)) .nil)))) .nil))) (.cons (.call 14 (.cons (.loc 0) (.cons (.lst true (.cons (.con (.str "named")) (.cons (.con (.str "bare")) (.cons (.con (.str "late")) .nil)))) .nil))) .nil))))
  (.cons (.asg (.nm 1) (.call 65 (.cons (.loc 0) (.cons (.loc 6) (.cons (.con (.int 12)) .nil)))))
  (.cons (.asg (.nm 2) (.call 66 (.cons (.loc 1) .nil)))
  (.cons (.asg (.nm 3) (.mcl 67 (.loc 2) (.cons (.loc 7) .nil)))
  (.cons (.iff (.or (.cmp .ne (.loc 3) (.blt .tuple (.cons (.call 69 (.cons (.loc 1) (.cons (.loc 7) .nil))) .nil))) (.oeq true (.cmt 58 68 (.cons (.loc 3) .nil)) (.loc 2)))
  (.cons (.ret (.con (.bl false)))
  .nil)
  .nil)
  (.cons (.for_ (.nm 4) (.rng1 (.bin .add (.blt .len (.cons (.loc 3) .nil)) (.con (.int 1))))
  (.cons (.iff (.or (.not (.call 70 (.cons (.slc (.loc 3) .no (.yes (.loc 4))) (.cons (.loc 7) .nil)))) (.cmp .isnot (.call 62 (.cons (.slc (.loc 3) .no (.yes (.loc 4))) (.cons (.loc 7) .nil))) (.con (.bl true))))
  (.cons (.ret (.con (.bl false)))
  .nil)
  .nil)
  (.cons (.iff (.cmp .ne (.call 61 (.cons (.slc (.loc 3) .no (.yes (.loc 4))) (.cons (.loc 7) .nil))) (.cmp .eq (.loc 4) (.blt .len (.cons (.loc 3) .nil))))
  (.cons (.ret (.con (.bl false)))
  .nil)
  .nil)
  .nil)))
  (.cons (.for_ (.nm 5) (.rng1 (.con (.int 6)))
  (.cons (.asg (.nm 8) (.call 71 (.cons (.loc 0) (.cons (.loc 3) (.cons (.loc 7) .nil)))))
  (.cons (.iff (.not (.call 70 (.cons (.loc 8) (.cons (.loc 7) .nil))))
  (.cons (.ret (.con (.bl false)))
  .nil)
  .nil)
  (.cons (.asg (.nm 9) (.lc true (.loc 10) (.nm 10) (.val (.tup (.cons (.con (.str "named")) (.cons (.con (.str "bare")) .nil)))) (.yes (.sub (.call 38 (.cons (.loc 8) (.cons (.loc 10) .nil))) (.con (.int 1)))) [10]))
  (.cons (.iff (.cmp .ne (.met 37 (.cmt 58 68 (.cons (.loc 8) .nil))) (.ite (.cmp .ne (.loc 9) (.lst true .nil)) (.con (.str "fine")) (.con (.str "operation"))))
  (.cons (.ret (.con (.bl false)))
  .nil)
  .nil)
  (.cons (.iff (.and (.cmp .ne (.loc 9) (.lst true .nil)) (.cmp .ne (.mcl 67 (.cmt 58 68 (.cons (.loc 8) .nil)) (.cons (.sub (.loc 9) (.con (.int 0))) .nil)) (.loc 8)))
  (.cons (.ret (.con (.bl false)))
  .nil)
  .nil)
  .nil))))))
  (.cons (.ret (.con (.bl true)))
  .nil)))))))), true⟩
def f_law : Fd := ⟨1, 8, (.cons (.for_ (.nm 1) (.rng1 (.blt .max (.cons (.con (.int 1)) (.cons (.blt .min (.cons (.con (.int 8)) (.cons (.blt .len (.cons (.loc 0) .nil)) .nil))) .nil))))
  (.cons (.asg (.nm 5) (.call 22 (.cons (.loc 0) (.cons (.loc 1) .nil))))
  (.cons (.for_ (.nm 6) (.rng1 (.con (.int 3)))
  (.cons (.iff (.not (.call 23 (.cons (.loc 5) .nil)))
  (.cons (.ret (.con (.bl false)))
  .nil)
  .nil)
  .nil))
  .nil)))
  (.cons (.asg (.nm 2) (.lst true (.cons (.tup (.cons (.tup (.cons (.con (.str "open")) (.cons (.con (.str "a")) .nil))) (.cons (.tup (.cons (.con (.str "close")) .nil)) (.cons (.tup (.cons (.con (.str "open")) (.cons (.con (.str "a")) .nil))) .nil)))) (.cons (.tup (.cons (.tup (.cons (.con (.str "open")) (.cons (.con (.str "a")) .nil))) (.cons (.tup (.cons (.con (.str "close")) .nil)) (.cons (.tup (.cons (.con (.str "close")) .nil)) .nil)))) (.cons (.tup (.cons (.tup (.cons (.con (.str "close")) .nil)) .nil)) .nil)))))
  (.cons (.asg (.nm 3) (.lc true (.lst true (.cons (.call 62 (.cons (.loc 7) (.cons (.con (.str "late")) .nil))) (.cons (.call 62 (.cons (.slc (.loc 7) .no (.yes (.neg (.con (.int 1))))) (.cons (.con (.str "late")) .nil))) .nil))) (.nm 7) (.val (.loc 2)) .no [7]))
  (.cons (.asg (.nm 4) (.tup (.cons (.tup (.cons (.con (.str "open")) (.cons (.con (.str "a")) .nil))) (.cons (.tup (.cons (.con (.str "close")) (.cons (.con (.str "b")) .nil))) .nil))))
  (.cons (.ret (.and (.cmp .eq (.loc 3) (.bin .mul (.lst false (.cons (.lst true (.cons (.con (.bl false)) (.cons (.con (.bl true)) .nil))) .nil)) (.con (.int 3)))) (.and (.not (.call 62 (.cons (.loc 4) (.cons (.con (.str "named")) .nil)))) (.call 62 (.cons (.tup .nil) (.cons (.con (.str "bare")) .nil))))))
  .nil))))), true⟩
def f_Document___init__ : Fd := ⟨2, 3, (.cons (.asg (.nm 2) (.ite (.isi (.cons (.loc 1) (.cons (.con (.gl 45)) .nil))) (.loc 1) (.call 72 (.cons (.loc 1) .nil))))
  (.cons (.fld (.loc 0) 53 (.attr (.loc 2) 53))
  (.cons (.fld (.loc 0) 73 (.blt .tuple (.cons (.call 74 (.cons (.attr (.loc 2) 53) .nil)) .nil)))
  (.cons (.fld (.loc 0) 75 (.blt .tuple (.cons (.call 76 (.cons (.attr (.loc 2) 53) .nil)) .nil)))
  .nil)))), false⟩
def f_Nodes___init__ : Fd := ⟨2, 2, (.cons (.fld (.loc 0) 53 (.loc 1))
  .nil), false⟩
def f_Tracker___init__ : Fd := ⟨2, 2, (.cons (.fld (.loc 0) 77 (.loc 1))
  (.cons (.fld (.loc 0) 54 (.lst false .nil))
  (.cons (.fld (.loc 0) 53 (.lst false .nil))
  .nil))), false⟩
def f_Tracker_take : Fd := ⟨2, 2, (.cons (.iff (.cmp .eq (.sub (.loc 1) (.con (.int 0))) (.con (.str "open")))
  (.cons (.iff (.and (.cmp .eq (.attr (.loc 0) 54) (.lst true .nil)) (.cmp .ne (.attr (.loc 0) 53) (.lst true .nil)))
  (.cons (.ret (.con (.bl false)))
  .nil)
  .nil)
  (.cons (.ex (.meth .append (.attr (.loc 0) 54) (.cons (.sub (.loc 1) (.con (.int 1))) .nil)))
  (.cons (.ex (.meth .append (.attr (.loc 0) 53) (.cons (.tup (.cons (.sub (.loc 1) (.con (.int 1))) (.cons (.blt .len (.cons (.attr (.loc 0) 54) .nil)) .nil))) .nil)))
  (.cons (.ret (.con (.bl true)))
  .nil))))
  .nil)
  (.cons (.ret (.and (.cmp .ne (.attr (.loc 0) 54) (.lst true .nil)) (.cmp .eq (.call 47 (.cons (.pop (.attr (.loc 0) 54)) (.cons (.attr (.loc 0) 77) .nil))) (.loc 1))))
  .nil)), true⟩
def f_Document_events : Fd := ⟨2, 2, (.cons (.ex (.call 55 (.cons (.loc 1) .nil)))
  (.cons (.ret (.blt .tuple (.cons (.call 78 (.cons (.attr (.loc 0) 53) (.cons (.loc 1) .nil))) .nil)))
  .nil)), true⟩
def f_Document___eq__ : Fd := ⟨2, 2, (.cons (.ret (.and (.isi (.cons (.loc 1) (.cons (.con (.gl 58)) .nil))) (.cmp .eq (.attr (.loc 0) 53) (.attr (.loc 1) 53))))
  .nil), true⟩
def f_Document_of_events : Fd := ⟨2, 4, (.cons (.for_ (.nm 2) (.val (.tup (.cons (.con (.str "named")) (.cons (.con (.str "bare")) .nil))))
  (.cons (.asg (.nm 3) (.call 56 (.cons (.loc 1) (.cons (.loc 2) .nil))))
  (.cons (.iff (.and (.cmp .isnot (.loc 3) (.con .non)) (.cmp .le (.blt .len (.cons (.loc 3) .nil)) (.con (.int 40))))
  (.cons (.ret (.mkl 0 58 59 (.cons (.loc 3) .nil)))
  .nil)
  .nil)
  .nil)))
  (.cons (.rai 31 "the events of a document with at most forty nodes are expected")
  .nil)), true⟩
def r_wall : Row := ⟨24, ("_wall", none), "_wall", "_wall", ["k"], f_wall, ["k"], top 0, false⟩
def r_is_index : Row := ⟨3, ("is_index", none), "is_index", "is_index", ["value", "total"], f_is_index, ["value", "total"], top 18, false⟩
def r_is_name : Row := ⟨1, ("is_name", none), "is_name", "is_name", ["value"], f_is_name, ["value", "letter"], top 19, false⟩
def r_is_mode : Row := ⟨42, ("is_mode", none), "is_mode", "is_mode", ["value"], f_is_mode, ["value"], top 20, false⟩
def r_require_mode : Row := ⟨55, ("require_mode", none), "require_mode", "require_mode", ["value"], f_require_mode, ["value"], top 21, false⟩
def r_is_node : Row := ⟨44, ("is_node", none), "is_node", "is_node", ["value"], f_is_node, ["value"], top 28, false⟩
def r_are_depths : Row := ⟨43, ("are_depths", none), "are_depths", "are_depths", ["depths"], f_are_depths, ["depths", "depth", "later"], top 29, false⟩
def r_checked : Row := ⟨72, ("checked", none), "checked", "checked", ["nodes"], f_checked, ["nodes", "row", "label", "depth"], top 30, false⟩
def r_ways_in : Row := ⟨74, ("ways_in", none), "ways_in", "ways_in", ["nodes"], f_ways_in, ["nodes", "found", "way", "label", "depth"], top 31, false⟩
def r_closings_in : Row := ⟨76, ("closings_in", none), "closings_in", "closings_in", ["nodes"], f_closings_in, ["nodes", "found", "left", "index", "label", "depth"], top 32, false⟩
def r_close_of : Row := ⟨47, ("close_of", none), "close_of", "close_of", ["label", "mode"], f_close_of, ["label", "mode"], top 33, false⟩
def r_events_in : Row := ⟨78, ("events_in", none), "events_in", "events_in", ["nodes", "mode"], f_events_in, ["nodes", "mode", "found", "left", "label", "depth"], top 34, false⟩
def r_is_event : Row := ⟨50, ("is_event", none), "is_event", "is_event", ["value", "mode"], f_is_event, ["value", "mode"], top 35, false⟩
def r_tracked : Row := ⟨52, ("tracked", none), "tracked", "tracked", ["value", "mode"], f_tracked, ["value", "mode", "tracker", "event"], top 37, false⟩
def r_nodes_of : Row := ⟨56, ("nodes_of", none), "nodes_of", "nodes_of", ["value", "mode"], f_nodes_of, ["value", "mode", "tracker"], top 38, false⟩
def r_is_beginning : Row := ⟨62, ("is_beginning", none), "is_beginning", "is_beginning", ["value", "mode"], f_is_beginning, ["value", "mode"], top 41, false⟩
def r_is_complete : Row := ⟨61, ("is_complete", none), "is_complete", "is_complete", ["value", "mode"], f_is_complete, ["value", "mode"], top 42, false⟩
def r_completed : Row := ⟨63, ("completed", none), "completed", "completed", ["events", "mode"], f_completed, ["events", "mode", "tracker", "label"], top 43, false⟩
def r_law_dice : Row := ⟨22, ("_law_dice", none), "_law_dice", "_law_dice", ["_law_script", "_law_at"], f_law_dice, ["_law_script", "_law_at", "_law_cell", "_law_great", "_law_left", "_law_mixed_here"], top 45, false⟩
def r_law_roll : Row := ⟨13, ("_law_roll", none), "_law_roll", "_law_roll", ["_law_dice_here", "_law_total"], f_law_roll, ["_law_dice_here", "_law_total", "_law_number", "_law_one", "_law_two", "_law_drawn"], top 46, false⟩
def r_law_one_of : Row := ⟨14, ("_law_one_of", none), "_law_one_of", "_law_one_of", ["_law_dice_here", "_law_items"], f_law_one_of, ["_law_dice_here", "_law_items"], top 47, false⟩
def r_law_mixed : Row := ⟨57, ("_law_mixed", none), "_law_mixed", "_law_mixed", ["_law_dice_here", "_law_items"], f_law_mixed, ["_law_dice_here", "_law_items", "_law_left", "_law_found"], top 48, false⟩
def r_law_labels : Row := ⟨64, ("_law_labels", none), "_law_labels", "_law_labels", ["_law_dice_here", "_law_total"], f_law_labels, ["_law_dice_here", "_law_total"], top 49, false⟩
def r_law_document : Row := ⟨65, ("_law_document", none), "_law_document", "_law_document", ["_law_dice_here", "_law_labels_here", "_law_most"], f_law_document, ["_law_dice_here", "_law_labels_here", "_law_most", "_law_found", "_law_turn", "_law_depth"], top 50, false⟩
def r_law_made_document : Row := ⟨66, ("_law_made_document", none), "_law_made_document", "_law_made_document", ["_law_nodes"], f_law_made_document, ["_law_nodes"], top 51, false⟩
def r_law_close : Row := ⟨60, ("_law_close", none), "_law_close", "_law_close", ["_law_label", "_law_mode"], f_law_close, ["_law_label", "_law_mode"], top 52, false⟩
def r_law_events : Row := ⟨69, ("_law_events", none), "_law_events", "_law_events", ["_law_nodes", "_law_mode"], f_law_events, ["_law_nodes", "_law_mode", "_law_found", "_law_left", "_law_label", "_law_depth"], top 53, false⟩
def r_law_judged : Row := ⟨38, ("_law_judged", none), "_law_judged", "_law_judged", ["_law_events_here", "_law_mode"], f_law_judged, ["_law_events_here", "_law_mode", "_law_event", "_law_left", "_law_count"], top 55, false⟩
def r_law_event_right : Row := ⟨70, ("_law_event_right", none), "_law_event_right", "_law_event_right", ["_law_events_here", "_law_mode"], f_law_event_right, ["_law_events_here", "_law_mode", "_law_due", "_law_begins", "_law_whole", "_law_left", "_law_rest", "_law_label"], top 56, false⟩
def r_law_bent : Row := ⟨71, ("_law_bent", none), "_law_bent", "_law_bent", ["_law_dice_here", "_law_events_here", "_law_mode"], f_law_bent, ["_law_dice_here", "_law_events_here", "_law_mode", "_law_some", "_law_at", "_law_way"], top 57, false⟩
def r_law_right : Row := ⟨23, ("_law_right", none), "_law_right", "_law_right", ["_law_dice_here"], f_law_right, ["_law_dice_here", "_law_nodes", "_law_document_here", "_law_events_here", "_law_size", "_law_turn", "_law_labels_here", "_law_mode", "_law_bent_here", "_law_whole", "_law_row"], top 58, false⟩
def r_law : Row := ⟨25, ("law", none), "law", "law", ["_law_script"], f_law, ["_law_script", "_law_at", "_law_some", "_law_told", "_law_ended", "_law_dice_here", "_law_turn", "_law_row"], top 59, false⟩
def r_Document___init__ : Row := ⟨59, ("Document", some "__init__"), "__init__", "Document.__init__", ["self", "nodes"], f_Document___init__, ["self", "nodes", "held"], inn 39 0, false⟩
def r_Nodes___init__ : Row := ⟨46, ("Nodes", some "__init__"), "__init__", "Nodes.__init__", ["self", "nodes"], f_Nodes___init__, ["self", "nodes"], inn 27 1, false⟩
def r_Tracker___init__ : Row := ⟨49, ("Tracker", some "__init__"), "__init__", "Tracker.__init__", ["self", "mode"], f_Tracker___init__, ["self", "mode"], inn 36 0, false⟩
def r_Tracker_take : Row := ⟨79, ("Tracker", some "take"), "take", "Tracker.take", ["self", "event"], f_Tracker_take, ["self", "event"], inn 36 1, false⟩
def r_Document_events : Row := ⟨80, ("Document", some "events"), "events", "Document.events", ["self", "mode"], f_Document_events, ["self", "mode"], inn 39 6, false⟩
def r_Document___eq__ : Row := ⟨81, ("Document", some "__eq__"), "__eq__", "Document.__eq__", ["self", "value"], f_Document___eq__, ["self", "value"], inn 39 14, false⟩
def r_Document_of_events : Row := ⟨82, ("Document", some "of_events"), "of_events", "Document.of_events", ["cls", "events"], f_Document_of_events, ["cls", "events", "mode", "nodes"], inn 39 9, true⟩
def rows : List Row := ([r_wall, r_is_index, r_is_name, r_is_mode, r_require_mode, r_is_node, r_are_depths, r_checked, r_ways_in, r_closings_in, r_close_of, r_events_in, r_is_event, r_tracked, r_nodes_of, r_is_beginning, r_is_complete, r_completed, r_law_dice, r_law_roll] : List Row) ++ ([r_law_one_of, r_law_mixed, r_law_labels, r_law_document, r_law_made_document, r_law_close, r_law_events, r_law_judged, r_law_event_right, r_law_bent, r_law_right, r_law, r_Document___init__, r_Nodes___init__, r_Tracker___init__, r_Tracker_take, r_Document_events, r_Document___eq__, r_Document_of_events] : List Row)
def crs : List CRow := [⟨58, "Document", some 59, false, [], [75, 53, 73]⟩, ⟨45, "Nodes", some 46, true, [(53, 0)], []⟩, ⟨48, "Tracker", some 49, false, [], [54, 77, 53]⟩]
def nms : List (Nat × Str) := ([(58, "Document"), (81, "Document.__eq__"), (59, "Document.__init__"), (80, "Document.events"), (82, "Document.of_events"), (39, "InvalidDocument"), (31, "InvalidOperation"), (40, "InvalidQuestion"), (41, "InvalidReader"), (45, "Nodes"), (46, "Nodes.__init__"), (48, "Tracker"), (49, "Tracker.__init__"), (79, "Tracker.take"), (83, "__eq__"), (71, "_law_bent"), (60, "_law_close"), (22, "_law_dice"), (65, "_law_document"), (70, "_law_event_right")] : List (Nat × Str)) ++ ([(69, "_law_events"), (38, "_law_judged"), (64, "_law_labels"), (66, "_law_made_document"), (37, "_law_met"), (57, "_law_mixed"), (14, "_law_one_of"), (23, "_law_right"), (13, "_law_roll"), (24, "_wall"), (43, "are_depths"), (72, "checked"), (47, "close_of"), (76, "closings_in"), (63, "completed"), (67, "events"), (78, "events_in"), (62, "is_beginning"), (61, "is_complete"), (50, "is_event")] : List (Nat × Str)) ++ ([(3, "is_index"), (42, "is_mode"), (1, "is_name"), (44, "is_node"), (25, "law"), (56, "nodes_of"), (68, "of_events"), (75, "own_closings"), (54, "own_labels"), (77, "own_mode"), (53, "own_nodes"), (73, "own_ways"), (55, "require_mode"), (51, "take"), (52, "tracked"), (74, "ways_in")] : List (Nat × Str))
def cst : List (Str × PV) := [("BARE", (.str "bare")), ("CLOSE", (.str "close")), ("MAX_EVENTS", (.int 80)), ("MAX_LETTERS", (.int 8)), ("MAX_NODES", (.int 40)), ("MODES", (.tup [(.str "bare"), (.str "late"), (.str "named")])), ("NAMED", (.str "named")), ("OPEN", (.str "open"))]
def blts : List Str := ["abs", "all", "bool", "enumerate", "int", "isinstance", "len", "list", "max", "min", "range", "repr", "sorted", "str", "tuple", "zip"]
def m_law_met : MRow := ⟨37, "_law_call", ["_law_call", "e"], top 54, [(39, "document"), (40, "question"), (41, "reader"), (31, "operation")], "fine"⟩
def tx : Tx := ⟨nms, rows, crs, cst, blts, [(39, true), (31, true), (40, false), (41, false)], [(39, 39, true), (39, 31, false), (39, 40, false), (39, 41, false), (31, 39, false), (31, 31, true), (31, 40, false), (31, 41, false)], [m_law_met], [70, 23, 25], [70, 23], [(48, 51, 79), (58, 67, 80)], [(58, 81)], [(58, 68, 82)], [(58, 58, true), (58, 45, false), (58, 48, false), (45, 58, false), (45, 45, true), (45, 48, false), (48, 58, false), (48, 45, false), (48, 48, true)]⟩
theorem rows_ok : tx.rows.all (rowB (sgOf tx) tx.crs) = true := by decide +kernel
theorem crs_ok : tx.crs.all (crB (sgOf tx)) = true := by decide +kernel
theorem exb_ok : exB tx = true := by decide +kernel
theorem mts_ok : mtB tx = true := by decide +kernel
theorem mths_ok : mthB tx = true := by decide +kernel
theorem bm_law_met : BindMk tx m_law_met := fun _ _ _ _ _ _ us hl => match us, hl with | [_], _ => rfl
theorem bindm_ok : BindsM tx tx.mets := ⟨bm_law_met, trivial⟩
theorem b_wall : BindOk r_wall := fun _ _ _ _ _ _ us hl => match us, hl with | [_], _ => rfl
theorem b_is_index : BindOk r_is_index := fun _ _ _ _ _ _ us hl => match us, hl with | [_, _], _ => rfl
theorem b_is_name : BindOk r_is_name := fun _ _ _ _ _ _ us hl => match us, hl with | [_], _ => rfl
theorem b_is_mode : BindOk r_is_mode := fun _ _ _ _ _ _ us hl => match us, hl with | [_], _ => rfl
theorem b_require_mode : BindOk r_require_mode := fun _ _ _ _ _ _ us hl => match us, hl with | [_], _ => rfl
theorem b_is_node : BindOk r_is_node := fun _ _ _ _ _ _ us hl => match us, hl with | [_], _ => rfl
theorem b_are_depths : BindOk r_are_depths := fun _ _ _ _ _ _ us hl => match us, hl with | [_], _ => rfl
theorem b_checked : BindOk r_checked := fun _ _ _ _ _ _ us hl => match us, hl with | [_], _ => rfl
theorem b_ways_in : BindOk r_ways_in := fun _ _ _ _ _ _ us hl => match us, hl with | [_], _ => rfl
theorem b_closings_in : BindOk r_closings_in := fun _ _ _ _ _ _ us hl => match us, hl with | [_], _ => rfl
theorem b_close_of : BindOk r_close_of := fun _ _ _ _ _ _ us hl => match us, hl with | [_, _], _ => rfl
theorem b_events_in : BindOk r_events_in := fun _ _ _ _ _ _ us hl => match us, hl with | [_, _], _ => rfl
theorem b_is_event : BindOk r_is_event := fun _ _ _ _ _ _ us hl => match us, hl with | [_, _], _ => rfl
theorem b_tracked : BindOk r_tracked := fun _ _ _ _ _ _ us hl => match us, hl with | [_, _], _ => rfl
theorem b_nodes_of : BindOk r_nodes_of := fun _ _ _ _ _ _ us hl => match us, hl with | [_, _], _ => rfl
theorem b_is_beginning : BindOk r_is_beginning := fun _ _ _ _ _ _ us hl => match us, hl with | [_, _], _ => rfl
theorem b_is_complete : BindOk r_is_complete := fun _ _ _ _ _ _ us hl => match us, hl with | [_, _], _ => rfl
theorem b_completed : BindOk r_completed := fun _ _ _ _ _ _ us hl => match us, hl with | [_, _], _ => rfl
theorem b_law_dice : BindOk r_law_dice := fun _ _ _ _ _ _ us hl => match us, hl with | [_, _], _ => rfl
theorem b_law_roll : BindOk r_law_roll := fun _ _ _ _ _ _ us hl => match us, hl with | [_, _], _ => rfl
theorem b_law_one_of : BindOk r_law_one_of := fun _ _ _ _ _ _ us hl => match us, hl with | [_, _], _ => rfl
theorem b_law_mixed : BindOk r_law_mixed := fun _ _ _ _ _ _ us hl => match us, hl with | [_, _], _ => rfl
theorem b_law_labels : BindOk r_law_labels := fun _ _ _ _ _ _ us hl => match us, hl with | [_, _], _ => rfl
theorem b_law_document : BindOk r_law_document := fun _ _ _ _ _ _ us hl => match us, hl with | [_, _, _], _ => rfl
theorem b_law_made_document : BindOk r_law_made_document := fun _ _ _ _ _ _ us hl => match us, hl with | [_], _ => rfl
theorem b_law_close : BindOk r_law_close := fun _ _ _ _ _ _ us hl => match us, hl with | [_, _], _ => rfl
theorem b_law_events : BindOk r_law_events := fun _ _ _ _ _ _ us hl => match us, hl with | [_, _], _ => rfl
theorem b_law_judged : BindOk r_law_judged := fun _ _ _ _ _ _ us hl => match us, hl with | [_, _], _ => rfl
theorem b_law_event_right : BindOk r_law_event_right := fun _ _ _ _ _ _ us hl => match us, hl with | [_, _], _ => rfl
theorem b_law_bent : BindOk r_law_bent := fun _ _ _ _ _ _ us hl => match us, hl with | [_, _, _], _ => rfl
theorem b_law_right : BindOk r_law_right := fun _ _ _ _ _ _ us hl => match us, hl with | [_], _ => rfl
theorem b_law : BindOk r_law := fun _ _ _ _ _ _ us hl => match us, hl with | [_], _ => rfl
theorem b_Document___init__ : BindOk r_Document___init__ := fun _ _ _ _ _ _ us hl => match us, hl with | [_, _], _ => rfl
theorem b_Nodes___init__ : BindOk r_Nodes___init__ := fun _ _ _ _ _ _ us hl => match us, hl with | [_, _], _ => rfl
theorem b_Tracker___init__ : BindOk r_Tracker___init__ := fun _ _ _ _ _ _ us hl => match us, hl with | [_, _], _ => rfl
theorem b_Tracker_take : BindOk r_Tracker_take := fun _ _ _ _ _ _ us hl => match us, hl with | [_, _], _ => rfl
theorem b_Document_events : BindOk r_Document_events := fun _ _ _ _ _ _ us hl => match us, hl with | [_, _], _ => rfl
theorem b_Document___eq__ : BindOk r_Document___eq__ := fun _ _ _ _ _ _ us hl => match us, hl with | [_, _], _ => rfl
theorem b_Document_of_events : BindOk r_Document_of_events := fun _ _ _ _ _ _ us hl => match us, hl with | [_, _], _ => rfl
theorem binds_ok : BindsAll tx.rows := ⟨b_wall, b_is_index, b_is_name, b_is_mode, b_require_mode, b_is_node, b_are_depths, b_checked, b_ways_in, b_closings_in, b_close_of, b_events_in, b_is_event, b_tracked, b_nodes_of, b_is_beginning, b_is_complete, b_completed, b_law_dice, b_law_roll, b_law_one_of, b_law_mixed, b_law_labels, b_law_document, b_law_made_document, b_law_close, b_law_events, b_law_judged, b_law_event_right, b_law_bent, b_law_right, b_law, b_Document___init__, b_Nodes___init__, b_Tracker___init__, b_Tracker_take, b_Document_events, b_Document___eq__, b_Document_of_events, trivial⟩
abbrev R : PySem.W.OpenRow := PySem.W.OpenLaw.row PySem.Challenge.rw_depthmarks_k04_whole_events_and_back
def names : List Str := (["_wall", "__name__", "AskError", "InvalidDocument", "InvalidQuestion", "InvalidReader", "InvalidOperation", "ParseError", "UnknownName", "InvalidNumber", "TooMany", "NothingToUndo", "Refused", "MAX_LETTERS", "MODES", "BARE", "NAMED", "is_index", "is_name", "is_mode"] : List Str) ++ (["require_mode", "MAX_NODES", "MAX_EVENTS", "OPEN", "CLOSE", "Nodes", "is_node", "are_depths", "checked", "ways_in", "closings_in", "close_of", "events_in", "is_event", "Tracker", "tracked", "nodes_of", "Document", "require_node", "is_beginning"] : List Str) ++ (["is_complete", "completed", "_law_dice", "_law_roll", "_law_one_of", "_law_mixed", "_law_labels", "_law_document", "_law_made_document", "_law_close", "_law_events", "_law_met", "_law_judged", "_law_event_right", "_law_bent", "_law_right"] : List Str)
abbrev hk : PySem.W.Hook := hookZ 5 tx
def ob (s : PySem.W.SharedT) : HeZ.AlY := HeZ.obsY 5 (faOf tx) (fnOfR tx) (tfOf tx) (exOf tx) (fwOf tx) (HandSHeadRun.getT s)
theorem ob_eq (s : PySem.W.SharedT) : ob s = hk.obs s.abs := HeZ.obsY_eq (HandSHeadRun.getT_eq s)
theorem run (w : World) : HandSHeadRun.RunEq R (PySem.W.view R.prog [59]) hk ob 12000 names w := by
  intro os
  kernel_rfl
end Law
end Zed
end
section
set_option Elab.async false
set_option linter.all false
set_option maxRecDepth 100000
set_option maxHeartbeats 1000000
namespace Zed
namespace Law
open PySem L2
abbrev TB : Nat → Option Fd := tabOf (sgOf tx)
abbrev CT : Ct := ctOf tx
abbrev cl (n : Nat) := callN CT TB n
theorem t_roll : TB 13 = some f_law_roll := rfl
theorem t_one_of : TB 14 = some f_law_one_of := rfl
/-- the dice at place i: three numbers, the last one at most B -/
def Dc (h : PHeap) (i : Nat) (B : Int) : Prop := ∃ a b c : Int, h[i]? = some (.lst [.int a, .int b, .int c]) ∧ 0 ≤ a ∧ 0 ≤ c ∧ c ≤ B
/-- the dice were rolled, all else is as it was -/
def Dr (i : Nat) (B : Int) (h h' : PHeap) : Prop := i < h.length ∧ ∃ a b c : Int, h' = h.set i (.lst [.int a, .int b, .int c]) ∧ 0 ≤ a ∧ 0 ≤ c ∧ c ≤ B
theorem Dr.dc {i : Nat} {B : Int} {h h' : PHeap} (d : Dr i B h h') : Dc h' i B := by
  obtain ⟨hi, a, b, c, rfl, r⟩ := d
  exact ⟨a, b, c, List.getElem?_set_self hi, r⟩
theorem Dr.trans {i : Nat} {B B' : Int} {h h1 h2 : PHeap} (d : Dr i B h h1) (e : Dr i B' h1 h2) : Dr i B' h h2 := by
  obtain ⟨hi, a, b, c, rfl, r⟩ := d
  obtain ⟨_, a', b', c', rfl, r'⟩ := e
  exact ⟨hi, a', b', c', List.set_set .., r'⟩
theorem Dr.up {i : Nat} {B B' : Int} {h h' : PHeap} (d : Dr i B h h') (k : B ≤ B') : Dr i B' h h' := by
  obtain ⟨hi, a, b, c, e, r1, r2, r3⟩ := d
  exact ⟨hi, a, b, c, e, r1, r2, by omega⟩
theorem Dc.up {i : Nat} {B B' : Int} {h : PHeap} (d : Dc h i B) (k : B ≤ B') : Dc h i B' := by
  obtain ⟨a, b, c, e, r1, r2, r3⟩ := d
  exact ⟨a, b, c, e, r1, r2, by omega⟩
theorem Dc.lt {i : Nat} {B : Int} {h : PHeap} (d : Dc h i B) : i < h.length := by
  obtain ⟨a, b, c, e, _⟩ := d
  exact lt_of_get e
theorem Dr.len {i : Nat} {B : Int} {h h' : PHeap} (d : Dr i B h h') : h'.length = h.length := by
  obtain ⟨hi, a, b, c, rfl, _⟩ := d
  exact List.length_set
theorem Dr.refl {i : Nat} {B : Int} {h : PHeap} (d : Dc h i B) : Dr i B h h := by
  obtain ⟨a, b, c, e, r⟩ := d
  refine ⟨lt_of_get e, a, b, c, ?_, r⟩
  apply List.ext_getElem?
  intro j
  by_cases z : i = j
  · subst z; rw [List.getElem?_set_self (lt_of_get e)]; exact e
  · rw [List.getElem?_set_ne z]
theorem Dr.get {i j : Nat} {B : Int} {h h' : PHeap} (d : Dr i B h h') (n : j ≠ i) : h'[j]? = h[j]? := by
  obtain ⟨hi, a, b, c, rfl, _⟩ := d
  exact List.getElem?_set_ne (Ne.symm n)
/-- with new objects behind -/
theorem Dr.app {i : Nat} {B : Int} {h h' g : PHeap} (d : Dr i B (h ++ g) h') (hi : i < h.length) : ∃ h1, Dr i B h h1 ∧ h' = h1 ++ g := by
  obtain ⟨_, a, b, c, rfl, r⟩ := d
  exact ⟨_, ⟨hi, a, b, c, rfl, r⟩, List.set_append_left _ _ hi⟩
theorem Dc.app {i : Nat} {B : Int} {h g : PHeap} (d : Dc h i B) : Dc (h ++ g) i B := by
  obtain ⟨a, b, c, e, r⟩ := d
  exact ⟨a, b, c, by rw [List.getElem?_append_left (lt_of_get e)]; exact e, r⟩
theorem sl_dr {i : Nat} {B : Int} {h h1 g : PHeap} {d : PV} {Q : PV → PHeap → Prop} (e : Dr i B h h1) (z : clV 0 d = true) (q : Q d h1) : Seal h d (h1 ++ g) Q := by
  obtain ⟨hi, a, b, c, rfl, _⟩ := e
  exact sl_set z rfl q
theorem sl_dr0 {i : Nat} {B : Int} {h h1 : PHeap} {d : PV} {Q : PV → PHeap → Prop} (e : Dr i B h h1) (z : clV 0 d = true) (q : Q d h1) : Seal h d h1 Q := by
  obtain ⟨hi, a, b, c, rfl, _⟩ := e
  exact sl_set0 z rfl q
theorem ok_roll {n i : Nat} {t B : Int} {h : PHeap} (d : Dc h i B) (ht : 0 < t) (hb : B < 2 ^ 100) (ht2 : t < 2 ^ 100) :
    Ok (cl (n + 1) 13 [.ref i, .int t] h) fun d h' => ∃ r : Int, d = .int r ∧ 0 ≤ r ∧ r < t ∧ Dr i (B + 1) h h' := by
  obtain ⟨a, b, c, e, ha, hc, hB⟩ := d
  have hi := lt_of_get e
  refine (f_call t_roll rfl rfl).mpr ?_
  (unfold f_law_roll; dsimp only [List.map, List.append, HAppend.hAppend, Append.append, List.replicate, Nat.reduceSub])
  walk_at "zz"
  refine ⟨fun k => ?_, fun k => ?_⟩
  · have k := of_decide_eq_true k
    walk_at "zz"
    refine okP_mod ht ?_
    walk_at "zz"
    refine okP_fdiv ht (by omega) ?_
    walk_at "zz"
    exact sl_set0 rfl rfl ⟨_, rfl, Int.emod_nonneg _ (by omega), Int.emod_lt_of_pos _ ht, hi, _, _, _, rfl, Int.ediv_nonneg ha (by omega), hc, by omega⟩
  · walk_at "zz"
    have e2 := get_self (o' := .lst [.int a, .int b, .int (c + 1)]) e
    walk_at "zz"
    refine okP_mul (by omega) (by omega) ?_
    walk_at "zz"
    generalize hx : (b + 1000117 * (c + 1)) % 2305843009213693951 = x
    have x1 : 0 ≤ x := by omega
    have x2 : x < 2305843009213693951 := by omega
    refine okP_mul (by omega) (by omega) ?_
    walk_at "zz"
    refine okP_mul (by omega) (by omega) ?_
    walk_at "zz"
    refine okP_mul (by omega) (by omega) ?_
    walk_at "zz"
    refine okP_mod ht ?_
    walk_at "zz"
    exact sl_set0 rfl rfl ⟨_, rfl, Int.emod_nonneg _ (by omega), Int.emod_lt_of_pos _ ht, hi, a, b, c + 1, rfl, ha, by omega, by omega⟩
theorem okO_getF {h : PHeap} {k : Int} {ds : List PV} {d : PV} {Q : PV → Prop} (g : atI ds k = some d) (q : Q d) : OkO (getF (.fl ds) (.int k) h) Q := okO_of g q
theorem ok_one_of {n i : Nat} {B : Int} {h : PHeap} {ds : List PV} (d : Dc h i B) (h0 : ds ≠ []) (hz : ds.length < 1000) (hb : B < 2 ^ 100) (hc : clVs 0 ds = true) :
    Ok (cl (n + 2) 14 [.ref i, .fl ds] h) fun d h' => d ∈ ds ∧ Dr i (B + 1) h h' := by
  refine (f_call t_one_of rfl rfl).mpr ?_
  (unfold f_law_one_of; dsimp only [List.map, List.append, HAppend.hAppend, Append.append, List.replicate, Nat.reduceSub])
  walk_at "zz"
  have hp : 0 < ds.length := List.length_pos_iff.mpr h0
  refine (ok_roll d (by omega) hb (by omega)).mono fun x h' ⟨r, er, r0, r1, f⟩ => ?_
  subst er
  obtain ⟨y, y1, y2, _⟩ := atI_mem r0 r1
  have cy : clV 0 y = true := by
    clear y1
    induction ds with
    | nil => cases y2
    | cons z zs ih =>
      simp only [clVs, Bool.and_eq_true] at hc
      rcases List.mem_cons.mp y2 with e | e
      · rw [e]; exact hc.1
      · by_cases zz0 : zs = []
        · subst zz0; cases e
        · have key : ∀ l : List PV, clVs 0 l = true → y ∈ l → clV 0 y = true := fun l => by
            induction l with
            | nil => intro _ h; cases h
            | cons p l ih => intro h1 h2; simp only [clVs, Bool.and_eq_true] at h1; rcases List.mem_cons.mp h2 with q | q; rw [q]; exact h1.1; exact ih h1.2 q
          exact key zs hc.2 e
  exact okO_getF y1 (sl_dr0 f cy ⟨y2, f⟩)
end Law
end Zed
end
section
set_option Elab.async false
set_option linter.all false
/-! M04: events of a tree of nodes, and back: the plain law of k04. -/
namespace Zed
namespace Law
open PySem L2
inductive Ev where
  | op (s : Str)
  | cl (s : Str)
  | c0
  deriving DecidableEq
abbrev Nd := Str × Nat
/-- the event that closes a label; m: the named mode -/
def cof (m : Bool) (s : Str) : Ev := if m then .cl s else .c0
theorem cof_ne {m : Bool} {s t : Str} : cof m s ≠ .op t := by unfold cof; cases m <;> intro h <;> cases h
abbrev Stt := List Str × List Nd
def stp (m : Bool) (st : Stt) : Ev → Option Stt
  | .op s => if st.1 = [] ∧ st.2 ≠ [] then none else some (st.1 ++ [s], st.2 ++ [(s, st.1.length + 1)])
  | e => match st.1.getLast? with
    | none => none
    | some s => if cof m s = e then some (st.1.dropLast, st.2) else none
def runE (m : Bool) : List Ev → Stt → Option Stt
  | [], st => some st
  | e :: r, st => (stp m st e).bind (runE m r)
theorem run_app {m : Bool} : ∀ {a b : List Ev} {st : Stt}, runE m (a ++ b) st = (runE m a st).bind (runE m b)
  | [], b, st => rfl
  | e :: a, b, st => by
    show (stp m st e).bind (runE m (a ++ b)) = ((stp m st e).bind (runE m a)).bind (runE m b)
    cases stp m st e with
    | none => rfl
    | some st1 => exact run_app
theorem stp_op {m : Bool} {l : List Str} {ns : List Nd} {s : Str} : stp m (l, ns) (.op s) = if l = [] ∧ ns ≠ [] then none else some (l ++ [s], ns ++ [(s, l.length + 1)]) := rfl
theorem stp_close {m : Bool} {l : List Str} {s : Str} {ns : List Nd} {e : Ev} (ne : ∀ t, e ≠ .op t) : stp m (l ++ [s], ns) e = if cof m s = e then some (l, ns) else none := by
  cases e with
  | op t => exact absurd rfl (ne t)
  | _ => unfold stp; simp
theorem stp_nil {m : Bool} {ns : List Nd} {e : Ev} (ne : ∀ t, e ≠ .op t) : stp m ([], ns) e = none := by
  cases e with
  | op t => exact absurd rfl (ne t)
  | _ => rfl
theorem stp_done {m : Bool} {ns : List Nd} {e : Ev} (h : ns ≠ []) : stp m ([], ns) e = none := by
  cases e with
  | op t => unfold stp; simp [h]
  | _ => rfl
theorem run_done {m : Bool} {ns : List Nd} (h : ns ≠ []) : ∀ {b : List Ev}, b ≠ [] → runE m b ([], ns) = none
  | [], z => absurd rfl z
  | e :: r, _ => by show (stp m ([], ns) e).bind _ = none; rw [stp_done h]; rfl
theorem snoc_ind {α : Type} {P : List α → Prop} (h0 : P []) (h1 : ∀ l x, P l → P (l ++ [x])) : ∀ l, P l := by
  intro l
  have key : ∀ k : List α, P k.reverse := fun k => by
    induction k with
    | nil => exact h0
    | cons x k ih => rw [List.reverse_cons]; exact h1 _ _ ih
  have := key l.reverse
  rwa [List.reverse_reverse] at this
theorem run_closes {m : Bool} {ns : List Nd} : ∀ (k l : List Str), runE m (k.reverse.map (cof m)) (l ++ k, ns) = some (l, ns) := by
  intro k
  refine snoc_ind (P := fun k => ∀ l, runE m (k.reverse.map (cof m)) (l ++ k, ns) = some (l, ns)) (fun l => by simp [runE]) (fun k s ih l => ?_) k
  rw [List.reverse_append]
  show (stp m (l ++ (k ++ [s]), ns) (cof m s)).bind (runE m (k.reverse.map (cof m))) = _
  rw [← List.append_assoc, stp_close fun t => cof_ne, if_pos rfl]
  exact ih l
/-- the open events of nodes with the closes between them, and what is left open -/
def evo (m : Bool) : List Nd → List Ev × List Str → List Ev × List Str
  | [], st => st
  | (s, d) :: r, st => evo m r (st.1 ++ (st.2.drop (d - 1)).reverse.map (cof m) ++ [.op s], st.2.take (d - 1) ++ [s])
def evs (m : Bool) (ns : List Nd) : List Ev := (evo m ns ([], [])).1 ++ (evo m ns ([], [])).2.reverse.map (cof m)
theorem evo_app {m : Bool} : ∀ {a b : List Nd} {st : List Ev × List Str}, evo m (a ++ b) st = evo m b (evo m a st)
  | [], b, st => rfl
  | (s, d) :: a, b, st => evo_app (a := a)
def Chain : Nat → List Nd → Prop
  | _, [] => True
  | p, (s, d) :: r => 2 ≤ d ∧ d ≤ p + 1 ∧ Chain d r
def lastD : Nat → List Nd → Nat
  | p, [] => p
  | _, (_, d) :: r => lastD d r
def Tree : List Nd → Prop
  | [] => False
  | (_, d) :: r => d = 1 ∧ Chain 1 r
theorem chain_snoc {s : Str} {d : Nat} : ∀ {p : Nat} {r : List Nd}, Chain p r → 2 ≤ d → d ≤ lastD p r + 1 → Chain p (r ++ [(s, d)])
  | p, [], _, h1, h2 => ⟨h1, h2, trivial⟩
  | p, (t, e) :: r, ⟨a, b, c⟩, h1, h2 => ⟨a, b, chain_snoc c h1 h2⟩
theorem lastD_snoc {s : Str} {d : Nat} : ∀ {p : Nat} {r : List Nd}, lastD p (r ++ [(s, d)]) = d
  | p, [] => rfl
  | p, (t, e) :: r => lastD_snoc (r := r)
theorem evo_len {m : Bool} : ∀ {ns : List Nd} {st : List Ev × List Str}, (evo m ns st).1.length + (evo m ns st).2.length = st.1.length + st.2.length + 2 * ns.length
  | [], st => by show _ = _ + 2 * 0; rfl
  | (s, d) :: r, st => by
    show (evo m r _).1.length + (evo m r _).2.length = _
    rw [evo_len]
    simp only [List.length_append, List.length_map, List.length_reverse, List.length_drop, List.length_take, List.length_cons, List.length_nil]
    omega
theorem evs_len {m : Bool} {ns : List Nd} : (evs m ns).length = 2 * ns.length := by
  unfold evs
  rw [List.length_append, List.length_map, List.length_reverse, evo_len]; simp
theorem evo_run {m : Bool} : ∀ {r : List Nd} {p : Nat} {f : List Ev} {l : List Str} {ns : List Nd}, Chain p r → l.length = p → runE m f ([], []) = some (l, ns) →
    runE m (evo m r (f, l)).1 ([], []) = some ((evo m r (f, l)).2, ns ++ r) ∧ (evo m r (f, l)).2.length = lastD p r
  | [], p, f, l, ns, _, hl, h => ⟨by rw [List.append_nil]; exact h, hl⟩
  | (s, d) :: r, p, f, l, ns, ⟨c1, c2, c3⟩, hl, h => by
    have e : runE m (f ++ (l.drop (d - 1)).reverse.map (cof m) ++ [.op s]) ([], []) = some (l.take (d - 1) ++ [s], ns ++ [(s, d)]) := by
      rw [List.append_assoc, run_app, h]
      show runE m ((l.drop (d - 1)).reverse.map (cof m) ++ [.op s]) (l, ns) = _
      have k := run_closes (m := m) (ns := ns) (l.drop (d - 1)) (l.take (d - 1))
      rw [List.take_append_drop] at k
      rw [run_app, k]
      show (stp m (l.take (d - 1), ns) (.op s)).bind (runE m []) = _
      have q : (l.take (d - 1)).length = d - 1 := by rw [List.length_take]; omega
      have q2 : l.take (d - 1) ≠ [] := fun z => by rw [z] at q; simp at q; omega
      rw [stp_op, if_neg (fun z => q2 z.1)]
      show some (l.take (d - 1) ++ [s], ns ++ [(s, (l.take (d - 1)).length + 1)]) = _
      rw [q, Nat.sub_add_cancel (by omega)]
    have ql : (l.take (d - 1) ++ [s]).length = d := by rw [List.length_append, List.length_take]; simp; omega
    have := evo_run (m := m) (r := r) c3 ql e
    rw [List.append_assoc ns] at this
    exact this
/-- the way there and back -/
theorem run_evs {m : Bool} : ∀ {ns : List Nd}, Tree ns → runE m (evs m ns) ([], []) = some ([], ns)
  | [], h => h.elim
  | (s, d) :: r, ⟨h1, h2⟩ => by
    subst h1
    have k := evo_run (m := m) (r := r) (p := 1) (f := [.op s]) (l := [s]) (ns := [(s, 1)]) h2 rfl (by rfl)
    unfold evs
    have e : evo m ((s, 1) :: r) ([], []) = evo m r ([.op s], [s]) := rfl
    rw [e, run_app, k.1]
    show runE m ((evo m r ([.op s], [s])).2.reverse.map (cof m)) ((evo m r ([.op s], [s])).2, [(s, 1)] ++ r) = _
    have := run_closes (m := m) (ns := [(s, 1)] ++ r) (evo m r ([.op s], [s])).2 []
    rw [List.nil_append] at this
    exact this
/-- what a runE has seen -/
structure Seen (m : Bool) (ev : List Ev) (l : List Str) (ns : List Nd) : Prop where
  le : l.length ≤ (evo m ns ([], [])).2.length
  tk : l = (evo m ns ([], [])).2.take l.length
  evq : ev = (evo m ns ([], [])).1 ++ ((evo m ns ([], [])).2.drop l.length).reverse.map (cof m)
  tr : ns = [] ∨ Tree ns
  la : ∀ s d r, ns = (s, d) :: r → (evo m ns ([], [])).2.length = lastD d r
  ne : ev ≠ [] → ns ≠ []
  l0 : l ≠ [] → ns ≠ []
  ct : ns.length ≤ ev.length
  lb : ∀ L : List Str, (∀ s, Ev.op s ∈ ev → s ∈ L) → (∀ p ∈ ns, p.1 ∈ L) ∧ ∀ s ∈ l, s ∈ L
theorem seen {m : Bool} : ∀ (ev : List Ev) {l : List Str} {ns : List Nd}, runE m ev ([], []) = some (l, ns) → Seen m ev l ns := by
  intro ev
  refine snoc_ind (P := fun ev => ∀ {l : List Str} {ns : List Nd}, runE m ev ([], []) = some (l, ns) → Seen m ev l ns) (fun {l ns} h => ?_) (fun ev e ih l ns h => ?_) ev
  · cases h
    exact ⟨Nat.le_refl _, rfl, rfl, .inl rfl, (fun _ _ _ z => nomatch z), (fun z => absurd rfl z), (fun z => absurd rfl z), Nat.le_refl _, fun _ _ => ⟨(fun _ z => nomatch z), (fun _ z => nomatch z)⟩⟩
  · rw [run_app] at h
    cases h0 : runE m ev ([], []) with
    | none => rw [h0] at h; cases h
    | some st =>
      obtain ⟨l0, n0⟩ := st
      rw [h0] at h
      have k := ih h0
      have h : (stp m (l0, n0) e).bind (runE m []) = some (l, ns) := h
      rcases Classical.em (∃ s, e = .op s) with ⟨s, rfl⟩ | ne
      · rw [stp_op] at h
        split at h
        · cases h
        · rename_i nn
          cases h
          have nn : l0 = [] → n0 = [] := fun z => by
            by_cases y : n0 = []
            · exact y
            · exact absurd ⟨z, y⟩ nn
          have e1 : evo m (n0 ++ [(s, l0.length + 1)]) ([], []) = ((evo m n0 ([], [])).1 ++ ((evo m n0 ([], [])).2.drop l0.length).reverse.map (cof m) ++ [.op s], (evo m n0 ([], [])).2.take l0.length ++ [s]) := by
            rw [evo_app]; rfl
          rw [← k.evq, ← k.tk] at e1
          refine ⟨?_, ?_, ?_, ?_, ?_, ?_, ?_, ?_, ?_⟩
          · show (l0 ++ [s]).length ≤ (evo m (n0 ++ [(s, l0.length + 1)]) ([], [])).2.length
            rw [e1]; exact Nat.le_refl _
          · show l0 ++ [s] = (evo m (n0 ++ [(s, l0.length + 1)]) ([], [])).2.take (l0 ++ [s]).length
            rw [e1]; exact (List.take_length).symm
          · show ev ++ [.op s] = (evo m (n0 ++ [(s, l0.length + 1)]) ([], [])).1 ++ ((evo m (n0 ++ [(s, l0.length + 1)]) ([], [])).2.drop (l0 ++ [s]).length).reverse.map (cof m)
            rw [e1]
            show ev ++ [.op s] = (ev ++ [.op s]) ++ ((l0 ++ [s]).drop (l0 ++ [s]).length).reverse.map (cof m)
            rw [List.drop_length]; simp
          · right
            show Tree (n0 ++ [(s, l0.length + 1)])
            cases n0 with
            | nil =>
              have : l0 = [] := by
                have := k.le
                exact List.eq_nil_of_length_eq_zero (Nat.le_zero.mp this)
              subst this
              exact ⟨rfl, trivial⟩
            | cons p r =>
              obtain ⟨t, d⟩ := p
              rcases k.tr with z | z
              · cases z
              · obtain ⟨rfl, z⟩ := z
                refine ⟨rfl, chain_snoc z ?_ ?_⟩
                · have : l0 ≠ [] := fun y => by cases nn y
                  have := List.length_pos_iff.mpr this
                  omega
                · have := k.la _ _ _ rfl
                  have := k.le
                  omega
          · intro t d r z
            have z : n0 ++ [(s, l0.length + 1)] = (t, d) :: r := z
            show (evo m (n0 ++ [(s, l0.length + 1)]) ([], [])).2.length = _
            rw [e1]
            show (l0 ++ [s]).length = _
            rw [List.length_append]
            cases n0 with
            | nil => cases z; rfl
            | cons p r0 =>
              cases z
              show _ = lastD d (r0 ++ [(s, l0.length + 1)])
              rw [lastD_snoc]; rfl
          · intro _ z
            have z : n0 ++ [(s, l0.length + 1)] = [] := z
            simp at z
          · intro _ z
            have z : n0 ++ [(s, l0.length + 1)] = [] := z
            simp at z
          · show (n0 ++ [(s, l0.length + 1)]).length ≤ (ev ++ [Ev.op s]).length
            have := k.ct
            simp only [List.length_append, List.length_cons, List.length_nil]; omega
          · intro L hL
            obtain ⟨k1, k2⟩ := k.lb L fun t ht => hL t (List.mem_append_left _ ht)
            have hs : s ∈ L := hL s (List.mem_append_right _ List.mem_cons_self)
            refine ⟨fun p hp => ?_, fun t ht => ?_⟩
            · rcases List.mem_append.mp hp with q | q
              · exact k1 p q
              · cases List.mem_singleton.mp q; exact hs
            · rcases List.mem_append.mp ht with q | q
              · exact k2 t q
              · cases List.mem_singleton.mp q; exact hs
      · have ne : ∀ t, e ≠ .op t := fun t z => ne ⟨t, z⟩
        · rcases List.eq_nil_or_concat l0 with z | ⟨l1, s, z⟩
          · subst z
            rw [stp_nil ne] at h
            cases h
          · rw [List.concat_eq_append] at z
            subst z
            rw [stp_close ne] at h
            split at h
            · rename_i ce
              obtain ⟨rfl, rfl⟩ := Prod.mk.inj (Option.some.inj (show some (l1, n0) = some (l, ns) from h))
              have hl : (l1 ++ [s]).length = l1.length + 1 := by simp
              have tk : l1 ++ [s] = (evo m n0 ([], [])).2.take (l1.length + 1) := by have := k.tk; rwa [hl] at this
              have tk1 : l1 = (evo m n0 ([], [])).2.take l1.length := by
                have := congrArg (List.take l1.length) tk
                rw [List.take_take, Nat.min_eq_left (by omega)] at this
                simpa using this
              refine ⟨by have := k.le; rw [hl] at this; omega, tk1, ?_, k.tr, k.la, fun _ => k.l0 (by simp), fun _ => k.l0 (by simp), Nat.le_trans k.ct (by simp), fun L hL => ?_⟩
              · have dr : (evo m n0 ([], [])).2.drop l1.length = s :: (evo m n0 ([], [])).2.drop (l1.length + 1) := by
                  have q : l1.length < (evo m n0 ([], [])).2.length := by have := k.le; rw [hl] at this; omega
                  rw [List.drop_eq_getElem_cons q]
                  congr 1
                  have := congrArg (fun x => x[l1.length]?) tk
                  simp only [List.getElem?_take] at this
                  rw [List.getElem?_append_right (Nat.le_refl _), Nat.sub_self] at this
                  rw [if_pos (by omega), List.getElem?_eq_getElem q] at this
                  exact (Option.some.inj this).symm
                have ke := k.evq
                rw [hl] at ke
                show ev ++ [_] = _ ++ ((evo m n0 ([], [])).2.drop l1.length).reverse.map (cof m)
                rw [dr, List.reverse_cons, List.map_append, ← List.append_assoc, ← ke, ← ce]; rfl
              · obtain ⟨k1, k2⟩ := k.lb L fun t ht => hL t (List.mem_append_left _ ht)
                exact ⟨k1, fun t ht => k2 t (List.mem_append_left _ ht)⟩
            · cases h
/-- back and there -/
theorem evs_run {m : Bool} {ev : List Ev} {ns : List Nd} (h : runE m ev ([], []) = some ([], ns)) : evs m ns = ev := by
  have := (seen ev h).evq
  rw [List.length_nil, List.drop_zero] at this
  exact this.symm
theorem run_pre {m : Bool} {a b : List Ev} {st st2 : Stt} (h : runE m (a ++ b) st = some st2) : ∃ st1, runE m a st = some st1 ∧ runE m b st1 = some st2 := by
  rw [run_app] at h
  cases e : runE m a st with
  | none => rw [e] at h; cases h
  | some st1 => rw [e] at h; exact ⟨st1, rfl, h⟩
theorem run_all {m : Bool} {ev : List Ev} {l : List Str} {ns : List Nd} (h : runE m ev ([], []) = some (l, ns)) : runE m (ev ++ l.reverse.map (cof m)) ([], []) = some ([], ns) := by
  rw [run_app, h]
  have := run_closes (m := m) (ns := ns) l []
  rw [List.nil_append] at this
  exact this
end Law
end Zed
end
section
set_option Elab.async false
set_option linter.all false
set_option maxRecDepth 100000
set_option maxHeartbeats 1000000
set_option exponentiation.threshold 10000
/-! D04b: labels, modes, events as values. -/
namespace Zed
namespace Law
open PySem L2
def lab6 : List Str := ["a", "b", "c", "node", "x", "zz"]
theorem lab_ok {s : Str} (h : s ∈ lab6) : PyData.strOk s = true := by
  have : ∀ s ∈ lab6, PyData.strOk s = true := by decide +kernel
  exact this s h
def modes : List Str := ["named", "bare", "late"]
theorem mode_ok {s : Str} (h : s ∈ modes) : PyData.strOk s = true := by
  have : ∀ s ∈ modes, PyData.strOk s = true := by decide +kernel
  exact this s h
def evP : Ev → PV
  | .op s => .tup [.str "open", .str s]
  | .cl s => .tup [.str "close", .str s]
  | .c0 => .tup [.str "close"]
def evD : Ev → PyData
  | .op s => .tuple [.str "open", .str s]
  | .cl s => .tuple [.str "close", .str s]
  | .c0 => .tuple [.str "close"]
def okV : Ev → Prop
  | .op s => s ∈ lab6
  | .cl s => s ∈ lab6
  | .c0 => True
theorem evP_cl {n : Nat} : ∀ e : Ev, clV n (evP e) = true
  | .op _ => rfl
  | .cl _ => rfl
  | .c0 => rfl
theorem evs_cl {n : Nat} : ∀ ev : List Ev, clVs n (ev.map evP) = true
  | [] => rfl
  | e :: r => by simp only [List.map, clVs, evP_cl, evs_cl r]; rfl
theorem toD_ev {h : PHeap} {n : Nat} : ∀ e : Ev, toD h (n + 2) (evP e) = some (evD e)
  | .op _ => rfl
  | .cl _ => rfl
  | .c0 => rfl
theorem lay_ev : ∀ {e : Ev}, okV e → (evD e).canLay0 = true
  | .op s, h => by
    have := lab_ok h
    simp only [evD, PyData.canLay0, PyData.canLayAll0, this]; decide +kernel
  | .cl s, h => by
    have := lab_ok h
    simp only [evD, PyData.canLay0, PyData.canLayAll0, this]; decide +kernel
  | .c0, h => by decide +kernel
theorem depth_ev (e : Ev) : (evD e).depth = 1 := by cases e <;> simp [evD, PyData.depth, PyData.depthAll]
theorem sh_ev {e : Ev} (h : okV e) : SeqAt.shaped (evD e) = true := by
  unfold SeqAt.shaped
  rw [lay_ev h, depth_ev]; rfl
theorem eqv_ev {a b : Ev} : PyData.eqv (evD a) (evD b) = decide (a = b) := by
  cases a <;> cases b <;> simp [evD, PyData.eqv, PyData.eqvAll] <;> first | (rw [Bool.eq_iff_iff]; simp; done) | exact fun z => absurd z (by decide +kernel)
theorem okO_eqev {h : PHeap} {a b : Ev} {Q : Bool → Prop} (oa : okV a) (ob : okV b) (q : Q (decide (a = b))) : OkO (cmpB .eq h (evP a) (evP b)) Q := by
  refine okO_of (show eqF h (evP a) (evP b) = some (decide (a = b)) from ?_) q
  unfold eqF eqD
  rw [toD_ev, toD_ev]
  dsimp only
  rw [if_pos ⟨sh_ev oa, sh_ev ob⟩, eqv_ev]
theorem okO_neev {h : PHeap} {a b : Ev} {Q : Bool → Prop} (oa : okV a) (ob : okV b) (q : Q (!decide (a = b))) : OkO (cmpB .ne h (evP a) (evP b)) Q := by
  refine okO_of (show (eqD h (evP a) (evP b)).map _ = some (!decide (a = b)) from ?_) q
  unfold eqD
  rw [toD_ev, toD_ev]
  dsimp only
  rw [if_pos ⟨sh_ev oa, sh_ev ob⟩, eqv_ev]; rfl
/-- values of the same data are equal -/
theorem eqD_same {h : PHeap} {x y : PV} {d : PyData} (h1 : toD h 70 x = some d) (h2 : toD h 70 y = some d) (s : SeqAt.shaped d = true) : eqD h x y = some true := by
  unfold eqD
  rw [h1, h2]
  dsimp only
  rw [if_pos ⟨s, s⟩]
  have : d.canLay0 = true := by unfold SeqAt.shaped at s; exact (Bool.and_eq_true_iff.mp s).1
  rw [SeqAt.eqv_refl d this]
theorem okO_same {h : PHeap} {x y : PV} {d : PyData} {Q : Bool → Prop} (h1 : toD h 70 x = some d) (h2 : toD h 70 y = some d) (s : SeqAt.shaped d = true) (q : Q true) : OkO (cmpB .eq h x y) Q :=
  okO_of (show eqF h x y = some true by unfold eqF; rw [eqD_same h1 h2 s]) q
theorem okO_nsame {h : PHeap} {x y : PV} {d : PyData} {Q : Bool → Prop} (h1 : toD h 70 x = some d) (h2 : toD h 70 y = some d) (s : SeqAt.shaped d = true) (q : Q false) : OkO (cmpB .ne h x y) Q :=
  okO_of (show (eqD h x y).map _ = some false by rw [eqD_same h1 h2 s]; rfl) q
theorem mapO_map {α β γ : Type} {f : β → Option γ} {g : α → β} {k : α → γ} (e : ∀ a, f (g a) = some (k a)) : ∀ l : List α, mapO f (l.map g) = some (l.map k)
  | [] => rfl
  | a :: r => by simp only [List.map, mapO, e a, mapO_map e r]
theorem toD_evs {h : PHeap} (ev : List Ev) : toD h 70 (.tup (ev.map evP)) = some (.tuple (ev.map evD)) := by
  show (mapO (toD h 69) (ev.map evP)).map PyData.tuple = _
  rw [mapO_map (fun e => toD_ev (n := 67) e)]; rfl
theorem layAll {α : Type} {k : α → PyData} : ∀ {l : List α}, (∀ a ∈ l, (k a).canLay0 = true) → PyData.canLayAll0 (l.map k) = true
  | [], _ => by simp only [List.map, PyData.canLayAll0]
  | a :: r, h => by
    simp only [List.map, PyData.canLayAll0, h a List.mem_cons_self, layAll fun b hb => h b (List.mem_cons_of_mem _ hb)]; rfl
theorem depAll {α : Type} {k : α → PyData} {n : Nat} : ∀ {l : List α}, (∀ a ∈ l, (k a).depth ≤ n) → PyData.depthAll (l.map k) ≤ n
  | [], _ => by simp only [List.map, PyData.depthAll]; omega
  | a :: r, h => by
    have h1 := h a List.mem_cons_self
    have h2 := depAll fun b hb => h b (List.mem_cons_of_mem _ hb)
    simp only [List.map, PyData.depthAll]
    omega
theorem sh_tup {α : Type} {k : α → PyData} {l : List α} (h1 : ∀ a ∈ l, (k a).canLay0 = true) (h2 : ∀ a ∈ l, (k a).depth ≤ 20) : SeqAt.shaped (.tuple (l.map k)) = true := by
  unfold SeqAt.shaped
  have := depAll h2
  have d : (PyData.tuple (l.map k)).depth ≤ 21 := by simp only [PyData.depth]; omega
  rw [show (PyData.tuple (l.map k)).canLay0 = true by simp only [PyData.canLay0]; exact layAll h1, Bool.true_and]
  exact decide_eq_true (by omega)
theorem sh_lst {α : Type} {k : α → PyData} {l : List α} (h1 : ∀ a ∈ l, (k a).canLay0 = true) (h2 : ∀ a ∈ l, (k a).depth ≤ 20) : SeqAt.shaped (.list (l.map k)) = true := by
  unfold SeqAt.shaped
  have := depAll h2
  have d : (PyData.list (l.map k)).depth ≤ 21 := by simp only [PyData.depth]; omega
  rw [show (PyData.list (l.map k)).canLay0 = true by simp only [PyData.canLay0]; exact layAll h1, Bool.true_and]
  exact decide_eq_true (by omega)
theorem sh_evs {ev : List Ev} (h : ∀ e ∈ ev, okV e) : SeqAt.shaped (.tuple (ev.map evD)) = true := sh_tup (fun e he => lay_ev (h e he)) fun e _ => by rw [depth_ev]; decide
theorem okV_cof {m : Bool} {s : Str} (h : s ∈ lab6) : okV (cof m s) := by unfold cof; cases m; exact trivial; exact h
theorem t_close_of : TB 47 = some f_close_of := rfl
theorem t_law_close : TB 60 = some f_law_close := rfl
theorem t_is_mode : TB 42 = some f_is_mode := rfl
theorem t_require_mode : TB 55 = some f_require_mode := rfl
theorem ok_close_of {n : Nat} {h : PHeap} {s md : Str} (hm : PyData.strOk md = true) : Ok (cl (n + 1) 47 [.str s, .str md] h) fun d h' => d = evP (cof (md == "named") s) ∧ h' = h := by
  refine (f_call t_close_of rfl rfl).mpr ?_
  (unfold f_close_of; dsimp only [List.map, List.append, HAppend.hAppend, Append.append, List.replicate, Nat.reduceSub])
  walk_at "zw"
  refine ⟨fun k => ?_, fun k => ?_⟩
  · walk_at "zw"
    exact sl_same rfl ⟨by rw [k]; rfl, rfl⟩
  · walk_at "zw"
    exact sl_same rfl ⟨by rw [k]; rfl, rfl⟩
theorem ok_law_close {n : Nat} {h : PHeap} {s md : Str} (hm : PyData.strOk md = true) : Ok (cl (n + 1) 60 [.str s, .str md] h) fun d h' => d = evP (cof (md == "named") s) ∧ h' = h := by
  refine (f_call t_law_close rfl rfl).mpr ?_
  (unfold f_law_close; dsimp only [List.map, List.append, HAppend.hAppend, Append.append, List.replicate, Nat.reduceSub])
  walk_at "zw"
  refine ⟨fun k => ?_, fun k => ?_⟩
  · walk_at "zw"
    exact sl_same rfl ⟨by rw [k]; rfl, rfl⟩
  · walk_at "zw"
    exact sl_same rfl ⟨by rw [k]; rfl, rfl⟩
theorem ok_is_mode {n : Nat} {h : PHeap} {md : Str} (hm : md ∈ modes) : Ok (cl (n + 1) 42 [.str md] h) fun d h' => d = .bl true ∧ h' = h := by
  refine (f_call t_is_mode rfl rfl).mpr ?_
  (unfold f_is_mode; dsimp only [List.map, List.append, HAppend.hAppend, Append.append, List.replicate, Nat.reduceSub])
  walk_at "zw"
  have : ∀ md ∈ modes, inF h (.str md) (.tup [.str "bare", .str "late", .str "named"]) = some true := by
    intro md hm
    simp only [modes, List.mem_cons, List.not_mem_nil, or_false] at hm
    rcases hm with rfl | rfl | rfl <;> rfl
  exact sl_same rfl ⟨congrArg PV.bl (Option.some.inj (this md hm)), rfl⟩
theorem ok_require_mode {n : Nat} {h : PHeap} {md : Str} (hm : md ∈ modes) : Ok (cl (n + 2) 55 [.str md] h) fun d h' => h' = h := by
  refine (f_call t_require_mode rfl rfl).mpr ?_
  (unfold f_require_mode; dsimp only [List.map, List.append, HAppend.hAppend, Append.append, List.replicate, Nat.reduceSub])
  walk_at "zw"
  refine (ok_is_mode (n := n) hm).mono fun d h1 e => ?_
  obtain ⟨rfl, rfl⟩ := e
  walk_at "zw"
  exact sl_same rfl rfl
end Law
end Zed
end
section
set_option Elab.async false
set_option linter.all false
set_option maxRecDepth 100000
set_option maxHeartbeats 1000000
set_option exponentiation.threshold 10000
/-! D04c: is_name, is_event; the events of nodes. -/
namespace Zed
namespace Law
open PySem L2
theorem t_is_name : TB 1 = some f_is_name := rfl
theorem t_is_event : TB 50 = some f_is_event := rfl
theorem t_events_in : TB 78 = some f_events_in := rfl
theorem t_law_events : TB 69 = some f_law_events := rfl
theorem run_name : ∀ s ∈ lab6, ∀ (C : Orc) (h : PHeap), exSs C f_is_name.body [some (.str s), none] h = .rt (.bl true) h := by
  intro s hs
  simp only [lab6, List.mem_cons, List.not_mem_nil, or_false] at hs
  rcases hs with rfl | rfl | rfl | rfl | rfl | rfl <;> (intro C h; rfl)
theorem ok_is_name {n : Nat} {h : PHeap} {s : Str} (hs : s ∈ lab6) : Ok (cl (n + 1) 1 [.str s] h) fun d h' => d = .bl true ∧ h' = h := by
  refine (f_call t_is_name rfl rfl).mpr ?_
  have e := run_name s hs ⟨cl n, CT⟩ h
  show OkS (exSs _ f_is_name.body [some (.str s), none] h) _ _
  rw [e]
  exact sl_same rfl ⟨rfl, rfl⟩
/-- an event under the mode -/
def isEv (m : Bool) : Ev → Bool
  | .op _ => true
  | .cl _ => m
  | .c0 => !m
theorem ok_is_event {n : Nat} {h : PHeap} {md : Str} (hm : PyData.strOk md = true) : ∀ {e : Ev}, okV e → Ok (cl (n + 2) 50 [evP e, .str md] h) fun d h' => d = .bl (isEv (md == "named") e) ∧ h' = h
  | .op s, o => by
    refine (f_call t_is_event rfl rfl).mpr ?_
    (unfold f_is_event; dsimp only [List.map, List.append, HAppend.hAppend, Append.append, List.replicate, Nat.reduceSub])
    unfold evP
    walk_at "zw"
    refine okO_eqt (b := false) rfl ?_
    walk_at "zw"
    refine (ok_is_name (n := n) o).mono fun d h1 ⟨e1, e2⟩ => ?_
    subst e1; subst e2
    exact sl_same rfl ⟨rfl, rfl⟩
  | .cl s, o => by
    refine (f_call t_is_event rfl rfl).mpr ?_
    (unfold f_is_event; dsimp only [List.map, List.append, HAppend.hAppend, Append.append, List.replicate, Nat.reduceSub])
    unfold evP
    walk_at "zw"
    refine okO_eqt (b := false) rfl ?_
    walk_at "zw"
    refine ⟨fun k => ?_, fun k => ?_⟩
    · walk_at "zw"
      refine (ok_is_name (n := n) o).mono fun d h1 ⟨e1, e2⟩ => ?_
      subst e1; subst e2
      exact sl_same rfl ⟨by rw [k]; rfl, rfl⟩
    · walk_at "zw"
      refine okO_eqt (b := false) rfl ?_
      exact sl_same rfl ⟨by rw [k]; rfl, rfl⟩
  | .c0, o => by
    refine (f_call t_is_event rfl rfl).mpr ?_
    (unfold f_is_event; dsimp only [List.map, List.append, HAppend.hAppend, Append.append, List.replicate, Nat.reduceSub])
    unfold evP
    walk_at "zw"
    refine okO_eqt (b := false) rfl ?_
    walk_at "zw"
    refine ⟨fun k => ?_, fun k => ?_⟩
    · walk_at "zw"
      exact sl_same rfl ⟨by rw [k]; rfl, rfl⟩
    · walk_at "zw"
      refine okO_eqt (b := true) rfl ?_
      exact sl_same rfl ⟨by rw [k]; rfl, rfl⟩
def ndP (p : Nd) : PV := .tup [.str p.1, .int p.2]
end Law
end Zed
end
section
set_option Elab.async false
set_option linter.all false
set_option maxRecDepth 100000
set_option maxHeartbeats 1000000
set_option exponentiation.threshold 10000
/-! D04d: the events of nodes, as both defs make them. -/
namespace Zed
namespace Law
open PySem L2
section
variable {h : PHeap} {a b a' b' : PObj}
theorem g0 : (h ++ [a, b])[h.length]? = some a := by rw [List.getElem?_append_right (Nat.le_refl _), Nat.sub_self]; rfl
theorem g1 : (h ++ [a, b])[h.length + 1]? = some b := by rw [List.getElem?_append_right (by omega), Nat.add_sub_cancel_left]; rfl
theorem s0 : (h ++ [a, b]).set h.length a' = h ++ [a', b] := by rw [List.set_append_right _ _ (Nat.le_refl _), Nat.sub_self]; rfl
theorem s1 : (h ++ [a, b]).set (h.length + 1) b' = h ++ [a, b'] := by rw [List.set_append_right _ _ (by omega), Nat.add_sub_cancel_left]; rfl
end
theorem okP_cat' {h : PHeap} {i : Nat} {xs ys : List PV} {Q : PV → PHeap → Prop} (e : h[i]? = some (.lst xs)) (hl : xs.length + ys.length ≤ 1000) (q : Q (.fl (xs ++ ys)) h) : OkP (bopF .add [.ref i, .fl ys] h) Q := by
  refine okP_of ?_ q
  show addF (.ref i) (.fl ys) h = _
  simp only [addF, lstOf, objOf, e]
  rw [if_pos (line_of hl)]
def bodyEv (K : Nat) : Sxs := (.cons (.asg (.tp (.cons (.nm 2) (.cons (.nm 3) .nil))) (.tup (.cons (.lst false .nil) (.cons (.lst false .nil) .nil))))
  (.cons (.for_ (.tp (.cons (.nm 4) (.cons (.nm 5) .nil))) (.val (.loc 0))
  (.cons (.whl (.cmp .ge (.blt .len (.cons (.loc 3) .nil)) (.loc 5))
  (.cons (.ex (.meth .append (.loc 2) (.cons (.call K (.cons (.pop (.loc 3)) (.cons (.loc 1) .nil))) .nil)))
  .nil))
  (.cons (.ex (.meth .append (.loc 2) (.cons (.tup (.cons (.con (.str "open")) (.cons (.loc 4) .nil))) .nil)))
  (.cons (.ex (.meth .append (.loc 3) (.cons (.loc 4) .nil)))
  .nil))))
  (.cons (.ret (.bin .add (.loc 2) (.lc true (.call K (.cons (.loc 4) (.cons (.loc 1) .nil))) (.nm 4) (.val (.rev true (.loc 3))) .no [4])))
  .nil)))
theorem b_in : f_events_in.body = bodyEv 47 := rfl
theorem b_law' : f_law_events.body = bodyEv 60 := rfl
/-- what closes labels -/
def Closer (n K : Nat) (md : Str) : Prop := ∀ (s : Str) (h : PHeap), Ok (cl n K [.str s, .str md] h) fun d h' => d = evP (cof (md == "named") s) ∧ h' = h
theorem lc_close {n K : Nat} {md : Str} {i j : Nat} (c : Closer n K md) {lw : Loc} {h : PHeap} {ks : List Str} (hk : ks.length ≤ 900) (hi : i < lw.length) (hj : (lw.set i (some (.str "")))[j]? = some (some (.str md))) (ij : i ≠ j) :
    Ok (lcLoop (.nm i) (.seq (ks.map PV.str)) (evT1 ⟨cl n, CT⟩ .no) (evE ⟨cl n, CT⟩ (.call K (.cons (.loc i) (.cons (.loc j) .nil)))) lw ((ks.map PV.str).length + 1) 0 [] h) fun acc h' => acc = (ks.map (cof (md == "named"))).map evP ∧ h' = h := by
  have z := ok_lc (tg := .nm i) (src := .seq (ks.map PV.str)) (tt := evT1 ⟨cl n, CT⟩ .no) (el := evE ⟨cl n, CT⟩ (.call K (.cons (.loc i) (.cons (.loc j) .nil)))) (lw := lw) (X := NoX) (ds := ks.map PV.str)
    (fun i acc h' => acc = ((ks.take i).map (cof (md == "named"))).map evP ∧ h' = h) (by rw [List.length_map]; omega) (fun i acc h' _ => rfl) (fun q d acc h' hd p => by
      obtain ⟨rfl, rfl⟩ := p
      rw [List.getElem?_map] at hd
      cases hs : ks[q]? with
      | none => rw [hs] at hd; cases hd
      | some s =>
        rw [hs] at hd
        cases hd
        refine okO_bind hi ?_
        refine w_tno.mpr ⟨fun z => (nomatch z), fun _ => ?_⟩
        walk_at "zw"
        refine x_loc (d := .str s) (List.getElem?_set_self hi) ?_
        walk_at "zw"
        refine x_loc (d := .str md) ?_ ?_
        · rw [List.getElem?_set_ne ij]; rw [List.getElem?_set_ne ij] at hj; exact hj
        walk_at "zw"
        refine (c s h').mono fun d h1 ⟨e1, e2⟩ => ?_
        subst e1; subst e2
        refine ⟨?_, rfl⟩
        rw [List.take_succ, hs]
        simp) ((ks.map PV.str).length + 1) 0 [] h (by omega) (Nat.zero_le _) (Nat.le_refl _) ⟨rfl, rfl⟩
  refine z.mono fun acc h' p => ?_
  rw [List.length_map, List.take_length] at p
  exact p
theorem ok_bodyEv {n K : Nat} {md : Str} (c : Closer n K md) {v : PV} {h : PHeap} {ns : List Nd} (hv : ∀ g, srcOf (h ++ g) v = some (.seq (ns.map ndP))) (hn : ns.length ≤ 100) (hd : ∀ p ∈ ns, 1 ≤ p.2) {N : Loc → PHeap → Prop} {T : PV → PHeap → Prop}
    (k : ∀ g, T (.fl ((evs (md == "named") ns).map evP)) (h ++ g)) :
    OkS (exSs ⟨cl n, CT⟩ (bodyEv K) [some v, some (.str md), none, none, none, none] h) N T := by
  unfold bodyEv
  walk_at "zw"
  rw [show h ++ [PObj.lst []] ++ [PObj.lst []] = h ++ [.lst [], .lst []] by simp, List.length_append]
  dsimp only [List.length_cons, List.length_nil, Nat.zero_add]
  refine okO_of (hv _) ?_
  generalize hm : (md == ("named" : Str)) = m at k
  refine ok_for (ds := ns.map ndP) (fun i l h' => ∃ x4 x5, l = [some v, some (.str md), some (.ref h.length), some (.ref (h.length + 1)), x4, x5] ∧ h' = h ++ [.lst ((evo m (ns.take i) ([], [])).1.map evP), .lst ((evo m (ns.take i) ([], [])).2.map PV.str)])
    (fun i l h' _ => rfl) (fun i d l h' hd1 ⟨x4, x5, el, eh⟩ => ?_) (fun l h' ⟨x4, x5, el, eh⟩ => ?_) _ 0 _ _ (by show (ns.map ndP).length + 1 + 0 = _; rfl) (Nat.zero_le _) ⟨_, _, rfl, rfl⟩
  · rw [List.getElem?_map] at hd1
    cases hp : ns[i]? with
    | none => rw [hp] at hd1; cases hd1
    | some p =>
      obtain ⟨s, d0⟩ := p
      rw [hp] at hd1
      cases hd1
      have hil : i < ns.length := (List.getElem?_eq_some_iff.mp hp).1
      have d1 : 1 ≤ d0 := hd (s, d0) (List.mem_of_getElem? hp)
      have tk : ns.take (i + 1) = ns.take i ++ [(s, d0)] := by rw [List.take_succ, hp]; rfl
      have len := evo_len (m := m) (ns := ns.take i) (st := ([], []))
      have tl : (ns.take i).length = i := by rw [List.length_take]; omega
      rw [tl] at len
      have len : (evo m (ns.take i) ([], [])).1.length + (evo m (ns.take i) ([], [])).2.length = 2 * i := by simpa using len
      rw [tk]
      simp only [evo_app]
      generalize hst : evo m (ns.take i) ([], []) = st at len eh
      obtain ⟨f, l0⟩ := st
      subst el; subst eh
      dsimp only at len
      unfold ndP
      walk_at "zw"
      dsimp only [List.set]
      refine ok_whl (fun k l h' => k ≤ l0.length ∧ (k = l0.length ∨ d0 ≤ k + 1) ∧ l = [some v, some (.str md), some (.ref h.length), some (.ref (h.length + 1)), some (.str s), some (.int d0)] ∧ h' = h ++ [.lst ((f ++ (l0.drop k).reverse.map (cof m)).map evP), .lst ((l0.take k).map PV.str)]) (fun k l h' ⟨k1, k2, el, eh⟩ => ?_) (m := l0.length) (by omega) ⟨Nat.le_refl _, .inl rfl, rfl, by rw [List.drop_length, List.take_length]; simp⟩
      subst el; subst eh
      walk_at "zw"
      refine okP_len g1 ?_
      walk_at "zw"
      refine ⟨fun kk => ?_, fun kk => ?_⟩
      · have kk := of_decide_eq_true kk
        rw [List.length_map, List.length_take, Nat.min_eq_left k1] at kk
        obtain ⟨k', rfl⟩ : ∃ k', k = k' + 1 := ⟨k - 1, by omega⟩
        have kl : k' < l0.length := by omega
        have tk2 : (l0.take (k' + 1)).map PV.str = (l0.take k').map PV.str ++ [.str l0[k']] := by rw [List.take_succ, List.getElem?_eq_getElem kl, List.map_append]; rfl
        rw [tk2]
        walk_at "zw"
        refine ⟨rcv_lst g0, ?_⟩
        walk_at "zw"
        refine okP_pop g1 ?_
        rw [s1]
        walk_at "zw"
        have cc := c l0[k'] (h ++ [.lst ((f ++ (l0.drop (k' + 1)).reverse.map (cof m)).map evP), .lst ((l0.take k').map PV.str)])
        rw [hm] at cc
        refine cc.mono fun d h1 ⟨e1, e2⟩ => ?_
        subst e1; subst e2
        walk_at "zw"
        refine okP_app g0 ?_ ?_
        · simp only [List.length_map, List.length_append, List.length_reverse, List.length_drop]; omega
        rw [s0]
        walk_at "zw"
        refine ⟨k', by omega, by omega, .inr (by omega), rfl, ?_⟩
        have e3 : (l0.drop k').reverse.map (cof m) = (l0.drop (k' + 1)).reverse.map (cof m) ++ [cof m l0[k']] := by
          rw [List.drop_eq_getElem_cons kl, List.reverse_cons, List.map_append]; rfl
        have e4 : (f ++ (l0.drop k').reverse.map (cof m)).map evP = (f ++ (l0.drop (k' + 1)).reverse.map (cof m)).map evP ++ [evP (cof m l0[k'])] := by
          rw [e3, ← List.append_assoc, List.map_append (l₂ := [cof m l0[k']])]; rfl
        rw [e4]
      · have kk := of_decide_eq_false kk
        rw [List.length_map, List.length_take, Nat.min_eq_left k1] at kk
        have e1 : l0.drop k = l0.drop (d0 - 1) := by
          rcases k2 with z | z
          · subst z; rw [List.drop_of_length_le (Nat.le_refl _), List.drop_of_length_le (by omega)]
          · rw [show k = d0 - 1 by omega]
        have e2 : l0.take k = l0.take (d0 - 1) := by
          rcases k2 with z | z
          · subst z; rw [List.take_of_length_le (Nat.le_refl _), List.take_of_length_le (by omega)]
          · rw [show k = d0 - 1 by omega]
        rw [e1, e2]
        walk_at "zw"
        refine ⟨rcv_lst g0, ?_⟩
        walk_at "zw"
        refine okP_app g0 ?_ ?_
        · simp only [List.length_map, List.length_append, List.length_reverse, List.length_drop]; omega
        rw [s0]
        walk_at "zw"
        refine ⟨rcv_lst g1, ?_⟩
        walk_at "zw"
        refine okP_app g1 ?_ ?_
        · simp only [List.length_map, List.length_take]; omega
        rw [s1]
        walk_at "zw"
        refine ⟨_, _, rfl, ?_⟩
        show _ = h ++ [.lst ((f ++ (l0.drop (d0 - 1)).reverse.map (cof m) ++ [Ev.op s]).map evP), .lst ((l0.take (d0 - 1) ++ [s]).map PV.str)]
        simp [evP]
  · subst el; subst eh
    rw [List.length_map, List.take_length]
    have len := evo_len (m := m) (ns := ns) (st := ([], []))
    generalize hst : evo m ns ([], []) = st at len
    obtain ⟨f, l0⟩ := st
    have len : f.length + l0.length = 2 * ns.length := by simpa using len
    have ke : evs m ns = f ++ l0.reverse.map (cof m) := by unfold evs; rw [hst]
    rw [ke] at k
    dsimp only
    walk_at "zw"
    refine okP_rev (xs := l0.map PV.str) (by simp only [lstOf, objOf, g1]) ?_
    walk_at "zw"
    rw [← List.map_reverse]
    refine Okx.mono (lc_close c (by rw [List.length_reverse]; omega) (Nat.le_of_ble_eq_true rfl) rfl (by decide)) fun acc h1 ⟨e1, e2⟩ => ?_
    subst e1; subst e2
    refine okP_cat' (xs := f.map evP) g0 ?_ ?_
    · simp only [List.length_map, List.length_reverse]; omega
    rw [hm, ← List.map_append]
    exact k _
end Law
end Zed
end
section
set_option Elab.async false
set_option linter.all false
set_option maxRecDepth 100000
set_option maxHeartbeats 1000000
set_option exponentiation.threshold 10000
/-! D04e: both events defs; the law's judge. -/
namespace Zed
namespace Law
open PySem L2
theorem ok_events_in {n : Nat} {h : PHeap} {md : Str} {ns : List Nd} (hm : PyData.strOk md = true) (hn : ns.length ≤ 100) (hd : ∀ p ∈ ns, 1 ≤ p.2) :
    Ok (cl (n + 2) 78 [.tup (ns.map ndP), .str md] h) fun d h' => d = .fl ((evs (md == "named") ns).map evP) ∧ h' = h := by
  refine (f_call t_events_in rfl rfl).mpr ?_
  show OkS (exSs ⟨cl (n + 1), CT⟩ (bodyEv 47) [some (.tup (ns.map ndP)), some (.str md), none, none, none, none] h) _ _
  exact ok_bodyEv (fun s h => ok_close_of (n := n) hm) (fun g => rfl) hn hd fun g => sl_app (by simp only [clV, clO]; exact evs_cl _) ⟨rfl, rfl⟩
theorem ok_law_events {n : Nat} {h : PHeap} {md : Str} {ns : List Nd} (hm : PyData.strOk md = true) (hn : ns.length ≤ 100) (hd : ∀ p ∈ ns, 1 ≤ p.2) :
    Ok (cl (n + 2) 69 [.fl (ns.map ndP), .str md] h) fun d h' => d = .fl ((evs (md == "named") ns).map evP) ∧ h' = h := by
  refine (f_call t_law_events rfl rfl).mpr ?_
  show OkS (exSs ⟨cl (n + 1), CT⟩ (bodyEv 60) [some (.fl (ns.map ndP)), some (.str md), none, none, none, none] h) _ _
  exact ok_bodyEv (fun s h => ok_law_close (n := n) hm) (fun g => rfl) hn hd fun g => sl_app (by simp only [clV, clO]; exact evs_cl _) ⟨rfl, rfl⟩
theorem t_judged : TB 38 = some f_law_judged := rfl
theorem run_bad {m : Bool} {ev : List Ev} {i : Nat} {e : Ev} {st0 st : Stt} (h : runE m (ev.take i) st0 = some st) (he : ev[i]? = some e) (hs : stp m st e = none) : runE m ev st0 = none := by
  have hi := (List.getElem?_eq_some_iff.mp he).1
  have e1 : ev = ev.take i ++ e :: ev.drop (i + 1) := by
    have := List.drop_eq_getElem_cons hi
    rw [(List.getElem?_eq_some_iff.mp he).2] at this
    rw [← this, List.take_append_drop]
  rw [e1, run_app, h]
  show (stp m st e).bind _ = none
  rw [hs]; rfl
theorem run_snoc {m : Bool} {ev : List Ev} {i : Nat} {e : Ev} {st0 st st2 : Stt} (h : runE m (ev.take i) st0 = some st) (he : ev[i]? = some e) (hs : stp m st e = some st2) : runE m (ev.take (i + 1)) st0 = some st2 := by
  rw [List.take_succ, he, run_app, h]
  show (stp m st e).bind _ = _
  rw [hs]; rfl
theorem frz_lst' {h1 : PHeap} {n k i : Nat} {ds : List PV} (e : h1[i]? = some (.lst ds)) (hi : n ≤ i) (z : clVs 0 ds = true) : frzV h1 n (k + 1) (.ref i) = some (.fl ds) := by
  have m : ∀ {k : Nat} (l : List PV), clVs 0 l = true → mapO (frzV h1 n k) l = some l := fun {k} l => by
    induction l with
    | nil => intro _; rfl
    | cons d r ih =>
      intro z
      simp only [clVs, Bool.and_eq_true] at z
      simp only [mapO, frz_cl (cl_up (Nat.zero_le n) d z.1), ih z.2]
  unfold frzV
  rw [if_neg (by simp only [clV, decide_eq_true_eq]; omega)]
  dsimp only
  rw [e]
  show (Option.map PObj.lst (mapO (frzV h1 n k) ds)).map PV.fz = _
  rw [m ds z]; rfl
theorem strs_cl {n : Nat} : ∀ l : List Str, clVs n (l.map PV.str) = true
  | [] => rfl
  | s :: r => by simp only [List.map, clVs, clV, strs_cl r]; rfl
/-- the judge's answer -/
def judP (m : Bool) (ev : List Ev) : PV := match runE m ev ([], []) with
  | some (l, ns) => .tup [.bl true, .bl (decide (ns ≠ []) && l.isEmpty), .fl (l.map PV.str)]
  | none => .tup [.bl false, .bl false, .fl []]
theorem ok_judged {n : Nat} {h : PHeap} {md : Str} {ev : List Ev} (hm : PyData.strOk md = true) (hl : ev.length ≤ 100) (ho : ∀ e ∈ ev, okV e) :
    Ok (cl (n + 2) 38 [.tup (ev.map evP), .str md] h) fun d h' => d = judP (md == "named") ev ∧ h' = h := by
  refine (f_call t_judged rfl rfl).mpr ?_
  (unfold f_law_judged; dsimp only [List.map, List.append, HAppend.hAppend, Append.append, List.replicate, Nat.reduceSub])
  generalize hmm : (md == ("named" : Str)) = m
  walk_at "zw"
  refine ok_for (ds := ev.map evP) (fun i l h' => ∃ x2 lf ns, l = [some (.tup (ev.map evP)), some (.str md), x2, some (.ref h.length), some (.int (List.length (α := Nd) ns))] ∧ h' = h ++ [.lst (lf.map PV.str)] ∧ runE m (ev.take i) ([], []) = some (lf, ns) ∧ lf.length ≤ i)
    (fun i l h' _ => rfl) (fun i d l h' hd1 ⟨x2, lf, ns, el, eh, er, ll⟩ => ?_) (fun l h' ⟨x2, lf, ns, el, eh, er, ll⟩ => ?_) _ 0 _ _ (by show (ev.map evP).length + 1 + 0 = _; rfl) (Nat.zero_le _) ⟨_, [], [], rfl, rfl, rfl, Nat.le_refl _⟩
  · rw [List.getElem?_map] at hd1
    cases he : ev[i]? with
    | none => rw [he] at hd1; cases hd1
    | some e =>
      rw [he] at hd1
      cases hd1
      have hil : i < ev.length := (List.getElem?_eq_some_iff.mp he).1
      have oe := ho e (List.mem_of_getElem? he)
      subst el; subst eh
      have bad : stp m (lf, ns) e = none → judP m ev = .tup [.bl false, .bl false, .fl []] := fun z => by unfold judP; rw [run_bad er he z]
      have lo : lstOf (h ++ [.lst (lf.map PV.str)]) (.ref h.length) = some (lf.map PV.str) := by simp only [lstOf, objOf, get_new]
      rcases Classical.em (∃ s, e = .op s) with ⟨s, rfl⟩ | ne
      · rw [show evP (.op s) = .tup [.str "open", .str s] from rfl]
        walk_at "zw"
        refine okO_eqt (b := true) rfl ?_
        walk_at "zw"
        refine okO_eq_nil lo ?_
        walk_at "zw"
        refine ⟨fun k => ?_, fun k => ?_⟩
        · have k : lf = [] := by cases lf; rfl; cases k
          subst k
          walk_at "zw"
          refine ⟨fun k => ?_, fun k => ?_⟩
          · have k := of_decide_eq_true k
            walk_at "zw"
            have nn : ns ≠ [] := fun z => by subst z; simp at k
            exact sl_app rfl ⟨(bad (stp_done nn)).symm, rfl⟩
          · have k := of_decide_eq_false k
            have nn : ns = [] := by
              cases ns with
              | nil => rfl
              | cons p r => exact absurd (by simp) k
            subst nn
            walk_at "zw"
            refine ⟨rcv_lst get_new, ?_⟩
            walk_at "zw"
            refine okP_app get_new (by simp) ?_
            rw [set_new]
            walk_at "zw"
            exact ⟨_, [s], [(s, 1)], rfl, rfl, run_snoc er he rfl, by simp⟩
        · have k : lf ≠ [] := fun z => by subst z; cases k
          walk_at "zw"
          refine ⟨rcv_lst get_new, ?_⟩
          walk_at "zw"
          refine okP_app get_new (by rw [List.length_map]; omega) ?_
          rw [set_new]
          walk_at "zw"
          refine ⟨some (.tup [.str "open", .str s]), lf ++ [s], ns ++ [(s, lf.length + 1)], ?_, ?_, run_snoc er he (by rw [stp_op, if_neg (fun z => k z.1)]), by rw [List.length_append]; simp; exact ll⟩
          · simp
          · simp
      · have ne : ∀ t, e ≠ .op t := fun t z => ne ⟨t, z⟩
        have hs : ∀ h', slcF (evP e) none (some 1) h' = some (.tup [.str "close"], h') := by
          intro h'
          cases e with
          | op t => exact absurd rfl (ne t)
          | _ => rfl
        have os := ((seen _ er).lb lab6 fun s hs => ho _ (List.mem_of_mem_take hs)).2
        walk_at "zw"
        refine okP_of (hs _) ?_
        walk_at "zw"
        refine okO_eqt (b := false) rfl ?_
        walk_at "zw"
        refine okO_eq_nil lo ?_
        walk_at "zw"
        refine ⟨fun k => ?_, fun k => ?_⟩
        · have k1 : lf = [] := by cases lf; rfl; cases k
          rw [k]
          walk_at "zw"
          subst k1
          exact sl_app rfl ⟨(bad (stp_nil ne)).symm, rfl⟩
        · rcases List.eq_nil_or_concat lf with z | ⟨l1, s, z⟩
          · subst z; cases k
          · rw [List.concat_eq_append] at z
            subst z
            rw [List.map_append]
            walk_at "zw"
            refine okP_pop get_new ?_
            rw [set_new]
            walk_at "zw"
            refine (ok_law_close (n := n) hm).mono fun d h1 ⟨e1, e2⟩ => ?_
            subst e1; subst e2
            rw [hmm]
            refine okO_neev oe (okV_cof (os s (by simp))) ?_
            walk_at "zw"
            refine ⟨fun k => ?_, fun k => ?_⟩
            · have k : e ≠ cof m s := by simpa using k
              walk_at "zw"
              exact sl_app rfl ⟨(bad (by rw [stp_close ne, if_neg (fun z => k z.symm)])).symm, rfl⟩
            · have k : e = cof m s := by simpa using k
              walk_at "zw"
              exact ⟨_, l1, ns, rfl, rfl, run_snoc er he (by rw [stp_close ne, if_pos k.symm]), by rw [List.length_append] at ll; omega⟩
  · subst el; subst eh
    rw [List.length_map, List.take_length] at er
    have jp : judP m ev = .tup [.bl true, .bl (decide (ns ≠ []) && lf.isEmpty), .fl (lf.map PV.str)] := by unfold judP; rw [er]
    have lo : lstOf (h ++ [.lst (lf.map PV.str)]) (.ref h.length) = some (lf.map PV.str) := by simp only [lstOf, objOf, get_new]
    have fin : ∀ b : Bool, b = (decide (ns ≠ []) && lf.isEmpty) → Seal h (.tup [.bl true, .bl b, .ref h.length]) (h ++ [.lst (lf.map PV.str)]) (fun d h' => d = judP m ev ∧ h' = h) := by
      intro b hb
      refine ⟨_, h, ?_, seal_app' h _, jp.symm, rfl⟩
      subst hb
      unfold frzV
      rw [if_neg (by simp only [clV, clVs, Bool.and_eq_true, decide_eq_true_eq]; omega)]
      dsimp only
      simp only [mapO, frz_lst' get_new (Nat.le_refl _) (strs_cl lf), frz_cl (d := .bl true) rfl, frz_cl (d := .bl (decide (ns ≠ []) && lf.isEmpty)) rfl]
      rfl
    walk_at "zw"
    refine ⟨fun k => ?_, fun k => ?_⟩
    · have k := of_decide_eq_true k
      have nn : ns ≠ [] := fun z => by subst z; simp at k
      walk_at "zw"
      refine okO_eq_nil lo ?_
      walk_at "zw"
      exact fin _ (by simp [nn])
    · have k := of_decide_eq_false k
      have nn : ns = [] := by
        cases ns with
        | nil => rfl
        | cons p r => exact absurd (by simp) k
      walk_at "zw"
      exact fin _ (by simp [nn])
end Law
end Zed
end
section
set_option Elab.async false
set_option linter.all false
set_option maxRecDepth 100000
set_option maxHeartbeats 1000000
set_option exponentiation.threshold 10000
/-! D04f: the tracker takes an event. -/
namespace Zed
namespace Law
open PySem L2
theorem seal_gen {n : Nat} {g : PHeap} : ∀ {h h1 : PHeap}, h1.length = h.length → (∀ (k : Nat) (o : PObj), h1[k]? = some o → h[k]? = some o ∨ clO n o = true) → sealH n h (h1 ++ g) = some h1
  | [], h1, l, _ => by
    have : h1 = [] := List.eq_nil_of_length_eq_zero l
    subst this
    cases g <;> rfl
  | o :: r, [], l, _ => by simp at l
  | o :: r, o1 :: r1, l, k => by
    show (if PObj.same o o1 || clO n o1 then (sealH n r (r1 ++ g)).map (o1 :: ·) else none) = _
    have k0 : (PObj.same o o1 || clO n o1) = true := by
      rcases k 0 o1 rfl with z | z
      · simp at z; subst z; rw [PObj.same_rfl]; rfl
      · rw [z, Bool.or_true]
    rw [k0, if_pos rfl, seal_gen (by simpa using l) fun j ob hj => by simpa using k (j + 1) ob (by simpa using hj)]; rfl
def ndD (p : Nd) : PyData := .tuple [.str p.1, .int p.2]
theorem nds_cl {n : Nat} : ∀ ns : List Nd, clVs n (ns.map ndP) = true
  | [] => rfl
  | p :: r => by simp only [List.map, clVs, ndP, clV, nds_cl r]; rfl
/-- a heap with a tracker at its end -/
abbrev tins (t : Nat) (md : Str) : PObj := .ins 48 [(77, .str md), (54, .ref (t + 1)), (53, .ref (t + 2))]
def hp (h : PHeap) (md : Str) (lf : List Str) (ns : List Nd) : PHeap := h ++ [tins h.length md, .lst (lf.map PV.str), .lst (ns.map ndP)]
section
variable {h : PHeap} {md : Str} {lf lf' : List Str} {ns ns' : List Nd}
theorem hp0 : (hp h md lf ns)[h.length]? = some (tins h.length md) := by unfold hp; rw [List.getElem?_append_right (Nat.le_refl _), Nat.sub_self]; rfl
theorem hp1 : (hp h md lf ns)[h.length + 1]? = some (.lst (lf.map PV.str)) := by unfold hp; rw [List.getElem?_append_right (by omega), Nat.add_sub_cancel_left]; rfl
theorem hp2 : (hp h md lf ns)[h.length + 2]? = some (.lst (ns.map ndP)) := by unfold hp; rw [List.getElem?_append_right (by omega), Nat.add_sub_cancel_left]; rfl
theorem hs1 : (hp h md lf ns).set (h.length + 1) (.lst (lf'.map PV.str)) = hp h md lf' ns := by unfold hp; rw [List.set_append_right _ _ (by omega), Nat.add_sub_cancel_left]; rfl
theorem hs2 : (hp h md lf ns).set (h.length + 2) (.lst (ns'.map ndP)) = hp h md lf ns' := by unfold hp; rw [List.set_append_right _ _ (by omega), Nat.add_sub_cancel_left]; rfl
theorem hp_len : (hp h md lf ns).length = h.length + 3 := by unfold hp; rw [List.length_append]; rfl
theorem at54 {Q : PV → PHeap → Prop} (q : Q (.ref (h.length + 1)) (hp h md lf ns)) : OkP (attrF CT 54 [.ref h.length] (hp h md lf ns)) Q := by
  refine okP_of ?_ q
  simp only [attrF, objOf, hp0]; rfl
theorem at53 {Q : PV → PHeap → Prop} (q : Q (.ref (h.length + 2)) (hp h md lf ns)) : OkP (attrF CT 53 [.ref h.length] (hp h md lf ns)) Q := by
  refine okP_of ?_ q
  simp only [attrF, objOf, hp0]; rfl
theorem at77 {Q : PV → PHeap → Prop} (q : Q (.str md) (hp h md lf ns)) : OkP (attrF CT 77 [.ref h.length] (hp h md lf ns)) Q := by
  refine okP_of ?_ q
  simp only [attrF, objOf, hp0]; rfl
theorem lo1 : lstOf (hp h md lf ns) (.ref (h.length + 1)) = some (lf.map PV.str) := by simp only [lstOf, objOf, hp1]
theorem lo2 : lstOf (hp h md lf ns) (.ref (h.length + 2)) = some (ns.map ndP) := by simp only [lstOf, objOf, hp2]
theorem seal_hp {n : Nat} {g : PHeap} : sealH n (hp h md lf ns) (hp h md lf' ns' ++ g) = some (hp h md lf' ns') := by
  refine seal_gen (by rw [hp_len, hp_len]) fun k o e => ?_
  by_cases k1 : k < h.length
  · left
    unfold hp at e ⊢
    rw [List.getElem?_append_left k1] at e ⊢; exact e
  · by_cases k2 : k = h.length
    · subst k2; left; rw [hp0] at e ⊢; exact e
    · by_cases k3 : k = h.length + 1
      · subst k3; right; rw [hp1] at e; cases e; exact strs_cl _
      · have k4 := lt_of_get e
        rw [hp_len] at k4
        obtain rfl : k = h.length + 2 := by omega
        right; rw [hp2] at e; cases e; exact nds_cl _
theorem sl_hp {d : PV} {Q : PV → PHeap → Prop} (z : clV 0 d = true) (q : Q d (hp h md lf' ns')) : Seal (hp h md lf ns) d (hp h md lf' ns') Q := by
  have := seal_hp (n := (hp h md lf ns).length) (h := h) (md := md) (lf := lf) (ns := ns) (lf' := lf') (ns' := ns') (g := [])
  rw [List.append_nil] at this
  exact ⟨d, _, frz_cl (cl_up (Nat.zero_le _) d z), this, q⟩
end
theorem eqD_nil {h : PHeap} {v : PV} {xs : List PV} {d : PyData} (e : lstOf h v = some xs) (t : toD h 70 v = some d) (s : SeqAt.shaped d = true) : eqD h v (.fl []) = some xs.isEmpty := by
  have s0 : SeqAt.shaped (.list []) = true := by decide +kernel
  have e1 : eqD h v (.fl []) = some (PyData.eqv d (.list [])) := by
    unfold eqD
    rw [t, show toD h 70 (.fl []) = some (.list []) from rfl]
    exact if_pos ⟨s, s0⟩
  have e2 := eq_nil e
  unfold eqF at e2
  rw [e1] at e2 ⊢
  exact e2
theorem okO_ne_nil {h : PHeap} {v : PV} {xs : List PV} {d : PyData} {Q : Bool → Prop} (e : lstOf h v = some xs) (t : toD h 70 v = some d) (s : SeqAt.shaped d = true) (q : Q (!xs.isEmpty)) : OkO (cmpB .ne h v (.fl [])) Q :=
  okO_of (show (eqD h v (.fl [])).map _ = some (!xs.isEmpty) by rw [eqD_nil e t s]; rfl) q
theorem toD_lref {h : PHeap} {i : Nat} {α : Type} {g : α → PV} {k : α → PyData} {l : List α} (e : h[i]? = some (.lst (l.map g))) (t : ∀ a, toD h 69 (g a) = some (k a)) : toD h 70 (.ref i) = some (.list (l.map k)) := by
  show (match h[i]? with | some (.lst ds) => (mapO (toD h 69) ds).map PyData.list | _ => none) = _
  rw [e]
  dsimp only
  rw [mapO_map t]; rfl
theorem sh_strs {l : List Str} (hl : ∀ s ∈ l, s ∈ lab6) : SeqAt.shaped (.list (l.map PyData.str)) = true :=
  sh_lst (fun s hs => by simp only [PyData.canLay0]; exact lab_ok (hl s hs)) fun s _ => by simp [PyData.depth]
theorem lay_nd {p : Nd} (h : p.1 ∈ lab6) : (ndD p).canLay0 = true := by
  have := lab_ok h
  simp [ndD, PyData.canLay0, PyData.canLayAll0, this]
theorem dep_nd (p : Nd) : (ndD p).depth ≤ 20 := by simp [ndD, PyData.depth, PyData.depthAll]
theorem sh_nds {l : List Nd} (hl : ∀ p ∈ l, p.1 ∈ lab6) : SeqAt.shaped (.list (l.map ndD)) = true := sh_lst (fun p hp => lay_nd (hl p hp)) fun p _ => dep_nd p
theorem sh_ndt {l : List Nd} (hl : ∀ p ∈ l, p.1 ∈ lab6) : SeqAt.shaped (.tuple (l.map ndD)) = true := sh_tup (fun p hp => lay_nd (hl p hp)) fun p _ => dep_nd p
theorem t_take : TB 79 = some f_Tracker_take := rfl
theorem ok_take {n : Nat} {h : PHeap} {md : Str} {lf : List Str} {ns : List Nd} {e : Ev} (hm : PyData.strOk md = true) (oe : okV e) (ol : ∀ s ∈ lf, s ∈ lab6) (on : ∀ p ∈ ns, p.1 ∈ lab6) (l1 : lf.length < 900) (l2 : ns.length < 900) :
    Ok (cl (n + 2) 79 [.ref h.length, evP e] (hp h md lf ns)) fun d h' => ∃ (b : Bool) (lf' : List Str) (ns' : List Nd), d = .bl b ∧ h' = hp h md lf' ns' ∧ (b = true → stp (md == "named") (lf, ns) e = some (lf', ns')) ∧ (b = false → stp (md == "named") (lf, ns) e = none) ∧
      (∀ s ∈ lf', s ∈ lab6) ∧ (∀ p ∈ ns', p.1 ∈ lab6) ∧ lf'.length ≤ lf.length + 1 ∧ ns'.length ≤ ns.length + 1 := by
  refine (f_call t_take rfl rfl).mpr ?_
  (unfold f_Tracker_take; dsimp only [List.map, List.append, HAppend.hAppend, Append.append, List.replicate, Nat.reduceSub])
  generalize hmm : (md == ("named" : Str)) = m
  have same : ∀ {b : Bool}, b = false → stp m (lf, ns) e = none → Seal (hp h md lf ns) (.bl b) (hp h md lf ns) fun d h' => ∃ (b : Bool) (lf' : List Str) (ns' : List Nd), d = .bl b ∧ h' = hp h md lf' ns' ∧ (b = true → stp m (lf, ns) e = some (lf', ns')) ∧ (b = false → stp m (lf, ns) e = none) ∧
      (∀ s ∈ lf', s ∈ lab6) ∧ (∀ p ∈ ns', p.1 ∈ lab6) ∧ lf'.length ≤ lf.length + 1 ∧ ns'.length ≤ ns.length + 1 := by
    rintro _ rfl k
    exact sl_hp rfl ⟨false, lf, ns, rfl, rfl, (fun z => nomatch z), (fun _ => k), ol, on, by omega, by omega⟩
  rcases Classical.em (∃ s, e = .op s) with ⟨s, rfl⟩ | ne
  · have good : ∀ {b : Bool}, b = true → ¬ (lf = [] ∧ ns ≠ []) → Seal (hp h md lf ns) (.bl b) (hp h md (lf ++ [s]) (ns ++ [(s, lf.length + 1)])) fun d h' => ∃ (b : Bool) (lf' : List Str) (ns' : List Nd), d = .bl b ∧ h' = hp h md lf' ns' ∧ (b = true → stp m (lf, ns) (.op s) = some (lf', ns')) ∧ (b = false → stp m (lf, ns) (.op s) = none) ∧
        (∀ s ∈ lf', s ∈ lab6) ∧ (∀ p ∈ ns', p.1 ∈ lab6) ∧ lf'.length ≤ lf.length + 1 ∧ ns'.length ≤ ns.length + 1 := by
      rintro _ rfl k
      refine sl_hp rfl ⟨true, _, _, rfl, rfl, (fun _ => by rw [stp_op, if_neg k]), (fun z => nomatch z), fun t ht => ?_, fun p hp => ?_, by simp, by simp⟩
      · rcases List.mem_append.mp ht with q | q
        · exact ol t q
        · cases List.mem_singleton.mp q; exact oe
      · rcases List.mem_append.mp hp with q | q
        · exact on p q
        · cases List.mem_singleton.mp q; exact oe
    have rest : ¬ (lf = [] ∧ ns ≠ []) → OkS (exSs ⟨cl (n + 1), CT⟩ (.cons (.ex (.meth .append (.attr (.loc 0) 54) (.cons (.sub (.loc 1) (.con (.int 1))) .nil)))
        (.cons (.ex (.meth .append (.attr (.loc 0) 53) (.cons (.tup (.cons (.sub (.loc 1) (.con (.int 1))) (.cons (.blt .len (.cons (.attr (.loc 0) 54) .nil)) .nil))) .nil)))
        (.cons (.ret (.con (.bl true))) .nil))) [some (.ref h.length), some (.tup [.str "open", .str s])] (hp h md lf ns)) (fun _ _ => False) fun d h1 => Seal (hp h md lf ns) d h1 fun d h' => ∃ (b : Bool) (lf' : List Str) (ns' : List Nd), d = .bl b ∧ h' = hp h md lf' ns' ∧ (b = true → stp m (lf, ns) (.op s) = some (lf', ns')) ∧ (b = false → stp m (lf, ns) (.op s) = none) ∧
        (∀ s ∈ lf', s ∈ lab6) ∧ (∀ p ∈ ns', p.1 ∈ lab6) ∧ lf'.length ≤ lf.length + 1 ∧ ns'.length ≤ ns.length + 1 := by
      intro k
      walk_at "zw"
      refine at54 ?_
      refine ⟨rcv_lst hp1, ?_⟩
      walk_at "zw"
      refine okP_app hp1 (by rw [List.length_map]; omega) ?_
      rw [show lf.map PV.str ++ [PV.str s] = (lf ++ [s]).map PV.str by simp, hs1]
      walk_at "zw"
      refine at53 ?_
      refine ⟨rcv_lst hp2, ?_⟩
      walk_at "zw"
      refine at54 ?_
      walk_at "zw"
      refine okP_len hp1 ?_
      walk_at "zw"
      refine okP_app hp2 (by rw [List.length_map]; omega) ?_
      rw [show ns.map ndP ++ [PV.tup [PV.str s, PV.int ↑((lf ++ [s]).map PV.str).length]] = (ns ++ [(s, lf.length + 1)]).map ndP by simp [ndP], hs2]
      walk_at "zw"
      exact good rfl k
    rw [show evP (.op s) = .tup [.str "open", .str s] from rfl]
    walk_at "zw"
    refine at54 ?_
    walk_at "zw"
    refine okO_eq_nil lo1 ?_
    walk_at "zw"
    refine ⟨fun k => ?_, fun k => ?_⟩
    · have k : lf = [] := by cases lf; rfl; cases k
      refine w_cmp.mpr (w_attr.mpr (x_loc rfl (at53 ?_)))
      walk_at "zw"
      refine okO_ne_nil lo2 (toD_lref hp2 fun p => (show toD _ 69 (ndP p) = some (ndD p) from rfl)) (sh_nds on) ?_
      walk_at "zw"
      refine ⟨fun k2 => ?_, fun k2 => ?_⟩
      · walk_at "zw"
        exact same rfl (by rw [k]; exact stp_done fun z => by rw [z] at k2; cases k2)
      · have k2 : ns = [] := by cases ns; rfl; cases k2
        refine s_nil.mpr ?_
        exact (rest fun z => z.2 k2).mono (fun _ _ z => z.elim) fun _ _ z => z
    · have k : lf ≠ [] := fun z => by subst z; cases k
      rename_i k0
      rw [k0]
      refine okO_bl ?_
      refine br_f rfl ?_
      refine s_nil.mpr ?_
      exact (rest fun z => k z.1).mono (fun _ _ z => z.elim) fun _ _ z => z
  · have ne : ∀ t, e ≠ .op t := fun t z => ne ⟨t, z⟩
    have hg : ∀ h', getF (evP e) (.int 0) h' = some (.str "close") := by
      intro h'
      cases e with
      | op t => exact absurd rfl (ne t)
      | _ => rfl
    walk_at "zw"
    refine okO_of (hg _) ?_
    walk_at "zw"
    refine at54 ?_
    walk_at "zw"
    refine okO_ne_nil lo1 (toD_lref hp1 fun s => (show toD _ 69 (.str s) = some (.str s) from rfl)) (sh_strs ol) ?_
    walk_at "zw"
    refine ⟨fun k => ?_, fun k => ?_⟩
    · rcases List.eq_nil_or_concat lf with z | ⟨lr, s, z⟩
      · subst z; cases k
      · rw [List.concat_eq_append] at z
        subst z
        refine w_cmp.mpr (w_call.mpr (w_cons.mpr (w_pop.mpr (w_attr.mpr (x_loc rfl (at54 ?_))))))
        refine okP_pop (xs := lr.map PV.str) (y := .str s) (by rw [hp1, List.map_append]; rfl) ?_
        rw [hs1]
        walk_at "zw"
        refine at77 ?_
        walk_at "zw"
        refine (ok_close_of (n := n) hm).mono fun d h1 ⟨e1, e2⟩ => ?_
        subst e1; subst e2
        rw [hmm]
        walk_at "zw"
        refine okO_eqev (okV_cof (ol s (by simp))) oe ?_
        refine sl_hp rfl ⟨decide (cof m s = e), lr, ns, rfl, rfl, fun z => ?_, fun z => ?_, (fun t ht => ol t (List.mem_append_left _ ht)), on, by rw [List.length_append]; omega, by omega⟩
        · rw [stp_close ne, if_pos (of_decide_eq_true z)]
        · rw [stp_close ne, if_neg (of_decide_eq_false z)]
    · have k : lf = [] := by cases lf; rfl; cases k
      rename_i k0
      rw [k0]
      exact same rfl (by rw [k]; exact stp_nil ne)
end Law
end Zed
end
section
set_option Elab.async false
set_option linter.all false
set_option maxRecDepth 100000
set_option maxHeartbeats 1000000
set_option exponentiation.threshold 10000
/-! D04g: tracked, nodes_of, is_beginning, is_complete. -/
namespace Zed
namespace Law
open PySem L2
theorem okO_fld {h : PHeap} {i c f : Nat} {fs : List (Nat × PV)} {v : PV} {Q : PHeap → Prop} (e : h[i]? = some (.ins c fs)) (ow : ownF CT c f = true) (hl : fs.length < 900) (q : Q (h.set i (.ins c (setFl fs f v)))) : OkO (fldF CT (.ref i) f v h) Q := by
  refine okO_of ?_ q
  simp only [fldF, e]
  rw [ow, Bool.true_and, if_pos (decide_eq_true hl)]
theorem t_tinit : TB 49 = some f_Tracker___init__ := rfl
theorem t_tracked : TB 52 = some f_tracked := rfl
theorem t_nodes_of : TB 56 = some f_nodes_of := rfl
theorem ok_tinit {n : Nat} {h : PHeap} {md : Str} : Ok (cl (n + 1) 49 [.ref h.length, .str md] (h ++ [.ins 48 []])) fun d h' => d = .non ∧ h' = hp h md [] [] := by
  obtain ⟨g, hg⟩ : ∃ g : PHeap, g = h ++ [.ins 48 []] := ⟨_, rfl⟩
  rw [← hg]
  refine (f_open t_tinit rfl rfl).mpr ?_
  (unfold f_Tracker___init__; dsimp only [List.map, List.append, HAppend.hAppend, Append.append, List.replicate, Nat.reduceSub])
  subst hg
  walk_at "zw"
  refine okO_fld get_new rfl (by decide) ?_
  rw [set_new]
  walk_at "zw"
  refine okO_fld (i := h.length) (c := 48) (fs := [(77, .str md)]) (by rw [List.append_assoc]; exact g0) rfl (by simp) ?_
  rw [List.append_assoc]
  refine (show _ from ?_)
  rw [show [PObj.ins 48 (setFl [] 77 (.str md))] ++ [PObj.lst []] = [PObj.ins 48 (setFl [] 77 (.str md)), PObj.lst []] from rfl, s0]
  walk_at "zw"
  refine okO_fld (i := h.length) (c := 48) (fs := [(77, .str md), (54, .ref (h.length + 1))]) ?_ rfl (by simp) ?_
  · rw [List.append_assoc, List.getElem?_append_right (Nat.le_refl _), Nat.sub_self, List.length_append]; rfl
  refine s_nil.mpr ⟨rfl, ?_⟩
  rw [List.append_assoc, List.set_append_right _ _ (Nat.le_refl _), Nat.sub_self, List.length_append]
  simp [hp, tins, setFl]
theorem bools_map : ∀ bs : List Bool, bools (bs.map PV.bl) = some bs
  | [] => rfl
  | b :: r => by simp only [List.map, bools, bools_map r]; rfl
theorem okP_allF {h : PHeap} {bs : List Bool} {Q : PV → PHeap → Prop} (q : Q (.bl (bs.all id)) h) : OkP (bltF .all [.fl (bs.map PV.bl)] h) Q := by
  refine okP_of ?_ q
  unfold bltF
  simp only [lstOf, objOf, bools_map]; rfl
theorem stp_ev {m : Bool} {e : Ev} {st st2 : Stt} (h : stp m st e = some st2) : isEv m e = true := by
  obtain ⟨l, ns⟩ := st
  cases e with
  | op s => rfl
  | _ =>
    rcases List.eq_nil_or_concat l with z | ⟨l1, t, z⟩
    · subst z; cases h
    · rw [List.concat_eq_append] at z
      subst z
      unfold stp at h
      simp only [List.getLast?_append, List.getLast?_singleton] at h
      cases m <;> simp [cof, isEv] at h ⊢
theorem run_ev {m : Bool} : ∀ {ev : List Ev} {st st2 : Stt}, runE m ev st = some st2 → (ev.map (isEv m)).all id = true
  | [], _, _, _ => rfl
  | e :: r, st, st2, h => by
    have h : (stp m st e).bind (runE m r) = some st2 := h
    cases z : stp m st e with
    | none => rw [z] at h; cases h
    | some s1 =>
      rw [z] at h
      simp only [List.map, List.all_cons, stp_ev z, run_ev h]; rfl
/-- the tracker that is told -/
def trkP (md : Str) (lf : List Str) (ns : List Nd) : PV := .fz (.ins 48 [(77, .str md), (54, .fl (lf.map PV.str)), (53, .fl (ns.map ndP))])
def trkO (md : Str) (ev : List Ev) : PV := match runE (md == "named") ev ([], []) with
  | some (lf, ns) => trkP md lf ns
  | none => .non
theorem sl_trk {h : PHeap} {md : Str} {lf : List Str} {ns : List Nd} {Q : PV → PHeap → Prop} (q : Q (trkP md lf ns) h) : Seal h (.ref h.length) (hp h md lf ns) Q := by
  refine ⟨trkP md lf ns, h, ?_, seal_app' h _, q⟩
  unfold frzV
  rw [if_neg (by simp only [clV, decide_eq_true_eq]; omega)]
  dsimp only
  rw [hp0]
  have f1 := frz_lst' (k := 4) (hp1 (h := h) (md := md) (lf := lf) (ns := ns)) (n := h.length) (by omega) (strs_cl lf)
  have f2 := frz_lst' (k := 4) (hp2 (h := h) (md := md) (lf := lf) (ns := ns)) (n := h.length) (by omega) (nds_cl ns)
  have f3 : frzV (hp h md lf ns) h.length 5 (.str md) = some (.str md) := frz_cl rfl
  simp only [frzO, mapO, f1, f2, f3]
  rfl
theorem ok_tracked {n : Nat} {h : PHeap} {md : Str} {ev : List Ev} (hm : PyData.strOk md = true) (hl : ev.length ≤ 100) (ho : ∀ e ∈ ev, okV e) :
    Ok (cl (n + 3) 52 [.tup (ev.map evP), .str md] h) fun d h' => d = trkO md ev ∧ h' = h := by
  refine (f_call t_tracked rfl rfl).mpr ?_
  (unfold f_tracked; dsimp only [List.map, List.append, HAppend.hAppend, Append.append, List.replicate, Nat.reduceSub])
  generalize hmm : (md == ("named" : Str)) = m
  walk_at "zw"
  refine (ok_tinit (n := n + 1) (h := h) (md := md)).mono fun d h1 ⟨e1, e2⟩ => ?_
  subst e1; subst e2
  refine ⟨rfl, ?_⟩
  walk_at "zw"
  have L1 : Ok (lcLoop (.nm 3) (.seq (ev.map evP)) (evT1 ⟨cl (n + 2), CT⟩ .no) (evE ⟨cl (n + 2), CT⟩ (.call 50 (.cons (.loc 3) (.cons (.loc 1) .nil)))) [some (.tup (ev.map evP)), some (.str md), some (.ref h.length), none] ((ev.map evP).length + 1) 0 [] (hp h md [] [])) fun acc h' => acc = (ev.map (isEv m)).map PV.bl ∧ h' = hp h md [] [] := by
    have z := ok_lc (tg := .nm 3) (src := .seq (ev.map evP)) (tt := evT1 ⟨cl (n + 2), CT⟩ .no) (el := evE ⟨cl (n + 2), CT⟩ (.call 50 (.cons (.loc 3) (.cons (.loc 1) .nil)))) (lw := [some (.tup (ev.map evP)), some (.str md), some (.ref h.length), none]) (X := NoX) (ds := ev.map evP)
      (fun i acc h' => acc = ((ev.take i).map (isEv m)).map PV.bl ∧ h' = hp h md [] []) (by rw [List.length_map]; omega) (fun i acc h' _ => rfl) (fun q d acc h' hd p => by
        obtain ⟨rfl, rfl⟩ := p
        rw [List.getElem?_map] at hd
        cases hs : ev[q]? with
        | none => rw [hs] at hd; cases hd
        | some e =>
          rw [hs] at hd
          cases hd
          walk_at "zw"
          refine ⟨fun z => (nomatch z), fun _ => ?_⟩
          walk_at "zw"
          refine (ok_is_event (n := n) hm (ho e (List.mem_of_getElem? hs))).mono fun d h1 ⟨e1, e2⟩ => ?_
          subst e1; subst e2
          refine ⟨?_, rfl⟩
          rw [List.take_succ, hs, hmm]
          simp) ((ev.map evP).length + 1) 0 [] (hp h md [] []) (by omega) (Nat.zero_le _) (Nat.le_refl _) ⟨rfl, rfl⟩
    refine z.mono fun acc h' p => ?_
    rw [List.length_map, List.take_length] at p
    exact p
  refine L1.mono fun acc h1 ⟨e1, e2⟩ => ?_
  subst e1; subst e2
  refine okP_allF ?_
  walk_at "zw"
  have tO : ∀ {st}, runE m ev ([], []) = st → trkO md ev = (match st with | some (lf, ns) => trkP md lf ns | none => .non) := fun {st} e => by unfold trkO; rw [hmm, e]
  refine ⟨fun k => ?_, fun k => ?_⟩
  · have k : ((ev.map (isEv m)).all id) = false := by simpa using k
    have bad : runE m ev ([], []) = none := by
      cases z : runE m ev ([], []) with
      | none => rfl
      | some st => rw [run_ev z] at k; cases k
    walk_at "zw"
    exact sl_app rfl ⟨by rw [tO bad], rfl⟩
  · refine s_nil.mpr ?_
    walk_at "zw"
    have L2 : Ok (lcLoop (.nm 3) (.seq (ev.map evP)) (evT1 ⟨cl (n + 2), CT⟩ .no) (evE ⟨cl (n + 2), CT⟩ (.mcl 51 (.loc 2) (.cons (.loc 3) .nil))) [some (.tup (ev.map evP)), some (.str md), some (.ref h.length), none] ((ev.map evP).length + 1) 0 [] (hp h md [] []))
        fun acc h' => ∃ bs lf ns, acc = List.map PV.bl bs ∧ h' = hp h md lf ns ∧ (bs.all id = true → runE m ev ([], []) = some (lf, ns)) ∧ (bs.all id = false → runE m ev ([], []) = none) := by
      have z := ok_lc (tg := .nm 3) (src := .seq (ev.map evP)) (tt := evT1 ⟨cl (n + 2), CT⟩ .no) (el := evE ⟨cl (n + 2), CT⟩ (.mcl 51 (.loc 2) (.cons (.loc 3) .nil))) (lw := [some (.tup (ev.map evP)), some (.str md), some (.ref h.length), none]) (X := NoX) (ds := ev.map evP)
        (fun i acc h' => ∃ bs lf ns, acc = List.map PV.bl bs ∧ h' = hp h md lf ns ∧ (bs.all id = true → runE m (ev.take i) ([], []) = some (lf, ns)) ∧ (bs.all id = false → runE m ev ([], []) = none) ∧ (∀ s ∈ lf, s ∈ lab6) ∧ (∀ p ∈ ns, p.1 ∈ lab6) ∧ lf.length ≤ i ∧ ns.length ≤ i)
        (by rw [List.length_map]; omega) (fun i acc h' _ => rfl) (fun q d acc h' hd p => by
          obtain ⟨bs, lf, ns, rfl, rfl, p1, p2, p3, p4, p5, p6⟩ := p
          rw [List.getElem?_map] at hd
          cases hs : ev[q]? with
          | none => rw [hs] at hd; cases hd
          | some e =>
            rw [hs] at hd
            cases hd
            have ql := (List.getElem?_eq_some_iff.mp hs).1
            walk_at "zw"
            refine ⟨fun z => (nomatch z), fun _ => ?_⟩
            walk_at "zw"
            refine okO_of (show mthF CT (hp h md lf ns) (.ref h.length) 51 = some 79 by simp only [mthF, objOf, hp0]; rfl) ?_
            walk_at "zw"
            refine (ok_take (n := n) hm (ho e (List.mem_of_getElem? hs)) p3 p4 (by omega) (by omega)).mono fun d h1 ⟨b, lf', ns', e1, e2, q1, q2, q3, q4, q5, q6⟩ => ?_
            subst e1; subst e2
            rw [hmm] at q1 q2
            refine ⟨bs ++ [b], lf', ns', by simp, rfl, fun z => ?_, fun z => ?_, q3, q4, by omega, by omega⟩
            · simp only [List.all_append, List.all_cons, List.all_nil, Bool.and_true, Bool.and_eq_true, id] at z
              exact run_snoc (p1 z.1) hs (q1 z.2)
            · by_cases y : bs.all id = true
              · have y2 : b = false := by
                  simp only [List.all_append, y, Bool.true_and, List.all_cons, List.all_nil, Bool.and_true] at z
                  exact z
                exact run_bad (p1 y) hs (q2 y2)
              · exact p2 (by simpa using y)) ((ev.map evP).length + 1) 0 [] (hp h md [] []) (by omega) (Nat.zero_le _) (Nat.le_refl _) ⟨[], [], [], rfl, rfl, (fun _ => rfl), (fun z => nomatch z), (fun _ z => nomatch z), (fun _ z => nomatch z), Nat.le_refl _, Nat.le_refl _⟩
      refine z.mono fun acc h' ⟨bs, lf, ns, e1, e2, q1, q2, _⟩ => ?_
      rw [List.length_map, List.take_length] at q1
      exact ⟨bs, lf, ns, e1, e2, q1, q2⟩
    refine L2.mono fun acc h1 ⟨bs, lf, ns, e1, e2, q1, q2⟩ => ?_
    subst e1; subst e2
    refine okP_allF ?_
    walk_at "zw"
    refine ⟨fun k => ?_, fun k => ?_⟩
    · walk_at "zw"
      exact sl_trk ⟨by rw [tO (q1 k)], rfl⟩
    · walk_at "zw"
      refine sl_app rfl ⟨by rw [tO (q2 k)], rfl⟩
end Law
end Zed
end
section
set_option Elab.async false
set_option linter.all false
set_option maxRecDepth 100000
set_option maxHeartbeats 1000000
set_option exponentiation.threshold 10000
/-! D04h: nodes_of, is_beginning, is_complete, completed. -/
namespace Zed
namespace Law
open PySem L2
theorem t_is_beginning : TB 62 = some f_is_beginning := rfl
theorem t_is_complete : TB 61 = some f_is_complete := rfl
theorem t_completed : TB 63 = some f_completed := rfl
theorem trkO_none {md : Str} {ev : List Ev} (e : runE (md == "named") ev ([], []) = none) : trkO md ev = .non := by unfold trkO; rw [e]
theorem trkO_some {md : Str} {ev : List Ev} {lf : List Str} {ns : List Nd} (e : runE (md == "named") ev ([], []) = some (lf, ns)) : trkO md ev = trkP md lf ns := by unfold trkO; rw [e]
theorem trkO_cl {md : Str} {ev : List Ev} : clV 0 (trkO md ev) = true := by
  unfold trkO
  cases runE (md == "named") ev ([], []) with
  | none => rfl
  | some st =>
    obtain ⟨lf, ns⟩ := st
    simp only [trkP, clV, clO, clFs, strs_cl, nds_cl]; rfl
theorem a54 {h : PHeap} {md : Str} {lf : List Str} {ns : List Nd} {Q : PV → PHeap → Prop} (q : Q (.fl (lf.map PV.str)) h) : OkP (attrF CT 54 [trkP md lf ns] h) Q := okP_of rfl q
theorem a53 {h : PHeap} {md : Str} {lf : List Str} {ns : List Nd} {Q : PV → PHeap → Prop} (q : Q (.fl (ns.map ndP)) h) : OkP (attrF CT 53 [trkP md lf ns] h) Q := okP_of rfl q
theorem toD_fl {h : PHeap} {α : Type} {g : α → PV} {k : α → PyData} {l : List α} (t : ∀ a, toD h 69 (g a) = some (k a)) : toD h 70 (.fl (l.map g)) = some (.list (l.map k)) := by
  show (mapO (toD h 69) (l.map g)).map PyData.list = _
  rw [mapO_map t]; rfl
/-- what nodes_of tells -/
def nodO (md : Str) (ev : List Ev) : PV := match runE (md == "named") ev ([], []) with
  | some (lf, ns) => if lf = [] ∧ ns ≠ [] then .tup (ns.map ndP) else .non
  | none => .non
theorem ok_nodes_of {n : Nat} {h : PHeap} {md : Str} {ev : List Ev} (hm : PyData.strOk md = true) (hl : ev.length ≤ 100) (ho : ∀ e ∈ ev, okV e) :
    Ok (cl (n + 4) 56 [.tup (ev.map evP), .str md] h) fun d h' => d = nodO md ev ∧ h' = h := by
  refine (f_call t_nodes_of rfl rfl).mpr ?_
  (unfold f_nodes_of; dsimp only [List.map, List.append, HAppend.hAppend, Append.append, List.replicate, Nat.reduceSub])
  walk_at "zw"
  refine (ok_tracked (n := n) hm hl ho).mono fun d h1 ⟨e1, e2⟩ => ?_
  subst e1; subst e2
  cases er : runE (md == "named") ev ([], []) with
  | none =>
    have e0 : nodO md ev = .non := by unfold nodO; rw [er]
    rw [trkO_none er]
    walk_at "zw"
    exact sl_same rfl ⟨e0.symm, rfl⟩
  | some st =>
    obtain ⟨lf, ns⟩ := st
    have e0 : nodO md ev = if lf = [] ∧ ns ≠ [] then .tup (ns.map ndP) else .non := by unfold nodO; rw [er]
    have lb := (seen ev er).lb lab6 fun s hs => ho _ hs
    rw [trkO_some er]
    walk_at "zw"
    refine okO_ne_nil lstOf_fl (toD_fl fun s => (show toD _ 69 (.str s) = some (.str s) from rfl)) (sh_strs lb.2) ?_
    walk_at "zw"
    refine ⟨fun k => ?_, fun k => ?_⟩
    · have k1 : lf ≠ [] := fun z => by subst z; cases k
      rw [k]
      walk_at "zw"
      exact sl_same rfl ⟨by rw [e0, if_neg (fun z => k1 z.1)], rfl⟩
    · have k1 : lf = [] := by cases lf; rfl; cases k
      refine w_cmp.mpr (w_attr.mpr (x_loc rfl (a53 ?_)))
      walk_at "zw"
      refine ⟨fun k => ?_, fun k => ?_⟩
      · have k2 : ns = [] := by cases ns; rfl; cases k
        walk_at "zw"
        exact sl_same rfl ⟨by rw [e0, if_neg (fun z => z.2 k2)], rfl⟩
      · have k2 : ns ≠ [] := fun z => by subst z; cases k
        walk_at "zw"
        exact sl_same (by simp only [clV]; exact nds_cl _) ⟨by rw [e0, if_pos ⟨k1, k2⟩], rfl⟩
theorem ok_is_beginning {n : Nat} {h : PHeap} {md : Str} {ev : List Ev} (hm : md ∈ modes) (hl : ev.length ≤ 100) (ho : ∀ e ∈ ev, okV e) :
    Ok (cl (n + 4) 62 [.tup (ev.map evP), .str md] h) fun d h' => d = .bl (runE (md == "named") ev ([], [])).isSome ∧ h' = h := by
  refine (f_call t_is_beginning rfl rfl).mpr ?_
  (unfold f_is_beginning; dsimp only [List.map, List.append, HAppend.hAppend, Append.append, List.replicate, Nat.reduceSub])
  walk_at "zw"
  refine (ok_require_mode (n := n + 1) hm).mono fun d h1 e => ?_
  subst e
  walk_at "zw"
  refine (ok_tracked (n := n) (mode_ok hm) hl ho).mono fun d h1 ⟨e1, e2⟩ => ?_
  subst e1; subst e2
  cases er : runE (md == "named") ev ([], []) with
  | none =>
    rw [trkO_none er]
    walk_at "zw"
    exact sl_same rfl ⟨rfl, rfl⟩
  | some st =>
    obtain ⟨lf, ns⟩ := st
    rw [trkO_some er]
    walk_at "zw"
    exact sl_same rfl ⟨rfl, rfl⟩
/-- whole: the judge's second answer -/
def whl (m : Bool) (ev : List Ev) : Bool := match runE m ev ([], []) with
  | some (lf, ns) => decide (ns ≠ []) && lf.isEmpty
  | none => false
theorem nodO_isnot {h : PHeap} {md : Str} {ev : List Ev} : cmpB .isnot h (nodO md ev) .non = some (whl (md == "named") ev) := by
  unfold nodO whl
  cases runE (md == "named") ev ([], []) with
  | none => rfl
  | some st =>
    obtain ⟨lf, ns⟩ := st
    dsimp only
    cases lf <;> cases ns <;> rfl
theorem ok_is_complete {n : Nat} {h : PHeap} {md : Str} {ev : List Ev} (hm : md ∈ modes) (hl : ev.length ≤ 100) (ho : ∀ e ∈ ev, okV e) :
    Ok (cl (n + 5) 61 [.tup (ev.map evP), .str md] h) fun d h' => d = .bl (whl (md == "named") ev) ∧ h' = h := by
  refine (f_call t_is_complete rfl rfl).mpr ?_
  (unfold f_is_complete; dsimp only [List.map, List.append, HAppend.hAppend, Append.append, List.replicate, Nat.reduceSub])
  walk_at "zw"
  refine (ok_require_mode (n := n + 2) hm).mono fun d h1 e => ?_
  subst e
  walk_at "zw"
  refine (ok_nodes_of (n := n) (mode_ok hm) hl ho).mono fun d h1 ⟨e1, e2⟩ => ?_
  subst e1; subst e2
  walk_at "zw"
  refine okO_of nodO_isnot ?_
  exact sl_same rfl ⟨rfl, rfl⟩
theorem eqTup_nil : ∀ ds : List PV, eqTup ds [] = some ds.isEmpty
  | [] => rfl
  | _ :: _ => rfl
theorem slx {h : PHeap} {X : XP} {c : Nat} {g : PHeap} (x : X (.gl c) [] h) : SealX h X (.gl c) [] (h ++ g) := ⟨rfl, h, seal_app' h g, x⟩
theorem slx0 {h : PHeap} {X : XP} {c : Nat} (x : X (.gl c) [] h) : SealX h X (.gl c) [] h := by
  have := slx (g := []) x
  rwa [List.append_nil] at this
theorem ok_completed {n : Nat} {h : PHeap} {md : Str} {ev : List Ev} {X : XP} {Q : PV → PHeap → Prop} (hm : md ∈ modes) (hl : ev.length ≤ 100) (ho : ∀ e ∈ ev, okV e)
    (bad : runE (md == "named") ev ([], []) = none ∨ ev = [] ∨ 80 < ev.length → X (.gl 31) [] h)
    (good : ∀ lf ns, runE (md == "named") ev ([], []) = some (lf, ns) → ev ≠ [] → ev.length ≤ 80 → Q (.tup ((ev ++ lf.reverse.map (cof (md == "named"))).map evP)) h) :
    Okx X (cl (n + 4) 63 [.tup (ev.map evP), .str md] h) Q := by
  refine (f_callx t_completed rfl rfl).mpr ?_
  (unfold f_completed; dsimp only [List.map, List.append, HAppend.hAppend, Append.append, List.replicate, Nat.reduceSub])
  walk_at "zw"
  refine (ok_require_mode (n := n + 1) hm).mono fun d h1 e => ?_
  subst e
  walk_at "zw"
  refine (ok_tracked (n := n) (mode_ok hm) hl ho).mono fun d h1 ⟨e1, e2⟩ => ?_
  subst e1; subst e2
  walk_at "zw"
  cases er : runE (md == "named") ev ([], []) with
  | none =>
    rw [trkO_none er]
    walk_at "zw"
    exact slx0 (bad (.inl er))
  | some st =>
    obtain ⟨lf, ns⟩ := st
    rw [trkO_some er]
    refine okO_of (show cmpB .is h1 (trkP md lf ns) .non = some false from rfl) ?_
    walk_at "zw"
    refine okO_eqt (eqTup_nil _) ?_
    walk_at "zw"
    refine ⟨fun k => ?_, fun k => ?_⟩
    · have k1 : ev = [] := by cases ev; rfl; cases k
      rw [k]
      walk_at "zw"
      exact slx0 (bad (.inr (.inl k1)))
    · have k1 : ev ≠ [] := fun z => by subst z; cases k
      walk_at "zw"
      refine ⟨fun k => ?_, fun k => ?_⟩
      · have k := of_decide_eq_true k
        rw [List.length_map] at k
        walk_at "zw"
        exact slx0 (bad (.inr (.inr (by omega))))
      · have k := of_decide_eq_false k
        rw [List.length_map] at k
        have sn := (seen ev er)
        have lfl : lf.length ≤ 900 := by
          have := sn.le
          have e1 := evo_len (m := md == "named") (ns := ns) (st := ([], []))
          have e2 := sn.ct
          simp only [List.length_nil, Nat.zero_add] at e1
          omega
        walk_at "zw"
        rw [← List.map_reverse]
        refine Ok.mono (lc_close (n := n + 3) (K := 47) (md := md) (i := 3) (j := 1) (fun s h => ok_close_of (n := n + 2) (mode_ok hm)) (by rw [List.length_reverse]; exact lfl) (Nat.le_of_ble_eq_true rfl) rfl (by decide)) fun acc h2 ⟨e1, e2⟩ => ?_
        subst e1; subst e2
        walk_at "zw"
        rw [List.append_nil, ← List.map_append]
        refine ⟨line_of (by simp only [List.length_map, List.length_append, List.length_reverse]; omega), ?_⟩
        exact sl_same (by simp only [clV]; exact evs_cl _) (good lf ns er k1 (by omega))
end Law
end Zed
end
section
set_option Elab.async false
set_option linter.all false
set_option maxRecDepth 100000
set_option maxHeartbeats 1000000
set_option exponentiation.threshold 10000
/-! D04i: nodes are checked; ways, closings. -/
namespace Zed
namespace Law
open PySem L2
theorem t_is_node : TB 44 = some f_is_node := rfl
theorem t_are_depths : TB 43 = some f_are_depths := rfl
theorem t_checked : TB 72 = some f_checked := rfl
theorem t_ninit : TB 46 = some f_Nodes___init__ := rfl
theorem t_ways_in : TB 74 = some f_ways_in := rfl
theorem t_closings_in : TB 76 = some f_closings_in := rfl
theorem ok_is_node {n : Nat} {h : PHeap} {p : Nd} (hp : p.1 ∈ lab6) : Ok (cl (n + 2) 44 [ndP p] h) fun d h' => d = .bl true ∧ h' = h := by
  refine (f_call t_is_node rfl rfl).mpr ?_
  (unfold f_is_node; dsimp only [List.map, List.append, HAppend.hAppend, Append.append, List.replicate, Nat.reduceSub])
  unfold ndP
  walk_at "zw"
  refine (ok_is_name (n := n) hp).mono fun d h1 ⟨e1, e2⟩ => ?_
  subst e1; subst e2
  walk_at "zw"
  exact sl_same rfl ⟨rfl, rfl⟩
theorem chain_at : ∀ {ns : List Nd} {p : Nat} {i : Nat} {a b : Nd}, Chain p ns → ns[i]? = some a → ns[i + 1]? = some b → 2 ≤ b.2 ∧ b.2 ≤ a.2 + 1
  | [], _, _, _, _, _, h1, _ => by simp at h1
  | (s, d) :: r, p, 0, a, b, ⟨c1, c2, c3⟩, h1, h2 => by
    cases r with
    | nil => simp at h2
    | cons q r =>
      obtain ⟨t, e⟩ := q
      simp at h1 h2
      subst h1; subst h2
      exact ⟨c3.1, c3.2.1⟩
  | (s, d) :: r, p, i + 1, a, b, ⟨c1, c2, c3⟩, h1, h2 => chain_at c3 (by simpa using h1) (by simpa using h2)
theorem tree_at {ns : List Nd} {i : Nat} {a b : Nd} (t : Tree ns) (h1 : ns[i]? = some a) (h2 : ns[i + 1]? = some b) : 2 ≤ b.2 ∧ b.2 ≤ a.2 + 1 := by
  cases ns with
  | nil => exact t.elim
  | cons p r =>
    obtain ⟨s, d⟩ := p
    obtain ⟨rfl, c⟩ := t
    cases i with
    | zero =>
      cases r with
      | nil => simp at h2
      | cons q r =>
        obtain ⟨u, e⟩ := q
        simp at h1 h2
        subst h1; subst h2
        exact ⟨c.1, c.2.1⟩
    | succ i => exact chain_at c (by simpa using h1) (by simpa using h2)
theorem tree_ne {ns : List Nd} (t : Tree ns) : ns ≠ [] := fun z => by subst z; exact t
theorem chain_pos : ∀ {ns : List Nd} {p : Nat}, Chain p ns → ∀ q ∈ ns, 1 ≤ q.2
  | (s, d) :: r, p, ⟨c1, _, c3⟩, q, hq => by
    rcases List.mem_cons.mp hq with z | z
    · subst z; exact Nat.le_of_succ_le c1
    · exact chain_pos c3 q z
theorem tree_pos {ns : List Nd} (t : Tree ns) : ∀ q ∈ ns, 1 ≤ q.2 := by
  cases ns with
  | nil => exact t.elim
  | cons p r =>
    obtain ⟨s, d⟩ := p
    obtain ⟨rfl, c⟩ := t
    intro q hq
    rcases List.mem_cons.mp hq with z | z
    · subst z; exact Nat.le_refl _
    · exact chain_pos c q z
def dpP (p : Nd) : PV := .int p.2
theorem ok_are_depths {n : Nat} {h : PHeap} {ns : List Nd} (t : Tree ns) (hn : ns.length ≤ 40) : Ok (cl (n + 1) 43 [.fl (ns.map dpP)] h) fun d h' => d = .bl true ∧ h' = h := by
  refine (f_call t_are_depths rfl rfl).mpr ?_
  (unfold f_are_depths; dsimp only [List.map, List.append, HAppend.hAppend, Append.append, List.replicate, Nat.reduceSub])
  obtain ⟨s, r, e⟩ : ∃ s r, ns = (s, 1) :: r := by
    cases ns with
    | nil => exact t.elim
    | cons p r => obtain ⟨s, d⟩ := p; obtain ⟨rfl, c⟩ := t; exact ⟨s, r, rfl⟩
  have g0 : getF (.fl (ns.map dpP)) (.int 0) h = some (.int 1) := by
    rw [e]
    show atI (.int 1 :: r.map dpP) 0 = some (.int 1)
    simp [atI, ixN]
  walk_at "zw"
  refine okO_of g0 ?_
  walk_at "zw"
  rw [show cutP (ns.map dpP) (some 1) none = (ns.map dpP).drop 1 from cutP_nat (ds := ns.map dpP) (a := 1)]
  have z := ok_lc (tg := .tp (.cons (.nm 1) (.cons (.nm 2) .nil))) (src := .seq (List.zipWith (fun x y => .tup [x, y]) (ns.map dpP) ((ns.map dpP).drop 1))) (tt := evT1 ⟨cl n, CT⟩ .no) (el := evE ⟨cl n, CT⟩ (.chn .le .le (.con (.int 2)) (.loc 2) (.bin .add (.loc 1) (.con (.int 1))))) (lw := [some (.fl (ns.map dpP)), none, none]) (X := NoX) (ds := List.zipWith (fun x y => PV.tup [x, y]) (ns.map dpP) ((ns.map dpP).drop 1))
    (fun i acc h' => acc = List.map PV.bl (List.replicate i true) ∧ h' = h) (by rw [List.length_zipWith, List.length_map]; omega) (fun i acc h' _ => rfl) (fun q d acc h' hd p => by
      obtain ⟨rfl, rfl⟩ := p
      rw [List.getElem?_zipWith, List.getElem?_drop, List.getElem?_map, List.getElem?_map, Nat.add_comm 1 q] at hd
      cases h1 : ns[q]? with
      | none => rw [h1] at hd; simp at hd
      | some a =>
        cases h2 : ns[q + 1]? with
        | none => rw [h1, h2] at hd; simp at hd
        | some b =>
          rw [h1, h2] at hd
          have hd : PV.tup [.int a.2, .int b.2] = d := by simpa [dpP] using hd
          subst hd
          obtain ⟨k1, k2⟩ := tree_at t h1 h2
          walk_at "zw"
          refine ⟨fun z => (nomatch z), fun _ => ?_⟩
          walk_at "zw"
          have b1 : (2 : Int) ≤ (b.2 : Int) := by omega
          have b2 : (b.2 : Int) ≤ (a.2 : Int) + 1 := by omega
          refine br_t (decide_eq_true b1) ?_
          walk_at "zw"
          refine ⟨?_, rfl⟩
          rw [decide_eq_true b2, List.replicate_succ']
          simp) ((List.zipWith (fun x y => PV.tup [x, y]) (ns.map dpP) ((ns.map dpP).drop 1)).length + 1) 0 [] h (by omega) (Nat.zero_le _) (Nat.le_refl _) ⟨rfl, rfl⟩
  refine Ok.mono z fun acc h1 ⟨e1, e2⟩ => ?_
  subst e1; subst e2
  refine okP_allF ?_
  exact sl_same rfl ⟨by simp, rfl⟩
theorem ok_ninit {n : Nat} {h : PHeap} {v : PV} : Ok (cl (n + 1) 46 [.ref h.length, v] (h ++ [.ins 45 []])) fun d h' => d = .non ∧ h' = h ++ [.ins 45 [(53, v)]] := by
  obtain ⟨g, hg⟩ : ∃ g : PHeap, g = h ++ [.ins 45 []] := ⟨_, rfl⟩
  rw [← hg]
  refine (f_open t_ninit rfl rfl).mpr ?_
  (unfold f_Nodes___init__; dsimp only [List.map, List.append, HAppend.hAppend, Append.append, List.replicate, Nat.reduceSub])
  subst hg
  walk_at "zw"
  refine okO_fld get_new rfl (by decide) ?_
  rw [set_new]
  exact ⟨rfl, rfl⟩
theorem ok_checked {n : Nat} {h : PHeap} {ns : List Nd} (t : Tree ns) (hn : ns.length ≤ 40) (hl : ∀ p ∈ ns, p.1 ∈ lab6) : Ok (cl (n + 3) 72 [.tup (ns.map ndP)] h) fun d h' => d = .fz (.ins 45 [(53, .tup (ns.map ndP))]) ∧ h' = h := by
  refine (f_call t_checked rfl rfl).mpr ?_
  (unfold f_checked; dsimp only [List.map, List.append, HAppend.hAppend, Append.append, List.replicate, Nat.reduceSub])
  have n1 : (1 : Int) ≤ ((ns.map ndP).length : Int) := by
    rw [List.length_map]
    have := List.length_pos_iff.mpr (tree_ne t)
    omega
  have n2 : ((ns.map ndP).length : Int) ≤ 40 := by rw [List.length_map]; omega
  walk_at "zw"
  refine br_t (decide_eq_true n1) ?_
  walk_at "zw"
  rw [decide_eq_true n2]
  walk_at "zw"
  have L1 := ok_lc (tg := .nm 1) (src := .seq (ns.map ndP)) (tt := evT1 ⟨cl (n + 2), CT⟩ .no) (el := evE ⟨cl (n + 2), CT⟩ (.call 44 (.cons (.loc 1) .nil))) (lw := [some (.tup (ns.map ndP)), none, none, none]) (X := NoX) (ds := ns.map ndP)
    (fun i acc h' => acc = List.map PV.bl (List.replicate i true) ∧ h' = h) (by rw [List.length_map]; omega) (fun i acc h' _ => rfl) (fun q d acc h' hd p => by
      obtain ⟨rfl, rfl⟩ := p
      rw [List.getElem?_map] at hd
      cases hs : ns[q]? with
      | none => rw [hs] at hd; cases hd
      | some e =>
        rw [hs] at hd
        cases hd
        walk_at "zw"
        refine ⟨fun z => (nomatch z), fun _ => ?_⟩
        walk_at "zw"
        refine (ok_is_node (n := n) (hl e (List.mem_of_getElem? hs))).mono fun d h1 ⟨e1, e2⟩ => ?_
        subst e1; subst e2
        refine ⟨?_, rfl⟩
        rw [List.replicate_succ']
        simp) ((ns.map ndP).length + 1) 0 [] h (by omega) (Nat.zero_le _) (Nat.le_refl _) ⟨rfl, rfl⟩
  refine Ok.mono L1 fun acc h1 ⟨e1, e2⟩ => ?_
  subst e1; subst e2
  refine okP_allF ?_
  rw [show (List.replicate (ns.map ndP).length true).all id = true by simp]
  walk_at "zw"
  have L2 := ok_lc (tg := .tp (.cons (.nm 2) (.cons (.nm 3) .nil))) (src := .seq (ns.map ndP)) (tt := evT1 ⟨cl (n + 2), CT⟩ .no) (el := evE ⟨cl (n + 2), CT⟩ (.loc 3)) (lw := [some (.tup (ns.map ndP)), none, none, none]) (X := NoX) (ds := ns.map ndP)
    (fun i acc h' => acc = (ns.take i).map dpP ∧ h' = h1) (by rw [List.length_map]; omega) (fun i acc h' _ => rfl) (fun q d acc h' hd p => by
      obtain ⟨rfl, rfl⟩ := p
      rw [List.getElem?_map] at hd
      cases hs : ns[q]? with
      | none => rw [hs] at hd; cases hd
      | some e =>
        rw [hs] at hd
        cases hd
        unfold ndP
        walk_at "zw"
        refine ⟨fun z => (nomatch z), fun _ => ?_⟩
        walk_at "zw"
        refine ⟨?_, rfl⟩
        rw [List.take_succ, hs]
        simp [dpP]) ((ns.map ndP).length + 1) 0 [] h1 (by omega) (Nat.zero_le _) (Nat.le_refl _) ⟨rfl, rfl⟩
  refine Ok.mono L2 fun acc h2 ⟨e1, e2⟩ => ?_
  rw [List.length_map, List.take_length] at e1
  subst e1; subst e2
  refine (ok_are_depths (n := n + 1) t hn).mono fun d h1 ⟨e1, e2⟩ => ?_
  subst e1; subst e2
  walk_at "zw"
  refine (ok_ninit (n := n + 1)).mono fun d h1' ⟨e1, e2⟩ => ?_
  subst e1; subst e2
  refine ⟨rfl, ?_⟩
  have cn : clV h1.length (.tup (ns.map ndP)) = true := by simp only [clV]; exact nds_cl _
  refine ⟨.fz (.ins 45 [(53, .tup (ns.map ndP))]), h1, ?_, seal_app' h1 _, rfl, rfl⟩
  unfold frzV
  rw [if_neg (by simp only [clV, decide_eq_true_eq]; omega)]
  dsimp only
  rw [get_new]
  simp only [frzO, mapO, frz_cl cn]
  rfl
end Law
end Zed
end
section
set_option Elab.async false
set_option linter.all false
set_option maxRecDepth 100000
set_option maxHeartbeats 1000000
set_option exponentiation.threshold 10000
/-! D04j: ways, closings, documents. -/
namespace Zed
namespace Law
open PySem L2
theorem cls_app {n : Nat} : ∀ {a b : List PV}, clVs n a = true → clVs n b = true → clVs n (a ++ b) = true
  | [], _, _, h => h
  | x :: a, b, h1, h2 => by
    simp only [clVs, Bool.and_eq_true] at h1
    simp only [List.cons_append, clVs, h1.1, cls_app h1.2 h2]; rfl
theorem ints_cl {n : Nat} : ∀ l : List Int, clVs n (l.map PV.int) = true
  | [] => rfl
  | s :: r => by simp only [List.map, clVs, clV, ints_cl r]; rfl
theorem ok_ways_in {n : Nat} {h : PHeap} {ns : List Nd} (hn : ns.length ≤ 40) (hd : ∀ p ∈ ns, 1 ≤ p.2) : Ok (cl (n + 1) 74 [.tup (ns.map ndP)] h) fun d h' => h' = h ∧ ∃ ws, d = .fl ws ∧ clVs 0 ws = true ∧ ws.length ≤ 100 := by
  refine (f_call t_ways_in rfl rfl).mpr ?_
  (unfold f_ways_in; dsimp only [List.map, List.append, HAppend.hAppend, Append.append, List.replicate, Nat.reduceSub])
  walk_at "zw"
  refine ok_for (ds := ns.map ndP) (fun i l h' => ∃ w ws x3 x4, l = [some (.tup (ns.map ndP)), some (.ref h.length), some (.tup (List.map PV.str w)), x3, x4] ∧ h' = h ++ [.lst ws] ∧ clVs 0 ws = true ∧ ws.length = i ∧ w.length ≤ i)
    (fun i l h' _ => rfl) (fun i d l h' hd1 ⟨w, ws, x3, x4, el, eh, c, e1, e2⟩ => ?_) (fun l h' ⟨w, ws, x3, x4, el, eh, c, e1, e2⟩ => ?_) _ 0 _ _ (by show (ns.map ndP).length + 1 + 0 = _; rfl) (Nat.zero_le _) ⟨[], [], _, _, rfl, rfl, rfl, rfl, Nat.le_refl _⟩
  · rw [List.getElem?_map] at hd1
    cases hp : ns[i]? with
    | none => rw [hp] at hd1; cases hd1
    | some p =>
      obtain ⟨s, d0⟩ := p
      rw [hp] at hd1
      cases hd1
      have hil : i < ns.length := (List.getElem?_eq_some_iff.mp hp).1
      have d1 : 1 ≤ d0 := hd (s, d0) (List.mem_of_getElem? hp)
      subst el; subst eh
      unfold ndP
      walk_at "zw"
      dsimp only [List.set]
      walk_at "zw"
      rw [show ((d0 : Int) - 1) = ((d0 - 1 : Nat) : Int) by omega]
      refine okP_slcT ?_
      rw [cutP_upto, ← List.map_take]
      walk_at "zw"
      have lw : (w.take (d0 - 1)).length ≤ i := by rw [List.length_take]; omega
      refine ⟨line_of (by simp only [List.length_map, List.length_append, List.length_cons, List.length_nil]; omega), ?_⟩
      walk_at "zw"
      refine ⟨rcv_lst get_new, ?_⟩
      walk_at "zw"
      refine okP_app get_new (by omega) ?_
      rw [set_new]
      walk_at "zw"
      refine ⟨w.take (d0 - 1) ++ [s], _, some (.str s), some (.int d0), by simp [ndP], rfl, cls_app c ?_, by simp [e1], by simp only [List.length_append, List.length_cons, List.length_nil]; omega⟩
      simp only [clVs, clV, cls_app (strs_cl (w.take (d0 - 1))) (show clVs 0 [PV.str s] = true from rfl)]; rfl
  · subst el; subst eh
    walk_at "zw"
    exact sl_lst rfl get_new (Nat.le_refl _) c ⟨rfl, ws, rfl, c, by rw [e1, List.length_map]; omega⟩
theorem ok_closings_in {n : Nat} {h : PHeap} {ns : List Nd} (hn : ns.length ≤ 40) (hd : ∀ p ∈ ns, 1 ≤ p.2) : Ok (cl (n + 1) 76 [.tup (ns.map ndP)] h) fun d h' => h' = h ∧ ∃ ws, d = .fl ws ∧ clVs 0 ws = true ∧ ws.length ≤ 100 := by
  refine (f_call t_closings_in rfl rfl).mpr ?_
  (unfold f_closings_in; dsimp only [List.map, List.append, HAppend.hAppend, Append.append, List.replicate, Nat.reduceSub])
  walk_at "zw"
  rw [show h ++ [PObj.lst []] ++ [PObj.lst []] = h ++ [.lst [], .lst []] by simp, List.length_append]
  dsimp only [List.length_cons, List.length_nil, Nat.zero_add]
  refine ok_for (ds := (ns.map ndP).mapIdx fun i x => .tup [.int i, x]) (fun i l h' => ∃ cs ks x3 x4 x5, l = [some (.tup (ns.map ndP)), some (.ref h.length), some (.ref (h.length + 1)), x3, x4, x5] ∧ h' = h ++ [.lst (List.map PV.int cs), .lst (List.map PV.int ks)] ∧ cs.length + ks.length = i)
    (fun i l h' _ => rfl) (fun i d l h' hd1 ⟨cs, ks, x3, x4, x5, el, eh, ec⟩ => ?_) (fun l h' ⟨cs, ks, x3, x4, x5, el, eh, ec⟩ => ?_) _ 0 _ _ (by show ((ns.map ndP).mapIdx fun i x => PV.tup [.int i, x]).length + 1 + 0 = _; rfl) (Nat.zero_le _) ⟨[], [], _, _, _, rfl, rfl, rfl⟩
  · rw [List.getElem?_mapIdx, List.getElem?_map] at hd1
    cases hp : ns[i]? with
    | none => rw [hp] at hd1; cases hd1
    | some p =>
      obtain ⟨s, d0⟩ := p
      rw [hp] at hd1
      cases hd1
      have hil : i < ns.length := (List.getElem?_eq_some_iff.mp hp).1
      have d1 : 1 ≤ d0 := hd (s, d0) (List.mem_of_getElem? hp)
      subst el; subst eh
      unfold ndP
      walk_at "zw"
      dsimp only [List.set]
      walk_at "zw"
      refine ok_whl (fun k l h' => ∃ cs ks, k = List.length ks ∧ cs.length + ks.length = i ∧ l = [some (.tup (ns.map fun p => PV.tup [.str p.1, .int p.2])), some (.ref h.length), some (.ref (h.length + 1)), some (.int i), some (.str s), some (.int d0)] ∧ h' = h ++ [.lst (List.map PV.int cs), .lst (List.map PV.int ks)]) (fun k l h' ⟨cs, ks, e1, e2, el, eh⟩ => ?_) (m := ks.length) (by omega) ⟨cs, ks, rfl, ec, rfl, rfl⟩
      subst el; subst eh
      walk_at "zw"
      refine okP_len g1 ?_
      walk_at "zw"
      refine ⟨fun kk => ?_, fun kk => ?_⟩
      · have kk := of_decide_eq_true kk
        rw [List.length_map] at kk
        rcases List.eq_nil_or_concat ks with z | ⟨k1, y, z⟩
        · subst z
          simp at kk
          omega
        · rw [List.concat_eq_append] at z
          subst z
          rw [List.map_append]
          walk_at "zw"
          refine ⟨rcv_lst g0, ?_⟩
          walk_at "zw"
          refine okP_pop g1 ?_
          rw [s1]
          walk_at "zw"
          refine okP_app g0 (by rw [List.length_map]; omega) ?_
          rw [s0]
          walk_at "zw"
          simp only [List.length_append, List.length_cons, List.length_nil] at e1 e2
          exact ⟨k1.length, by omega, cs ++ [y], k1, rfl, by simp only [List.length_append, List.length_cons, List.length_nil]; omega, rfl, by simp⟩
      · walk_at "zw"
        refine ⟨rcv_lst g1, ?_⟩
        walk_at "zw"
        refine okP_app g1 (by rw [List.length_map]; omega) ?_
        rw [s1]
        walk_at "zw"
        exact ⟨cs, ks ++ [(i : Int)], _, _, _, rfl, by simp, by simp only [List.length_append, List.length_cons, List.length_nil]; omega⟩
  · subst el; subst eh
    rw [List.length_mapIdx, List.length_map] at ec
    walk_at "zw"
    refine okP_rev (xs := ks.map PV.int) (by simp only [lstOf, objOf, g1]) ?_
    refine okP_cat' g0 (by simp only [List.length_map, List.length_reverse]; omega) ?_
    have c : clVs 0 (List.map PV.int cs ++ (List.map PV.int ks).reverse) = true := cls_app (ints_cl cs) (by rw [← List.map_reverse]; exact ints_cl _)
    refine sl_app (by simp only [clV, clO]; exact c) ⟨rfl, _, rfl, c, by simp only [List.length_append, List.length_map, List.length_reverse]; omega⟩
end Law
end Zed
end
section
set_option Elab.async false
set_option linter.all false
set_option maxRecDepth 100000
set_option maxHeartbeats 1000000
set_option exponentiation.threshold 10000
/-! D04k: documents: made, events, equal, of_events. -/
namespace Zed
namespace Law
open PySem L2
theorem t_dinit : TB 59 = some f_Document___init__ := rfl
theorem t_made : TB 66 = some f_law_made_document := rfl
theorem t_devents : TB 80 = some f_Document_events := rfl
theorem t_deq : TB 81 = some f_Document___eq__ := rfl
theorem t_of_events : TB 82 = some f_Document_of_events := rfl
abbrev docO (ns : List Nd) (ws cs : List PV) : PObj := .ins 58 [(53, .tup (ns.map ndP)), (73, .tup ws), (75, .tup cs)]
/-- a document of these nodes -/
def IsDoc (ns : List Nd) (d : PV) : Prop := ∃ ws cs, d = .fz (docO ns ws cs) ∧ clVs 0 ws = true ∧ clVs 0 cs = true
theorem ok_dinit {n : Nat} {h : PHeap} {ns : List Nd} (t : Tree ns) (hn : ns.length ≤ 40) (hl : ∀ p ∈ ns, p.1 ∈ lab6) :
    Ok (cl (n + 4) 59 [.ref h.length, .tup (ns.map ndP)] (h ++ [.ins 58 []])) fun d h' => d = .non ∧ ∃ ws cs, h' = h ++ [docO ns ws cs] ∧ clVs 0 ws = true ∧ clVs 0 cs = true := by
  obtain ⟨g, hg⟩ : ∃ g : PHeap, g = h ++ [.ins 58 []] := ⟨_, rfl⟩
  rw [← hg]
  refine (f_open t_dinit rfl rfl).mpr ?_
  (unfold f_Document___init__; dsimp only [List.map, List.append, HAppend.hAppend, Append.append, List.replicate, Nat.reduceSub])
  subst hg
  walk_at "zw"
  refine (ok_checked (n := n) t hn hl).mono fun d h1 ⟨e1, e2⟩ => ?_
  subst e1; subst e2
  walk_at "zw"
  refine okO_fld get_new rfl (by decide) ?_
  rw [set_new]
  walk_at "zw"
  refine (ok_ways_in (n := n + 2) hn (tree_pos t)).mono fun d h1 ⟨e2, ws, e1, c1, l1⟩ => ?_
  subst e1; subst e2
  walk_at "zw"
  refine okO_fld get_new rfl (by simp [setFl]) ?_
  rw [set_new]
  walk_at "zw"
  refine (ok_closings_in (n := n + 2) hn (tree_pos t)).mono fun d h1 ⟨e2, cs, e1, c2, l2⟩ => ?_
  subst e1; subst e2
  walk_at "zw"
  refine okO_fld get_new rfl (by simp [setFl]) ?_
  rw [set_new]
  exact ⟨rfl, ws, cs, rfl, c1, c2⟩
theorem sl_doc {h : PHeap} {ns : List Nd} {ws cs : List PV} {Q : PV → PHeap → Prop} (c1 : clVs 0 ws = true) (c2 : clVs 0 cs = true) (q : Q (.fz (docO ns ws cs)) h) : Seal h (.ref h.length) (h ++ [docO ns ws cs]) Q := by
  have k1 : clV h.length (.tup (ns.map ndP)) = true := by simp only [clV]; exact nds_cl _
  have k2 : clV h.length (.tup ws) = true := cl_up (Nat.zero_le _) (.tup ws) (by simp only [clV]; exact c1)
  have k3 : clV h.length (.tup cs) = true := cl_up (Nat.zero_le _) (.tup cs) (by simp only [clV]; exact c2)
  refine ⟨.fz (docO ns ws cs), h, ?_, seal_app' h _, q⟩
  unfold frzV
  rw [if_neg (by simp only [clV, decide_eq_true_eq]; omega)]
  dsimp only
  rw [get_new]
  simp only [frzO, mapO, frz_cl k1, frz_cl k2, frz_cl k3]
  rfl
theorem ok_made {n : Nat} {h : PHeap} {ns : List Nd} (t : Tree ns) (hn : ns.length ≤ 40) (hl : ∀ p ∈ ns, p.1 ∈ lab6) : Ok (cl (n + 5) 66 [.fl (ns.map ndP)] h) fun d h' => IsDoc ns d ∧ h' = h := by
  refine (f_call t_made rfl rfl).mpr ?_
  (unfold f_law_made_document; dsimp only [List.map, List.append, HAppend.hAppend, Append.append, List.replicate, Nat.reduceSub])
  walk_at "zw"
  refine (ok_dinit (n := n) t hn hl).mono fun d h1 ⟨e1, ws, cs, e2, c1, c2⟩ => ?_
  subst e1; subst e2
  refine ⟨rfl, ?_⟩
  exact sl_doc c1 c2 ⟨⟨ws, cs, rfl, c1, c2⟩, rfl⟩
theorem ok_devents {n : Nat} {h : PHeap} {ns : List Nd} {d : PV} {md : Str} (i : IsDoc ns d) (hm : md ∈ modes) (hn : ns.length ≤ 100) (hd : ∀ p ∈ ns, 1 ≤ p.2) :
    Ok (cl (n + 3) 80 [d, .str md] h) fun v h' => v = .tup ((evs (md == "named") ns).map evP) ∧ h' = h := by
  obtain ⟨ws, cs, rfl, c1, c2⟩ := i
  refine (f_call t_devents rfl rfl).mpr ?_
  (unfold f_Document_events; dsimp only [List.map, List.append, HAppend.hAppend, Append.append, List.replicate, Nat.reduceSub])
  walk_at "zw"
  refine (ok_require_mode (n := n) hm).mono fun d h1 e => ?_
  subst e
  walk_at "zw"
  refine (ok_events_in (n := n) (mode_ok hm) hn hd).mono fun d h1 ⟨e1, e2⟩ => ?_
  subst e1; subst e2
  walk_at "zw"
  exact sl_same (by simp only [clV]; exact evs_cl _) ⟨rfl, rfl⟩
theorem toD_nds {h : PHeap} (ns : List Nd) : toD h 70 (.tup (ns.map ndP)) = some (.tuple (ns.map ndD)) := by
  show (mapO (toD h 69) (ns.map ndP)).map PyData.tuple = _
  rw [mapO_map (k := ndD) (g := ndP) (fun p => (show toD h 69 (ndP p) = some (ndD p) from rfl))]; rfl
theorem ok_deq {n : Nat} {h : PHeap} {ns : List Nd} {d e : PV} (i : IsDoc ns d) (j : IsDoc ns e) (hl : ∀ p ∈ ns, p.1 ∈ lab6) : Ok (cl (n + 1) 81 [d, e] h) fun v h' => v = .bl true ∧ h' = h := by
  obtain ⟨ws, cs, rfl, c1, c2⟩ := i
  obtain ⟨ws', cs', rfl, c3, c4⟩ := j
  refine (f_call t_deq rfl rfl).mpr ?_
  (unfold f_Document___eq__; dsimp only [List.map, List.append, HAppend.hAppend, Append.append, List.replicate, Nat.reduceSub])
  walk_at "zw"
  refine okO_same (toD_nds ns) (toD_nds ns) (sh_ndt hl) ?_
  exact sl_same rfl ⟨rfl, rfl⟩
/-- of_events: the first mode in which the events are whole -/
theorem ok_of_events {n : Nat} {h : PHeap} {ev : List Ev} {X : XP} {Q : PV → PHeap → Prop} (hl : ev.length ≤ 40) (ho : ∀ e ∈ ev, okV e)
    (bad : whl true ev = false → whl false ev = false → X (.gl 31) [] h)
    (good : ∀ (m : Bool) ns d, runE m ev ([], []) = some ([], ns) → ns ≠ [] → (m = false → whl true ev = false) → IsDoc ns d → Q d h) :
    Okx X (cl (n + 5) 82 [.gl 58, .tup (ev.map evP)] h) Q := by
  have nod : ∀ md : Str, whl (md == "named") ev = false → nodO md ev = .non := by
    intro md w
    unfold whl at w
    unfold nodO
    cases er : runE (md == "named") ev ([], []) with
    | none => rfl
    | some st =>
      obtain ⟨lf, ns⟩ := st
      rw [er] at w
      dsimp only at w ⊢
      rw [if_neg]
      rintro ⟨rfl, z⟩
      simp [z] at w
  have nod2 : ∀ md : Str, whl (md == "named") ev = true → ∃ ns, runE (md == "named") ev ([], []) = some ([], ns) ∧ ns ≠ [] ∧ nodO md ev = .tup (ns.map ndP) := by
    intro md w
    unfold whl at w
    unfold nodO
    cases er : runE (md == "named") ev ([], []) with
    | none => rw [er] at w; cases w
    | some st =>
      obtain ⟨lf, ns⟩ := st
      rw [er] at w
      dsimp only at w ⊢
      rw [Bool.and_eq_true] at w
      have k1 : lf = [] := by cases lf; rfl; cases w.2
      have k2 := of_decide_eq_true w.1
      subst k1
      exact ⟨ns, rfl, k2, by rw [if_pos ⟨rfl, k2⟩]⟩
  refine (f_callx t_of_events rfl rfl).mpr ?_
  (unfold f_Document_of_events; dsimp only [List.map, List.append, HAppend.hAppend, Append.append, List.replicate, Nat.reduceSub])
  have turn : ∀ {md : Str} {x2 x3 : Option PV} {N : Loc → PHeap → Prop}, PyData.strOk md = true → ((md == "named") = false → whl true ev = false) → (whl (md == "named") ev = false → ∀ x3, N [some (.gl 58), some (.tup (ev.map evP)), some (.str md), x3] h) →
      OkSx (SealX h X) (exSs ⟨cl (n + 4), CT⟩ (.cons (.asg (.nm 3) (.call 56 (.cons (.loc 1) (.cons (.loc 2) .nil))))
        (.cons (.iff (.and (.cmp .isnot (.loc 3) (.con .non)) (.cmp .le (.blt .len (.cons (.loc 3) .nil)) (.con (.int 40))))
        (.cons (.ret (.mkl 0 58 59 (.cons (.loc 3) .nil))) .nil) .nil) .nil)) [some (.gl 58), some (.tup (ev.map evP)), some (.str md), x3] h) N (fun d h1 => Seal h d h1 Q) := by
    intro md x2 x3 N sm nm kN
    walk_at "zw"
    refine Ok.mono (ok_nodes_of (n := n) (md := md) sm (by omega) ho) fun d h1 ⟨e1, e2⟩ => ?_
    subst e1; subst e2
    walk_at "zw"
    refine okO_of nodO_isnot ?_
    cases w : whl (md == "named") ev with
    | false =>
      walk_at "zw"
      exact kN w _
    | true =>
      obtain ⟨ns, r1, r2, r3⟩ := nod2 md w
      rw [r3]
      have sn := seen ev r1
      have tr : Tree ns := by
        rcases sn.tr with z | z
        · exact absurd z r2
        · exact z
      have lb := (sn.lb lab6 fun s hs => ho _ hs).1
      have ct := sn.ct
      have n2 : ((ns.map ndP).length : Int) ≤ 40 := by rw [List.length_map]; omega
      walk_at "zw"
      rw [decide_eq_true n2]
      walk_at "zw"
      refine x_mkl rfl ?_
      walk_at "zw"
      refine (ok_dinit (n := n) tr (by omega) lb).mono fun d h2 ⟨e1, ws, cs, e2, c1, c2⟩ => ?_
      subst e1; subst e2
      refine ⟨rfl, ?_⟩
      exact sl_doc c1 c2 (good _ ns _ r1 r2 nm ⟨ws, cs, rfl, c1, c2⟩)
  walk_at "zw"
  refine for_step (d := .str "named") rfl ?_
  refine okO_bind (Nat.le_of_ble_eq_true rfl) ?_
  dsimp only [List.set]
  have nT : (("named" : Str) == "named") = true := by decide +kernel
  have nF : (("bare" : Str) == "named") = false := by decide +kernel
  refine turn (md := "named") (x2 := none) (by decide +kernel) (fun z => by rw [nT] at z; cases z) fun w1 x3 => ?_
  rw [nT] at w1
  refine for_step (d := .str "bare") rfl ?_
  refine okO_bind (Nat.le_of_ble_eq_true rfl) ?_
  dsimp only [List.set]
  refine turn (md := "bare") (x2 := none) (by decide +kernel) (fun _ => w1) fun w2 x3 => ?_
  rw [nF] at w2
  refine for_end rfl ?_
  walk_at "zw"
  exact slx0 (bad w1 w2)
end Law
end Zed
end
section
set_option Elab.async false
set_option linter.all false
set_option maxRecDepth 100000
set_option maxHeartbeats 1000000
set_option exponentiation.threshold 10000
/-! D04l: labels and nodes are drawn. -/
namespace Zed
namespace Law
open PySem L2
theorem t_mixed : TB 57 = some f_law_mixed := rfl
theorem t_labels : TB 64 = some f_law_labels := rfl
theorem t_document : TB 65 = some f_law_document := rfl
theorem toD_strs {h : PHeap} {i : Nat} {l : List Str} (e : h[i]? = some (.lst (l.map PV.str))) : toD h 70 (.ref i) = some (.list (l.map PyData.str)) := toD_lref e fun s => (show toD h 69 (.str s) = some (.str s) from rfl)
theorem Dr.app2 {i : Nat} {B : Int} {h h' : PHeap} {a b : PObj} (d : Dr i B (h ++ [a, b]) h') (hi : i < h.length) : ∃ h1, Dr i B h h1 ∧ h' = h1 ++ [a, b] := d.app hi
theorem erase_map {α β : Type} (f : α → β) : ∀ (l : List α) (k : Nat), (l.map f).eraseIdx k = (l.eraseIdx k).map f
  | [], k => by simp
  | a :: r, 0 => rfl
  | a :: r, k + 1 => by
    show f a :: (r.map f).eraseIdx k = f a :: (r.eraseIdx k).map f
    rw [erase_map f r k]
theorem strsP_map : ∀ ks : List Str, strsP (ks.map PV.str) = some ks
  | [] => rfl
  | k :: r => by simp only [List.map, strsP, strsP_map r]; rfl
theorem okP_sortF {h : PHeap} {ks : List Str} {Q : PV → PHeap → Prop} (hk : ks.length < 64) (q : Q (.fl ((sortS ks).map PV.str)) h) : OkP (bltF .sorted [.fl (ks.map PV.str)] h) Q := by
  refine okP_of (show sortP h (.fl (ks.map PV.str)) = _ from ?_) q
  simp only [sortP, objOf, strsP_map]
  rw [if_pos hk]
theorem ok_mixed {n i : Nat} {B : Int} {h : PHeap} {ls : List Str} (d : Dc h i B) (hb : B + 100 < 2 ^ 100) (hl : ∀ s ∈ ls, s ∈ lab6) (hn : ls.length ≤ 6) :
    Ok (cl (n + 2) 57 [.ref i, .fl (ls.map PV.str)] h) fun v h' => ∃ ks : List Str, v = .fl (ks.map PV.str) ∧ (∀ s ∈ ks, s ∈ lab6) ∧ ks.length = ls.length ∧ Dr i (B + 6) h h' := by
  have hi := d.lt
  refine (f_call t_mixed rfl rfl).mpr ?_
  (unfold f_law_mixed; dsimp only [List.map, List.append, HAppend.hAppend, Append.append, List.replicate, Nat.reduceSub])
  walk_at "zw"
  rw [show h ++ [PObj.lst (ls.map PV.str)] ++ [PObj.lst []] = h ++ [.lst (ls.map PV.str), .lst []] by simp, List.length_append]
  dsimp only [List.length_cons, List.length_nil, Nat.zero_add]
  refine ok_whl (fun k l h' => ∃ ls' ks g, k = List.length ls' ∧ ls'.length + List.length ks = ls.length ∧ (∀ s ∈ ls', s ∈ lab6) ∧ (∀ s ∈ ks, s ∈ lab6) ∧ Dr i (B + List.length ks) h g ∧ l = [some (.ref i), some (.fl (ls.map PV.str)), some (.ref h.length), some (.ref (h.length + 1))] ∧ h' = g ++ [.lst (List.map PV.str ls'), .lst (List.map PV.str ks)])
    (fun k l h' ⟨ls', ks, g, e1, e2, q1, q2, dr, el, eh⟩ => ?_) (m := ls.length) (by omega) ⟨ls, [], h, rfl, rfl, hl, (fun _ z => nomatch z), by simpa using Dr.refl d, rfl, rfl⟩
  subst el; subst eh
  have gl := dr.len
  rw [← gl]
  walk_at "zw"
  refine okO_ne_nil (xs := ls'.map PV.str) (by simp only [lstOf, objOf, g0]) (toD_strs g0) (sh_strs q1) ?_
  walk_at "zw"
  refine ⟨fun kk => ?_, fun kk => ?_⟩
  · have k1 : ls' ≠ [] := fun z => by subst z; cases kk
    have k2 := List.length_pos_iff.mpr k1
    walk_at "zw"
    refine ⟨rcv_lst g1, ?_⟩
    walk_at "zw"
    refine ⟨rcv_lst g0, ?_⟩
    walk_at "zw"
    refine okP_len g0 ?_
    walk_at "zw"
    refine (ok_roll (n := n) dr.dc.app (by rw [List.length_map]; omega) (by omega) (by rw [List.length_map]; omega)).mono fun v h2 ⟨r, er, r0, r1, f⟩ => ?_
    subst er
    obtain ⟨g2, f2, rfl⟩ := f.app (by rw [gl]; exact hi)
    have gl2 := f2.len
    rw [← gl2]
    rw [List.length_map] at r1
    have rl : r.toNat < ls'.length := by omega
    walk_at "zw"
    refine okP_popi (y := .str ls'[r.toNat]) g0 r0 (by omega) (by rw [List.getElem?_map, List.getElem?_eq_getElem rl]; rfl) ?_
    rw [s0]
    walk_at "zw"
    refine okP_app g1 (by rw [List.length_map]; omega) ?_
    rw [s1]
    walk_at "zw"
    refine ⟨(ls'.eraseIdx r.toNat).length, by rw [List.length_eraseIdx, if_pos rl, e1]; omega, ls'.eraseIdx r.toNat, ks ++ [ls'[r.toNat]], g2, rfl, by rw [List.length_eraseIdx, if_pos rl]; simp; omega, fun s hs => q1 s (List.mem_of_mem_eraseIdx hs), fun s hs => ?_, ?_, by rw [gl2, gl], ?_⟩
    · rcases List.mem_append.mp hs with z | z
      · exact q2 s z
      · cases List.mem_singleton.mp z; exact q1 _ (List.getElem_mem rl)
    · refine (dr.trans f2).up ?_
      rw [List.length_append]; simp; omega
    · rw [erase_map]; simp
  · have k1 : ls' = [] := by cases ls'; rfl; cases kk
    subst k1
    walk_at "zw"
    simp only [List.length_nil, Nat.zero_add] at e2
    obtain ⟨hi2, a, b, c, eg, rest⟩ := dr
    have fz := frz_lst (h1 := g ++ [.lst (List.map PV.str []), .lst (List.map PV.str ks)]) (n := h.length) (i := g.length + 1) (ds := ks.map PV.str) g1 (by omega) (strs_cl ks)
    refine ⟨.fl (ks.map PV.str), g, fz, ?_, ks, rfl, q2, e2, ?_⟩
    · rw [eg]
      exact seal_set' rfl h _ i
    · exact (Dr.up ⟨hi2, a, b, c, eg, rest⟩ (by omega))
theorem ok_labels {n i : Nat} {B t : Int} {h : PHeap} (d : Dc h i B) (hb : B + 100 < 2 ^ 100) (t1 : 1 ≤ t) (t2 : t ≤ 3) :
    Ok (cl (n + 3) 64 [.ref i, .int t] h) fun v h' => ∃ ks : List Str, v = .fl (ks.map PV.str) ∧ (∀ s ∈ ks, s ∈ lab6) ∧ ks ≠ [] ∧ ks.length ≤ 6 ∧ Dr i (B + 6) h h' := by
  refine (f_call t_labels rfl rfl).mpr ?_
  (unfold f_law_labels; dsimp only [List.map, List.append, HAppend.hAppend, Append.append, List.replicate, Nat.reduceSub])
  walk_at "zw"
  refine (ok_mixed (n := n) (ls := lab6) d hb (fun s hs => hs) (by decide)).mono fun v h1 ⟨ks, e1, k1, k2, dr⟩ => ?_
  subst e1
  walk_at "zw"
  obtain ⟨u, rfl⟩ : ∃ u : Nat, t = (u : Int) := ⟨t.toNat, by omega⟩
  rw [cutP_upto, ← List.map_take]
  have l6 : ks.length = 6 := k2
  refine okP_sortF (by rw [List.length_take]; omega) ?_
  have pm := sortS_perm (ks.take u)
  refine sl_dr0 dr (by simp only [clV, clO]; exact strs_cl _) ⟨sortS (ks.take u), rfl, fun s hs => k1 s (List.mem_of_mem_take (pm.mem_iff.mp hs)), fun z => ?_, ?_, dr⟩
  · have := pm.length_eq
    rw [z, List.length_take, l6] at this
    simp at this
    omega
  · rw [pm.length_eq, List.length_take]; omega
end Law
end Zed
end
section
set_option Elab.async false
set_option linter.all false
set_option maxRecDepth 100000
set_option maxHeartbeats 1000000
set_option exponentiation.threshold 10000
/-! D04m: a document's nodes are drawn. -/
namespace Zed
namespace Law
open PySem L2
theorem tree_snoc {ns0 : List Nd} {s t : Str} {d d' : Nat} (tr : Tree (ns0 ++ [(s, d)])) (h1 : 2 ≤ d') (h2 : d' ≤ d + 1) : Tree (ns0 ++ [(s, d)] ++ [(t, d')]) := by
  cases ns0 with
  | nil =>
    obtain ⟨rfl, c⟩ := (show d = 1 ∧ Chain 1 [] from tr)
    exact ⟨rfl, h1, h2, trivial⟩
  | cons p r =>
    obtain ⟨s0, d0⟩ := p
    obtain ⟨rfl, c⟩ := (show d0 = 1 ∧ Chain 1 (r ++ [(s, d)]) from tr)
    refine ⟨rfl, ?_⟩
    refine chain_snoc c h1 ?_
    show d' ≤ lastD 1 (r ++ [(s, d)]) + 1
    rw [lastD_snoc]; exact h2
theorem atI_last {xs : List PV} {y : PV} : atI (xs ++ [y]) (-1) = some y := by
  unfold atI ixN
  rw [if_neg (by decide), if_pos (by rw [List.length_append]; simp; omega)]
  have : (-1 + ((xs ++ [y]).length : Int)).toNat = xs.length := by rw [List.length_append]; simp; omega
  rw [this]
  simp
theorem w_neg1 {C : Orc} {l : Loc} {h : PHeap} {X : XP} {Q : PV → PHeap → Prop} : Okx X (evE C (.neg (.con (.int 1))) l h) Q ↔ Q (.int (-1)) h := Iff.rfl
theorem ok_document {n i : Nat} {B : Int} {h : PHeap} {ls : List Str} (d : Dc h i B) (hb : B + 1000 < 2 ^ 100) (h0 : 0 ≤ B) (hl : ∀ s ∈ ls, s ∈ lab6) (hn : ls ≠ []) (hn2 : ls.length ≤ 6) :
    Ok (cl (n + 3) 65 [.ref i, .fl (ls.map PV.str), .int 12] h) fun v h' => ∃ ns : List Nd, v = .fl (ns.map ndP) ∧ Tree ns ∧ ns.length ≤ 12 ∧ (∀ p ∈ ns, p.1 ∈ lab6) ∧ Dr i (B + 300) h h' := by
  have hi := d.lt
  have lm : ls.map PV.str ≠ [] := fun z => hn (List.map_eq_nil_iff.mp z)
  refine (f_call t_document rfl rfl).mpr ?_
  (unfold f_law_document; dsimp only [List.map, List.append, HAppend.hAppend, Append.append, List.replicate, Nat.reduceSub])
  walk_at "zw"
  refine (ok_one_of (n := n) d lm (by rw [List.length_map]; omega) (by omega) (strs_cl ls)).mono fun x h1 ⟨mx, f1⟩ => ?_
  obtain ⟨s, ms, rfl⟩ := List.mem_map.mp mx
  walk_at "zw"
  have l1 := f1.len
  refine (ok_roll (n := n + 1) f1.dc.app (by decide) (by omega) (by decide)).mono fun y h2 ⟨r, er, r0, r1, f2⟩ => ?_
  subst er
  obtain ⟨h3, f3, rfl⟩ := f2.app (by rw [l1]; exact hi)
  refine ⟨r, rfl, r0, by omega, ?_⟩
  refine ok_for (ds := (List.range r.toNat).map fun (i : Nat) => PV.int (0 + i)) (fun j l h' => ∃ ns0 s d c g x4 x5, l = [some (.ref i), some (.fl (ls.map PV.str)), some (.int 12), some (.ref h1.length), x4, x5] ∧ h' = g ++ [.lst ((ns0 ++ [(s, d)]).map ndP)] ∧ Tree (ns0 ++ [(s, d)]) ∧ (∀ p ∈ ns0 ++ [(s, d)], p.1 ∈ lab6) ∧ ns0.length = j ∧ d ≤ j + 1 ∧ Dr i (B + c) h g ∧ 0 ≤ c ∧ c ≤ 2 + 20 * (j : Int))
    (fun j l h' _ => rfl) (fun j dd l h' hd1 ⟨ns0, s, d0, c, g, x4, x5, el, eh, tr, lb, e1, e2, dr, c0, c1⟩ => ?_) (fun l h' ⟨ns0, s, d0, c, g, x4, x5, el, eh, tr, lb, e1, e2, dr, c0, c1⟩ => ?_) _ 0 _ _ (by show ((List.range r.toNat).map fun (i : Nat) => PV.int (0 + i)).length + 1 + 0 = _; rfl) (Nat.zero_le _)
    ⟨[], s, 1, 2, h3, _, _, rfl, rfl, ⟨rfl, trivial⟩, (fun p hp => by cases List.mem_singleton.mp hp; exact hl s ms), rfl, Nat.le_refl _, (by have := f1.trans f3; exact this.up (by omega)), by decide, by decide⟩
  · have hj : j < r.toNat := by
      have := (List.getElem?_eq_some_iff.mp hd1).1
      simpa using this
    have j12 : j < 11 := by omega
    subst el; subst eh
    have gl := dr.len
    have hg1 : h1.length = g.length := by rw [gl, l1]
    rw [hg1]
    rw [List.map_append]
    walk_at "zw"
    refine w_neg1.mpr ?_
    refine okO_of ((get_lst get_new).trans atI_last) ?_
    show Okx _ _ _
    refine w_con.mpr ?_
    refine okO_of (show getF (ndP (s, d0)) (.int 1) _ = some (.int d0) from rfl) ?_
    walk_at "zw"
    refine OkSx.mono (N := fun l h' => ∃ (d1 : Nat) (g' : PHeap) (x4 : Option PV), 2 ≤ d1 ∧ d1 ≤ d0 + 1 ∧ Dr i (B + c + d0 + 2) h g' ∧ l = [some (.ref i), some (.fl (ls.map PV.str)), some (.int 12), some (.ref g.length), x4, some (.int d1)] ∧ h' = g' ++ [.lst (ns0.map ndP ++ [ndP (s, d0)])])
      (ok_whl (fun k l h' => ∃ (d1 : Nat) (g' : PHeap), k = d1 ∧ 2 ≤ d1 ∧ d1 ≤ d0 + 1 ∧ Dr i (B + c + (d0 + 1 - d1)) h g' ∧ (∃ x4, l = [some (.ref i), some (.fl (ls.map PV.str)), some (.int 12), some (.ref g.length), x4, some (.int d1)]) ∧ h' = g' ++ [.lst (ns0.map ndP ++ [ndP (s, d0)])])
      (fun k l h' ⟨d1, g', q1, q2, q3, dr', ⟨x4', el⟩, eh⟩ => ?_) (m := d0 + 1) (by omega) ⟨d0 + 1, g, rfl, ?_, Nat.le_refl _, dr.up (by omega), ⟨some dd, ?_⟩, rfl⟩) (fun l h' ⟨d1, g', x4', q2, q3, dr', el, eh⟩ => ?_) (fun _ _ z => z)
    · subst el; subst eh
      walk_at "zw"
      refine ⟨fun kk => ?_, fun kk => ?_⟩
      · have kk := of_decide_eq_true kk
        walk_at "zw"
        refine (ok_roll (n := n + 1) dr'.dc.app (by decide) (by omega) (by decide)).mono fun y h2 ⟨r', er, r0', r1', f⟩ => ?_
        subst er
        obtain ⟨g2, f2, rfl⟩ := f.app (by rw [dr'.len]; exact hi)
        walk_at "zw"
        refine ⟨fun k2 => ?_, fun k2 => ?_⟩
        · walk_at "zw"
          refine ⟨d1 - 1, by omega, d1 - 1, g2, rfl, by omega, by omega, (dr'.trans f2).up (by omega), ⟨x4', ?_⟩, rfl⟩
          rw [show ((d1 : Int) - 1) = ((d1 - 1 : Nat) : Int) by omega]
        · exact ⟨d1, g2, x4', q2, q3, (dr'.trans f2).up (by omega), rfl, rfl⟩
      · walk_at "zw"
        exact ⟨d1, g', x4', q2, q3, dr'.up (by omega), rfl, rfl⟩
    · have := tree_pos tr (s, d0) (by simp)
      dsimp only at this
      omega
    · rw [show ((d0 : Int) + 1) = ((d0 + 1 : Nat) : Int) by omega]
    · subst el; subst eh
      have gl' : g.length = g'.length := by rw [gl, dr'.len]
      rw [gl']
      walk_at "zw"
      refine ⟨rcv_lst get_new, ?_⟩
      walk_at "zw"
      refine (ok_one_of (n := n) dr'.dc.app lm (by rw [List.length_map]; omega) (by omega) (strs_cl ls)).mono fun x h1' ⟨mx, f⟩ => ?_
      obtain ⟨t, mt, rfl⟩ := List.mem_map.mp mx
      obtain ⟨g2, f2, rfl⟩ := f.app (by rw [dr'.len]; exact hi)
      have gl2 := f2.len
      rw [← gl2]
      walk_at "zw"
      refine okP_app get_new (by simp; omega) ?_
      rw [set_new]
      walk_at "zw"
      refine ⟨ns0 ++ [(s, d0)], t, d1, c + d0 + 3, g2, x4', some (.int d1), by rw [gl2, ← gl', ← hg1], ?_, tree_snoc tr q2 q3, fun p hp => ?_, by simp [e1], by omega, (dr'.trans f2).up (by omega), by omega, by omega⟩
      · simp [ndP]
      · rcases List.mem_append.mp hp with z | z
        · exact lb p z
        · cases List.mem_singleton.mp z; exact hl t mt
  · subst el; subst eh
    walk_at "zw"
    rw [List.length_map, List.length_range] at e1 c1
    obtain ⟨hi2, a, b, cc, eg, rest⟩ := dr
    have gl : h1.length = g.length := by rw [eg, List.length_set, l1]
    have fz := frz_lst (h1 := g ++ [.lst ((ns0 ++ [(s, d0)]).map ndP)]) (n := h.length) (i := h1.length) (ds := (ns0 ++ [(s, d0)]).map ndP) (by rw [gl]; exact get_new) (by omega) (nds_cl _)
    refine ⟨.fl ((ns0 ++ [(s, d0)]).map ndP), g, fz, ?_, ns0 ++ [(s, d0)], rfl, tr, by rw [List.length_append]; simp; omega, lb, ?_⟩
    · rw [eg]
      exact seal_set' rfl h _ i
    · exact Dr.up ⟨hi2, a, b, cc, eg, rest⟩ (by omega)
end Law
end Zed
end
section
set_option Elab.async false
set_option linter.all false
set_option maxRecDepth 100000
set_option maxHeartbeats 1000000
set_option exponentiation.threshold 10000
/-! D04n: events judged and told alike. -/
namespace Zed
namespace Law
open PySem L2
theorem t_event_right : TB 70 = some f_law_event_right := rfl
theorem run_len {m : Bool} : ∀ {ev : List Ev} {l0 l : List Str} {n0 ns : List Nd}, runE m ev (l0, n0) = some (l, ns) → l.length ≤ l0.length + ev.length
  | [], l0, l, n0, ns, h => by cases h; simp
  | e :: r, l0, l, n0, ns, h => by
    have h : (stp m (l0, n0) e).bind (runE m r) = some (l, ns) := h
    cases z : stp m (l0, n0) e with
    | none => rw [z] at h; cases h
    | some s1 =>
      obtain ⟨l1, n1⟩ := s1
      rw [z] at h
      have ih := run_len h
      have : l1.length ≤ l0.length + 1 := by
        rcases Classical.em (∃ s, e = .op s) with ⟨s, rfl⟩ | ne
        · rw [stp_op] at z
          split at z
          · cases z
          · cases z; rw [List.length_append]; exact Nat.le_refl _
        · have ne : ∀ t, e ≠ .op t := fun t y => ne ⟨t, y⟩
          rcases List.eq_nil_or_concat l0 with y | ⟨l2, s, y⟩
          · subst y; rw [stp_nil ne] at z; cases z
          · rw [List.concat_eq_append] at y
            subst y
            rw [stp_close ne] at z
            split at z
            · cases z; rw [List.length_append]; omega
            · cases z
      simp only [List.length_cons]; omega
theorem okP_catT {h : PHeap} {xs ys : List PV} {Q : PV → PHeap → Prop} (hl : xs.length + ys.length ≤ 1000) (q : Q (.tup (xs ++ ys)) h) : OkP (bopF .add [.tup xs, .tup ys] h) Q := by
  refine okP_of ?_ q
  show addF (.tup xs) (.tup ys) h = _
  simp only [addF]
  rw [if_pos (line_of hl)]
def hs4 : List (Nat × Str) := [(39, "document"), (40, "question"), (41, "reader"), (31, "operation")]
theorem met37 : CT.met 37 = some (hs4, ("fine" : Str)) := rfl
theorem met_op {h : PHeap} : metGo CT 31 h hs4 = .ok (.str "operation") h := rfl
/-- the rest that a judge tells -/
def begB (m : Bool) (ev : List Ev) : Bool := (runE m ev ([], [])).isSome
theorem judP_none {m : Bool} {ev : List Ev} (e : runE m ev ([], []) = none) : judP m ev = .tup [.bl false, .bl false, .fl []] := by unfold judP; rw [e]
theorem judP_some {m : Bool} {ev : List Ev} {l : List Str} {ns : List Nd} (e : runE m ev ([], []) = some (l, ns)) : judP m ev = .tup [.bl true, .bl (whl m ev), .fl (l.map PV.str)] := by unfold judP whl; rw [e]
theorem whl_none {m : Bool} {ev : List Ev} (e : runE m ev ([], []) = none) : whl m ev = false := by unfold whl; rw [e]
theorem okO_nesame {h : PHeap} {a b : Bool} {x : Str} {Q : Bool → Prop} (hx : PyData.strOk x = true) (q : Q false) : OkO (cmpB .ne h (.str x) (.str x)) Q := okO_nes hx hx (by rw [beq_self_eq_true]; exact q)
theorem repr2 {h : PHeap} (a b : Bool) : ∃ x, PyData.strOk x = true ∧ bltF .reprc [.fl [.bl a, .bl b]] h = some (.str x, h) := by
  have : ∀ a b : Bool, ∃ x, PyData.strOk x = true ∧ reprC [] (.fl [.bl a, .bl b]) = some x := by
    intro a b
    cases a <;> cases b
    · exact ⟨"[False, False]", by decide +kernel, by decide +kernel⟩
    · exact ⟨"[False, True]", by decide +kernel, by decide +kernel⟩
    · exact ⟨"[True, False]", by decide +kernel, by decide +kernel⟩
    · exact ⟨"[True, True]", by decide +kernel, by decide +kernel⟩
  obtain ⟨x, x1, x2⟩ := this a b
  refine ⟨x, x1, ?_⟩
  show (reprC h _).map _ = _
  rw [show reprC h (.fl [.bl a, .bl b]) = reprC [] (.fl [.bl a, .bl b]) from rfl, x2]; rfl
theorem ok_event_right {n : Nat} {h : PHeap} {md : Str} {ev : List Ev} (hm : md ∈ modes) (hl : ev.length ≤ 40) (ho : ∀ e ∈ ev, okV e) :
    Ok (cl (n + 6) 70 [.tup (ev.map evP), .str md] h) fun d h' => d = .bl true ∧ h' = h := by
  refine (f_call t_event_right rfl rfl).mpr ?_
  (unfold f_law_event_right; dsimp only [List.map, List.append, HAppend.hAppend, Append.append, List.replicate, Nat.reduceSub])
  generalize hmm : (md == ("named" : Str)) = m
  walk_at "zw"
  refine (ok_judged (n := n + 3) (mode_ok hm) (by omega) ho).mono fun d h1 ⟨e1, e2⟩ => ?_
  subst e1; subst e2
  rw [hmm]
  have isb : ∀ {X : XP} {Q : PV → PHeap → Prop}, Q (.bl (runE m ev ([], [])).isSome) h1 → Okx X (cl (n + 5) 62 [.tup (ev.map evP), .str md] h1) Q := fun q => (ok_is_beginning (n := n + 1) hm (by omega) ho).mono fun d h2 ⟨e1, e2⟩ => by subst e1; subst e2; rw [hmm]; exact q
  have isc : ∀ {X : XP} {Q : PV → PHeap → Prop}, Q (.bl (whl m ev)) h1 → Okx X (cl (n + 5) 61 [.tup (ev.map evP), .str md] h1) Q := fun q => (ok_is_complete (n := n) hm (by omega) ho).mono fun d h2 ⟨e1, e2⟩ => by subst e1; subst e2; rw [hmm]; exact q
  cases er : runE m ev ([], []) with
  | none =>
    rw [judP_none er]
    walk_at "zw"
    refine isb ?_
    rw [er]
    walk_at "zw"
    refine isc ?_
    rw [whl_none er]
    walk_at "zw"
    refine x_met met37 ?_
    walk_at "zw"
    refine ok_completed (n := n + 1) hm (by omega) ho (fun _ => ⟨31, rfl, ?_⟩) (fun lf ns e => by rw [hmm, er] at e; cases e)
    rw [met_op]
    show OkO _ _
    walk_at "zw"
    exact sl_same rfl ⟨rfl, rfl⟩
  | some st =>
    obtain ⟨lf, ns⟩ := st
    rw [judP_some er]
    walk_at "zw"
    refine isb ?_
    rw [er]
    walk_at "zw"
    refine isc ?_
    walk_at "zw"
    obtain ⟨x, x1, x2⟩ := repr2 (h := h1) true (whl m ev)
    refine okP_of x2 ?_
    walk_at "zw"
    refine okP_of x2 ?_
    refine okO_nesame (a := true) (b := true) x1 ?_
    walk_at "zw"
    have n80 : ((ev.map evP).length : Int) ≤ 80 := by rw [List.length_map]; omega
    by_cases ee : ev = []
    · have n1 : ¬ ((1 : Int) ≤ ((ev.map evP).length : Int)) := by rw [ee]; decide
      refine br_f (decide_eq_false n1) ?_
      walk_at "zw"
      refine x_met met37 ?_
      walk_at "zw"
      refine ok_completed (n := n + 1) hm (by omega) ho (fun _ => ⟨31, rfl, ?_⟩) (fun lf ns e z => absurd ee z)
      rw [met_op]
      show OkO _ _
      walk_at "zw"
      exact sl_same rfl ⟨rfl, rfl⟩
    · have n1 : ((1 : Int) ≤ ((ev.map evP).length : Int)) := by
        rw [List.length_map]
        have := List.length_pos_iff.mpr ee
        omega
      refine br_t (decide_eq_true n1) ?_
      walk_at "zw"
      rw [decide_eq_true n80]
      walk_at "zw"
      have sn := seen ev er
      have ll := run_len er
      have nn := sn.ne ee
      have lb := (sn.lb lab6 fun s hs => ho _ hs).2
      simp only [List.length_nil, Nat.zero_add] at ll
      have kc : ∀ {X : XP} {Q : PV → PHeap → Prop}, Q (.tup ((ev ++ lf.reverse.map (cof m)).map evP)) h1 → Okx X (cl (n + 5) 63 [.tup (ev.map evP), .str md] h1) Q := fun {X Q} q => by
        refine ok_completed (n := n + 1) hm (by omega) ho (fun z => ?_) (fun lf2 ns2 e _ _ => ?_)
        · rw [hmm, er] at z
          rcases z with z | z | z
          · cases z
          · exact absurd z ee
          · omega
        · rw [hmm] at e ⊢
          rw [er] at e
          cases e
          exact q
      have oa : ∀ e ∈ ev ++ lf.reverse.map (cof m), okV e := fun e he => by
        rcases List.mem_append.mp he with z | z
        · exact ho e z
        · obtain ⟨s, q1, rfl⟩ := List.mem_map.mp z
          exact okV_cof (lb s (List.mem_reverse.mp q1))
      have la : (ev ++ lf.reverse.map (cof m)).length ≤ 80 := by rw [List.length_append, List.length_map, List.length_reverse]; omega
      have wa : whl m (ev ++ lf.reverse.map (cof m)) = true := by unfold whl; rw [run_all er]; simp [nn]
      refine x_met met37 ?_
      walk_at "zw"
      refine kc ?_
      walk_at "zw"
      rw [← List.map_reverse]
      refine Ok.mono (lc_close (n := n + 5) (K := 60) (md := md) (i := 7) (j := 1) (fun s h => ok_law_close (n := n + 4) (mode_ok hm)) (by rw [List.length_reverse]; omega) (Nat.le_of_ble_eq_true rfl) rfl (by decide)) fun acc h2 ⟨e1, e2⟩ => ?_
      subst e1; subst e2
      rw [hmm]
      walk_at "zw"
      refine kc ?_
      walk_at "zw"
      refine okP_catT (by simp only [List.length_map, List.length_reverse]; omega) ?_
      rw [← List.map_append]
      refine okO_nsame (toD_evs _) (toD_evs _) (sh_evs oa) ?_
      walk_at "zw"
      refine kc ?_
      walk_at "zw"
      refine (ok_is_complete (n := n) hm (by omega) oa).mono fun d h3 ⟨e1, e2⟩ => ?_
      subst e1; subst e2
      rw [hmm, wa]
      walk_at "zw"
      exact sl_same rfl ⟨rfl, rfl⟩
end Law
end Zed
end
section
set_option Elab.async false
set_option linter.all false
set_option maxRecDepth 100000
set_option maxHeartbeats 1000000
set_option exponentiation.threshold 10000
/-! D04o: bent events. -/
namespace Zed
namespace Law
open PySem L2
theorem t_bent : TB 71 = some f_law_bent := rfl
section
variable {h : PHeap} {ev : List Ev} {p : Nat} {Q : PV → PHeap → Prop}
theorem sv_upto {a : Int} (ha : a = (p : Int)) (q : Q (.tup ((ev.take p).map evP)) h) : OkP (slcF (.tup (ev.map evP)) none (some a) h) Q := okP_slcT (by rw [ha, cutP_upto, ← List.map_take]; exact q)
theorem sv_from {a : Int} (ha : a = (p : Int)) (q : Q (.tup ((ev.drop p).map evP)) h) : OkP (slcF (.tup (ev.map evP)) (some a) none h) Q := okP_slcT (by rw [ha, cutP_nat, ← List.map_drop]; exact q)
theorem sv_mid {a b : Int} (ha : a = (p : Int)) (hb : b = a + 1) (q : ∀ ev2 : List Ev, ev2.length ≤ 1 → (∀ e ∈ ev2, e ∈ ev) → Q (.tup (ev2.map evP)) h) : OkP (slcF (.tup (ev.map evP)) (some a) (some b) h) Q := okP_slcT (by
  subst hb; subst ha
  rw [show (p : Int) + 1 = ((p + 1 : Nat) : Int) by omega]
  simp only [cutP, HT.sIx_nat]
  rw [← List.map_drop, ← List.map_take]
  refine q _ ?_ fun e he => List.mem_of_mem_drop (List.mem_of_mem_take he)
  rw [List.length_take]; omega)
end
theorem ok_bent {n i : Nat} {B : Int} {h : PHeap} {md : Str} {ev : List Ev} (d : Dc h i B) (hb : B + 100 < 2 ^ 100) (hm : md ∈ modes) (h0 : ev ≠ []) (hl : ev.length ≤ 30) (ho : ∀ e ∈ ev, okV e) :
    Ok (cl (n + 3) 71 [.ref i, .tup (ev.map evP), .str md] h) fun v h' => ∃ ev' : List Ev, v = .tup (ev'.map evP) ∧ ev'.length ≤ ev.length + 1 ∧ (∀ e ∈ ev', okV e) ∧ Dr i (B + 3) h h' := by
  have hp := List.length_pos_iff.mpr h0
  refine (f_call t_bent rfl rfl).mpr ?_
  (unfold f_law_bent; dsimp only [List.map, List.append, HAppend.hAppend, Append.append, List.replicate, Nat.reduceSub])
  walk_at "zw"
  refine (ok_roll (n := n + 1) d (by rw [List.length_map]; omega) (by omega) (by rw [List.length_map]; omega)).mono fun x h1 ⟨r, er, r0, r1, f1⟩ => ?_
  subst er
  rw [List.length_map] at r1
  walk_at "zw"
  refine (ok_roll (n := n + 1) f1.dc (by decide) (by omega) (by decide)).mono fun x h2 ⟨w, ew, w0, w1, f2⟩ => ?_
  subst ew
  obtain ⟨p, rfl⟩ : ∃ p : Nat, r = (p : Int) := ⟨r.toNat, by omega⟩
  have f12 := f1.trans f2
  have tk : ∀ {k : Nat}, ∀ e ∈ ev.take k, okV e := fun e he => ho e (List.mem_of_mem_take he)
  have dk : ∀ {k : Nat}, ∀ e ∈ ev.drop k, okV e := fun e he => ho e (List.mem_of_mem_drop he)
  have fin : ∀ (es : List Ev) (g : PHeap) (b : Int), es.length ≤ ev.length + 1 → (∀ e ∈ es, okV e) → Dr i (B + b) h g → b ≤ 3 → Seal h (.tup (es.map evP)) g fun v h' => ∃ ev' : List Ev, v = .tup (ev'.map evP) ∧ ev'.length ≤ ev.length + 1 ∧ (∀ e ∈ ev', okV e) ∧ Dr i (B + 3) h h' := by
    intro es g b q1 q2 q3 q4
    exact sl_dr0 q3 (by simp only [clV]; exact evs_cl _) ⟨es, rfl, q1, q2, q3.up (by omega)⟩
  have f12' : Dr i (B + 2) h h2 := f12.up (by omega)
  have ap : ∀ {a b : List Ev}, (∀ e ∈ a, okV e) → (∀ e ∈ b, okV e) → ∀ e ∈ a ++ b, okV e := fun qa qb e he => (List.mem_append.mp he).elim (qa e) (qb e)
  walk_at "zw"
  refine ⟨fun k => ?_, fun k => ?_⟩
  · walk_at "zw"
    refine sv_upto rfl ?_
    walk_at "zw"
    refine sv_from (p := p + 1) (by omega) ?_
    refine okP_catT (by simp only [List.length_map, List.length_take, List.length_drop]; omega) ?_
    rw [← List.map_append]
    exact fin _ _ 2 (by simp only [List.length_append, List.length_take, List.length_drop]; omega) (ap tk dk) f12' (by decide)
  walk_at "zw"
  refine ⟨fun k => ?_, fun k => ?_⟩
  · walk_at "zw"
    refine sv_upto rfl ?_
    walk_at "zw"
    refine sv_mid rfl rfl fun e2 l2 m2 => ?_
    refine okP_catT (by simp only [List.length_map, List.length_take, List.length_drop]; omega) ?_
    walk_at "zw"
    refine sv_from rfl ?_
    rw [← List.map_append]
    refine okP_catT (by simp only [List.length_map, List.length_append, List.length_take, List.length_drop]; omega) ?_
    rw [← List.map_append]
    exact fin _ _ 2 (by simp only [List.length_append, List.length_take, List.length_drop]; omega) (ap (ap tk fun e he => ho e (m2 e he)) dk) f12' (by decide)
  walk_at "zw"
  refine ⟨fun k => ?_, fun k => ?_⟩
  · walk_at "zw"
    refine sv_upto rfl ?_
    walk_at "zw"
    refine sv_mid (p := p + 1) (by omega) (by omega) fun e2 l2 m2 => ?_
    refine okP_catT (by simp only [List.length_map, List.length_take, List.length_drop]; omega) ?_
    walk_at "zw"
    refine sv_mid rfl rfl fun e3 l3 m3 => ?_
    rw [← List.map_append]
    refine okP_catT (by simp only [List.length_map, List.length_append, List.length_take, List.length_drop]; omega) ?_
    walk_at "zw"
    refine sv_from (p := p + 2) (by omega) ?_
    rw [← List.map_append]
    refine okP_catT (by simp only [List.length_map, List.length_append, List.length_take, List.length_drop]; omega) ?_
    rw [← List.map_append]
    by_cases pe : p + 1 < ev.length
    · exact fin _ _ 2 (by simp only [List.length_append, List.length_take, List.length_drop]; omega) (ap (ap (ap tk fun e he => ho e (m2 e he)) fun e he => ho e (m3 e he)) dk) f12' (by decide)
    · exact fin _ _ 2 (by simp only [List.length_append, List.length_take, List.length_drop]; omega) (ap (ap (ap tk fun e he => ho e (m2 e he)) fun e he => ho e (m3 e he)) dk) f12' (by decide)
  walk_at "zw"
  refine (ok_law_close (n := n + 1) (mode_ok hm)).mono fun x1 h3 ⟨e1, e2⟩ => ?_
  subst e1; subst e2
  walk_at "zw"
  refine (ok_law_close (n := n + 1) (mode_ok hm)).mono fun x1 h3 ⟨e1, e2⟩ => ?_
  subst e1; subst e2
  walk_at "zw"
  refine sv_upto rfl ?_
  walk_at "zw"
  refine (ok_one_of (n := n) f2.dc (by simp) (by simp) (by omega) (by simp only [clVs, evP_cl]; rfl)).mono fun x h4 ⟨mx, f3⟩ => ?_
  have hx : ∃ e, okV e ∧ x = evP e := by
    simp only [List.mem_cons, List.not_mem_nil, or_false] at mx
    rcases mx with rfl | rfl | rfl | rfl
    · exact ⟨.op "a", (show ("a" : Str) ∈ lab6 by decide +kernel), rfl⟩
    · exact ⟨.op "zz", (show ("zz" : Str) ∈ lab6 by decide +kernel), rfl⟩
    · exact ⟨_, okV_cof (by decide +kernel), rfl⟩
    · exact ⟨_, okV_cof (by decide +kernel), rfl⟩
  obtain ⟨e, oe, rfl⟩ := hx
  walk_at "zw"
  rw [show [evP e] = [e].map evP from rfl]
  refine okP_catT (by simp only [List.length_map, List.length_take, List.length_cons, List.length_nil]; omega) ?_
  walk_at "zw"
  have f123 : Dr i (B + 3) h h4 := (f12.trans f3).up (by omega)
  rw [← List.map_append]
  cases kw : PyData.eqv (.int w) (.int 3) with
  | true =>
    refine sv_from (p := p + 1) (by simp) ?_
    refine okP_catT (by simp only [List.length_map, List.length_append, List.length_take, List.length_drop, List.length_cons, List.length_nil]; omega) ?_
    rw [← List.map_append]
    exact fin _ _ 3 (by simp only [List.length_append, List.length_take, List.length_drop, List.length_cons, List.length_nil]; omega) (ap (ap tk fun e' he => by cases List.mem_singleton.mp he; exact oe) dk) f123 (by decide)
  | false =>
    refine sv_from (p := p) (by simp) ?_
    refine okP_catT (by simp only [List.length_map, List.length_append, List.length_take, List.length_drop, List.length_cons, List.length_nil]; omega) ?_
    rw [← List.map_append]
    exact fin _ _ 3 (by simp only [List.length_append, List.length_take, List.length_drop, List.length_cons, List.length_nil]; omega) (ap (ap tk fun e' he => by cases List.mem_singleton.mp he; exact oe) dk) f123 (by decide)
end Law
end Zed
end
section
set_option Elab.async false
set_option linter.all false
set_option maxRecDepth 100000
set_option maxHeartbeats 1000000
set_option exponentiation.threshold 10000
/-! D04p: one turn of the law. -/
namespace Zed
namespace Law
open PySem L2
theorem t_right : TB 23 = some f_law_right := rfl
theorem eqv_int {a b : Int} : PyData.eqv (.int a) (.int b) = (a == b) := by simp [PyData.eqv]
theorem okO_neb {h : PHeap} {a b : Bool} {Q : Bool → Prop} (q : Q (!(a == b))) : OkO (cmpB .ne h (.bl a) (.bl b)) Q := by
  refine okO_of (show (eqD h (.bl a) (.bl b)).map (!·) = some (!(a == b)) from ?_) q
  cases a <;> cases b <;> rfl
theorem judP_1 {h : PHeap} {m : Bool} {ev : List Ev} : getF (judP m ev) (.int 1) h = some (.bl (whl m ev)) := by
  unfold judP whl
  cases runE m ev ([], []) with
  | none => rfl
  | some st => obtain ⟨l, ns⟩ := st; rfl
theorem whl_of {m : Bool} {ev : List Ev} {ns : List Nd} (e : runE m ev ([], []) = some ([], ns)) (h : ns ≠ []) : whl m ev = true := by unfold whl; rw [e]; simp [h]
theorem whl_pre {m : Bool} {ns : List Nd} (t : Tree ns) {k : Nat} (hk : k ≤ (evs m ns).length) : whl m ((evs m ns).take k) = ((k : Int) == ((evs m ns).length : Int)) ∧ (runE m ((evs m ns).take k) ([], [])).isSome = true := by
  have r := run_evs (m := m) t
  have r2 := r
  rw [← List.take_append_drop k (evs m ns)] at r2
  obtain ⟨st1, a1, a2⟩ := run_pre r2
  refine ⟨?_, by rw [a1]; rfl⟩
  by_cases e : k = (evs m ns).length
  · rw [e, List.take_length, whl_of r (tree_ne t)]; simp
  · have dn : (evs m ns).drop k ≠ [] := fun z => by
      have := congrArg List.length z
      rw [List.length_drop] at this
      simp at this
      omega
    have w : whl m ((evs m ns).take k) = false := by
      cases z : whl m ((evs m ns).take k) with
      | false => rfl
      | true =>
        unfold whl at z
        rw [a1] at z
        obtain ⟨l1, n1⟩ := st1
        dsimp only at z
        rw [Bool.and_eq_true] at z
        have k1 : l1 = [] := by cases l1; rfl; cases z.2
        subst k1
        rw [run_done (of_decide_eq_true z.1) dn] at a2
        cases a2
    rw [w]
    have : ((k : Int) == ((evs m ns).length : Int)) = false := by simp; omega
    rw [this]
theorem okV_evs {m : Bool} {ns : List Nd} (hl : ∀ p ∈ ns, p.1 ∈ lab6) : ∀ e ∈ evs m ns, okV e := by
  have key : ∀ (ns : List Nd) (st : List Ev × List Str), (∀ p ∈ ns, p.1 ∈ lab6) → (∀ e ∈ st.1, okV e) → (∀ s ∈ st.2, s ∈ lab6) → (∀ e ∈ (evo m ns st).1, okV e) ∧ ∀ s ∈ (evo m ns st).2, s ∈ lab6 := by
    intro ns
    induction ns with
    | nil => intro st _ a b; exact ⟨a, b⟩
    | cons p r ih =>
      obtain ⟨s, d⟩ := p
      intro st a b c
      have hs : s ∈ lab6 := a (s, d) List.mem_cons_self
      refine ih _ (fun q hq => a q (List.mem_cons_of_mem _ hq)) (fun e he => ?_) (fun t ht => ?_)
      · rcases List.mem_append.mp he with z | z
        · rcases List.mem_append.mp z with z | z
          · exact b e z
          · obtain ⟨u, q1, rfl⟩ := List.mem_map.mp z
            exact okV_cof (c u (List.mem_of_mem_drop (List.mem_reverse.mp q1)))
        · cases List.mem_singleton.mp z; exact hs
      · rcases List.mem_append.mp ht with z | z
        · exact c t (List.mem_of_mem_take z)
        · cases List.mem_singleton.mp z; exact hs
  obtain ⟨k1, k2⟩ := key ns ([], []) hl (fun _ z => nomatch z) (fun _ z => nomatch z)
  intro e he
  rcases List.mem_append.mp he with z | z
  · exact k1 e z
  · obtain ⟨u, q1, rfl⟩ := List.mem_map.mp z
    exact okV_cof (k2 u (List.mem_reverse.mp q1))
theorem run_ops {m : Bool} : ∀ {ev : List Ev} {l0 l : List Str} {n0 ns : List Nd}, (∀ e ∈ ev, ∃ s, e = .op s) → runE m ev (l0, n0) = some (l, ns) → l.length = l0.length + ev.length
  | [], l0, l, n0, ns, _, h => by cases h; rfl
  | e :: r, l0, l, n0, ns, a, h => by
    have h : (stp m (l0, n0) e).bind (runE m r) = some (l, ns) := h
    obtain ⟨s, rfl⟩ := a e List.mem_cons_self
    rw [stp_op] at h
    split at h
    · cases h
    · have := run_ops (fun e he => a e (List.mem_cons_of_mem _ he)) (show runE m r (l0 ++ [s], n0 ++ [(s, l0.length + 1)]) = some (l, ns) from h)
      rw [this, List.length_append, List.length_cons]; simp; omega
theorem whl_get {m : Bool} {ev : List Ev} (w : whl m ev = true) : ∃ ns, runE m ev ([], []) = some ([], ns) ∧ ns ≠ [] := by
  unfold whl at w
  cases er : runE m ev ([], []) with
  | none => rw [er] at w; cases w
  | some st =>
    obtain ⟨lf, ns⟩ := st
    rw [er] at w
    dsimp only at w
    rw [Bool.and_eq_true] at w
    have k1 : lf = [] := by cases lf; rfl; cases w.2
    subst k1
    exact ⟨ns, rfl, of_decide_eq_true w.1⟩
theorem mode_one {ev : List Ev} (a : whl true ev = true) (b : whl false ev = true) : False := by
  obtain ⟨n1, r1, z1⟩ := whl_get a
  obtain ⟨n2, r2, z2⟩ := whl_get b
  have q1 := run_ev r1
  have q2 := run_ev r2
  have ops : ∀ e ∈ ev, ∃ s, e = .op s := by
    intro e he
    have w1 := List.all_eq_true.mp q1 (isEv true e) (List.mem_map.mpr ⟨e, he, rfl⟩)
    have w2 := List.all_eq_true.mp q2 (isEv false e) (List.mem_map.mpr ⟨e, he, rfl⟩)
    cases e with
    | op s => exact ⟨s, rfl⟩
    | cl s => cases w2
    | c0 => cases w1
  have := run_ops ops r1
  have e0 : ev = [] := List.eq_nil_of_length_eq_zero (by simpa using this.symm)
  subst e0
  cases r1
  exact z1 rfl
theorem mode_eq {ev : List Ev} {m m2 : Bool} (a : whl m ev = true) (b : whl m2 ev = true) : m2 = m := by
  cases m <;> cases m2 <;> first | rfl | exact (mode_one a b).elim | exact (mode_one b a).elim
theorem ok_right {n i : Nat} {B : Int} {h : PHeap} (d : Dc h i B) (h0 : 0 ≤ B) (hb : B + 2000 < 2 ^ 100) : Ok (cl (n + 7) 23 [.ref i] h) fun v h' => v = .bl true ∧ Dr i (B + 400) h h' := by
  refine (f_call t_right rfl rfl).mpr ?_
  (unfold f_law_right; dsimp only [List.map, List.append, HAppend.hAppend, Append.append, List.replicate, Nat.reduceSub])
  walk_at "zw"
  refine (ok_roll (n := n + 5) d (by decide) (by omega) (by decide)).mono fun x h1 ⟨r, er, r0, r1, f1⟩ => ?_
  subst er
  walk_at "zw"
  refine (ok_labels (n := n + 3) f1.dc (by omega) (by omega) (by omega)).mono fun x h2 ⟨ks, e1, k1, k2, k3, f2⟩ => ?_
  subst e1
  walk_at "zw"
  refine (ok_one_of (n := n + 4) f2.dc (by simp) (by simp) (by omega) rfl).mono fun x h3 ⟨mx, f3⟩ => ?_
  obtain ⟨md, hm, rfl⟩ : ∃ md ∈ modes, x = .str md := by
    simp only [List.mem_cons, List.not_mem_nil, or_false] at mx
    rcases mx with rfl | rfl | rfl
    · exact ⟨"named", by decide +kernel, rfl⟩
    · exact ⟨"bare", by decide +kernel, rfl⟩
    · exact ⟨"late", by decide +kernel, rfl⟩
  have F3 : Dr i (B + 8) h h3 := ((f1.trans f2).trans f3).up (by omega)
  walk_at "zw"
  refine (ok_document (n := n + 3) F3.dc (by omega) (by omega) k1 k2 k3).mono fun x h4 ⟨ns, e1, tr, l12, lb, f4⟩ => ?_
  subst e1
  have F4 : Dr i (B + 308) h h4 := (F3.trans f4).up (by omega)
  walk_at "zw"
  refine (ok_made (n := n + 1) tr (by omega) lb).mono fun dd h5 ⟨isd, e2⟩ => ?_
  subst e2
  walk_at "zw"
  refine okO_of (show mthF CT h5 dd 67 = some 80 by obtain ⟨ws, cs, rfl, _⟩ := isd; rfl) ?_
  walk_at "zw"
  refine (ok_devents (n := n + 3) isd hm (by omega) (tree_pos tr)).mono fun x h6 ⟨e1, e2⟩ => ?_
  subst e1; subst e2
  generalize hmm : (md == ("named" : Str)) = m
  have oe := okV_evs (m := m) lb
  have le := evs_len (m := m) (ns := ns)
  have rr := run_evs (m := m) tr
  generalize hev : evs m ns = ev at oe le rr
  walk_at "zw"
  refine (ok_law_events (n := n + 4) (mode_ok hm) (by omega) (tree_pos tr)).mono fun x h5 ⟨e1, e2⟩ => ?_
  subst e1; subst e2
  rw [hmm, hev]
  walk_at "zw"
  refine okO_nsame (toD_evs _) (toD_evs _) (sh_evs oe) ?_
  walk_at "zw"
  have wt : whl m ev = true := whl_of rr (tree_ne tr)
  have evne : ev ≠ [] := fun z => by subst z; cases rr; exact tree_ne tr rfl
  refine ok_of_events (n := n + 1) (by omega) oe (fun w1 w2 => ?_) (fun m2 ns2 d2 e2 nz mm isd2 => ?_)
  · cases m
    · rw [wt] at w2; cases w2
    · rw [wt] at w1; cases w1
  obtain rfl := mode_eq wt (whl_of e2 nz)
  rw [rr] at e2
  cases e2
  walk_at "zw"
  obtain ⟨fs1, i1⟩ : ∃ fs, objOf h5 d2 = some (.ins 58 fs) := by obtain ⟨ws, cs, rfl, _⟩ := isd2; exact ⟨_, rfl⟩
  obtain ⟨fs2, i2⟩ : ∃ fs, objOf h5 dd = some (.ins 58 fs) := by obtain ⟨ws, cs, rfl, _⟩ := isd; exact ⟨_, rfl⟩
  refine x_oeq (c := 58) (f := 81) i1 i2 rfl rfl ((ok_deq (n := n + 5) isd2 isd lb).mono fun v h6 ⟨e1, e2⟩ => ?_)
  subst e1; subst e2
  refine ⟨true, rfl, ?_⟩
  walk_at "zw"
  refine ⟨_, rfl, by omega, by rw [List.length_map]; omega, ?_⟩
  refine OkSx.mono (N := fun l h' => ∃ x4, l = [some (.ref i), some (.fl (ns.map ndP)), some dd, some (.tup (ev.map evP)), x4, none, some (.fl (ks.map PV.str)), some (.str md), none, none, none] ∧ h' = h6) (ok_for (ds := (List.range (((ev.map evP).length : Int) + 1).toNat).map fun (i : Nat) => PV.int (0 + i)) (fun j l h' => ∃ x4, l = [some (.ref i), some (.fl (ns.map ndP)), some dd, some (.tup (ev.map evP)), x4, none, some (.fl (ks.map PV.str)), some (.str md), none, none, none] ∧ h' = h6)
    (fun j l h' _ => rfl) (fun j d l h' hd1 ⟨x4, el, eh⟩ => ?_) (fun l h' z => z) _ 0 _ _ (by show ((List.range (((ev.map evP).length : Int) + 1).toNat).map fun (i : Nat) => PV.int (0 + i)).length + 1 + 0 = _; rfl) (Nat.zero_le _) ⟨none, rfl, rfl⟩) (fun l h' ⟨x4, el, eh⟩ => ?_) (fun _ _ z => z)
  · have hj : j < (((ev.map evP).length : Int) + 1).toNat := by
      have := (List.getElem?_eq_some_iff.mp hd1).1
      simpa using this
    rw [List.length_map] at hj
    have hjl : j ≤ ev.length := by omega
    have dj : d = .int (j : Int) := by
      rw [List.getElem?_map, List.getElem?_range (by rw [List.length_map]; omega)] at hd1
      have := Option.some.inj hd1
      rw [← this]; simp
    subst dj
    subst el; subst eh
    have ot : ∀ e ∈ ev.take j, okV e := fun e he => oe e (List.mem_of_mem_take he)
    have lt : (ev.take j).length ≤ 40 := by rw [List.length_take]; omega
    obtain ⟨wp, ws⟩ := whl_pre (m := m2) tr (k := j) (by rw [hev]; exact hjl)
    rw [hev] at wp ws
    walk_at "zw"
    refine sv_upto rfl ?_
    walk_at "zw"
    refine (ok_event_right (n := n) hm lt ot).mono fun v h7 ⟨e1, e2⟩ => ?_
    subst e1; subst e2
    walk_at "zw"
    refine sv_upto rfl ?_
    walk_at "zw"
    refine (ok_is_beginning (n := n + 2) hm (by omega) ot).mono fun v h7 ⟨e1, e2⟩ => ?_
    subst e1; subst e2
    rw [hmm, ws]
    walk_at "zw"
    refine sv_upto rfl ?_
    walk_at "zw"
    refine (ok_is_complete (n := n + 1) hm (by omega) ot).mono fun v h7 ⟨e1, e2⟩ => ?_
    subst e1; subst e2
    rw [hmm, wp]
    walk_at "zw"
    rw [show PyData.eqv (.int (j : Int)) (.int ((ev.map evP).length : Int)) = ((j : Int) == (ev.length : Int)) by rw [eqv_int, List.length_map]]
    refine br_f (by simp [PyData.eqv]) ?_
    walk_at "zw"
    exact ⟨_, rfl, rfl⟩
  · subst el; subst eh
    walk_at "zw"
    have nT : (("named" : Str) == "named") = true := by decide +kernel
    have nF : (("bare" : Str) == "named") = false := by decide +kernel
    refine ⟨6, rfl, by decide, by decide, ?_⟩
    refine OkSx.mono (N := fun l h' => Dr i (B + 326) h h') (ok_for (src := .seq ((List.range (6 : Int).toNat).map fun (i : Nat) => PV.int (0 + i))) (ds := (List.range (6 : Int).toNat).map fun (i : Nat) => PV.int (0 + i)) (fun j l h' => ∃ x4 x5 x8 x9, l = [some (.ref i), some (.fl (ns.map ndP)), some dd, some (.tup (ev.map evP)), x4, x5, some (.fl (ks.map PV.str)), some (.str md), x8, x9, none] ∧ Dr i (B + 308 + 3 * (j : Int)) h h')
      (fun j l h' _ => rfl) (fun j d l g hd1 ⟨x4, x5, x8, x9, el, F⟩ => ?_) (fun l h' ⟨x4, x5, x8, x9, el, F⟩ => F.up (by simp; omega)) _ 0 _ _ (by rfl) (Nat.zero_le _) ⟨_, _, _, _, rfl, F4.up (by omega)⟩) (fun l h' F => ?_) (fun _ _ z => z)
    · have hj : j < 6 := by
        have := (List.getElem?_eq_some_iff.mp hd1).1
        simpa using this
      subst el
      walk_at "zw"
      refine (ok_bent (n := n + 3) F.dc (by omega) hm evne (by omega) oe).mono fun v g2 ⟨ev2, e1, l2, o2, f⟩ => ?_
      subst e1
      have F2 : Dr i (B + 308 + 3 * ((j + 1 : Nat) : Int)) h g2 := (F.trans f).up (by omega)
      walk_at "zw"
      refine (ok_event_right (n := n) hm (by omega) o2).mono fun v g3 ⟨e1, e2⟩ => ?_
      subst e1; subst e2
      walk_at "zw"
      refine Ok.mono (ok_lc (X := NoX) (src := .seq ((["named", "bare"] : List Str).map PV.str)) (ds := (["named", "bare"] : List Str).map PV.str) (fun q acc h' => acc = (((["named", "bare"] : List Str).take q).filter fun md : Str => whl (md == "named") ev2).map PV.str ∧ h' = g3) (by decide) (fun q acc h' _ => rfl) (fun q d acc h' hd p => by
        obtain ⟨rfl, rfl⟩ := p
        rw [List.getElem?_map] at hd
        cases hs : (["named", "bare"] : List Str)[q]? with
        | none => rw [hs] at hd; cases hd
        | some md2 =>
          rw [hs] at hd
          cases hd
          have m2k : PyData.strOk md2 = true := by
            have : md2 ∈ (["named", "bare"] : List Str) := List.mem_of_getElem? hs
            simp only [List.mem_cons, List.not_mem_nil, or_false] at this
            rcases this with rfl | rfl <;> decide +kernel
          refine okO_bind (Nat.le_of_ble_eq_true rfl) ?_
          walk_at "zw"
          refine (ok_judged (n := n + 4) m2k (by omega) o2).mono fun v g4 ⟨e1, e2⟩ => ?_
          subst e1; subst e2
          walk_at "zw"
          refine okO_of judP_1 ?_
          refine okO_bl ?_
          refine ⟨fun w => ⟨?_, rfl⟩, fun w => ?_⟩
          · rw [List.take_succ, hs]
            simp [w]
          · walk_at "zw"
            refine ⟨?_, rfl⟩
            rw [List.take_succ, hs]
            simp [w]) _ 0 [] g3 (by rfl) (Nat.zero_le _) (Nat.le_refl _) ⟨rfl, rfl⟩) fun acc g4 ⟨e1, e2⟩ => ?_
      subst e2
      rw [show ((["named", "bare"] : List Str).take ((["named", "bare"] : List Str).map PV.str).length) = (["named", "bare"] : List Str) from rfl] at e1
      have ca : (acc = [] ∧ whl true ev2 = false ∧ whl false ev2 = false) ∨ ∃ mw : Str, mw ∈ modes ∧ acc = [.str mw] ∧ whl (mw == "named") ev2 = true := by
        rw [e1]
        cases w1 : whl true ev2 with
        | true =>
          cases w2 : whl false ev2 with
          | true => exact (mode_one w1 w2).elim
          | false => exact .inr ⟨"named", by decide +kernel, by simp [List.filter, nT, nF, w1, w2], by rw [nT]; exact w1⟩
        | false =>
          cases w2 : whl false ev2 with
          | true => exact .inr ⟨"bare", by decide +kernel, by simp [List.filter, nT, nF, w1, w2], by rw [nF]; exact w2⟩
          | false => exact .inl ⟨by simp [List.filter, nT, nF, w1, w2], rfl, rfl⟩
      rcases ca with ⟨rfl, w1, w2⟩ | ⟨mw, mm, rfl, wm⟩
      · walk_at "zw"
        refine x_met met37 ?_
        walk_at "zw"
        refine ok_of_events (n := n + 1) (by omega) o2 (fun _ _ => ⟨31, rfl, ?_⟩) (fun m3 ns3 d3 e3 nz _ _ => ?_)
        · rw [met_op]
          refine ok_ok.mpr ?_
          walk_at "zw"
          exact ⟨_, _, _, _, rfl, F2⟩
        · have := whl_of e3 nz
          cases m3
          · rw [w2] at this; cases this
          · rw [w1] at this; cases this
      · have mk := mode_ok mm
        have shW : SeqAt.shaped (.list ([mw].map PyData.str)) = true := sh_lst (fun s hs => by cases List.mem_singleton.mp hs; simp only [PyData.canLay0]; exact mk) fun s _ => by simp [PyData.depth]
        have neW : ∀ {g : PHeap} {Q : Bool → Prop}, Q true → OkO (cmpB .ne g (.fl [.str mw]) (.fl [])) Q := fun {g Q} q => okO_ne_nil (xs := [.str mw]) rfl (toD_fl (g := PV.str) (l := [mw]) fun s => (show toD g 69 (.str s) = some (.str s) from rfl)) shW q
        have oev : ∀ {X : XP} {Q : PV → PHeap → Prop}, (∀ ns2 d2, runE (mw == "named") ev2 ([], []) = some ([], ns2) → IsDoc ns2 d2 → Q d2 g4) → Okx X (cl (n + 6) 82 [.gl 58, .tup (ev2.map evP)] g4) Q := fun {X Q} q => by
          refine ok_of_events (n := n + 1) (by omega) o2 (fun w1 w2 => ?_) (fun m3 ns3 d3 e3 nz _ isd3 => ?_)
          · cases z : (mw == ("named" : Str))
            · rw [z, w2] at wm; cases wm
            · rw [z, w1] at wm; cases wm
          · have := mode_eq wm (whl_of e3 nz)
            subst this
            exact q ns3 d3 e3 isd3
        walk_at "zw"
        refine x_met met37 ?_
        walk_at "zw"
        refine oev fun ns3 d3 e3 isd3 => ?_
        walk_at "zw"
        refine neW ?_
        walk_at "zw"
        refine neW ?_
        walk_at "zw"
        refine oev fun ns3 d3 e3 isd3 => ?_
        refine okO_of (show mthF CT g4 d3 67 = some 80 by obtain ⟨ws, cs, rfl, _⟩ := isd3; rfl) ?_
        walk_at "zw"
        have sn3 := seen ev2 e3
        have tr3 : Tree ns3 := by
          rcases sn3.tr with z | z
          · subst z
            have := whl_get wm
            obtain ⟨ns4, r4, z4⟩ := this
            rw [e3] at r4
            cases r4
            exact absurd rfl z4
          · exact z
        have ct3 := sn3.ct
        refine (ok_devents (n := n + 3) isd3 mm (by omega) (tree_pos tr3)).mono fun v g5 ⟨e1, e2⟩ => ?_
        subst e1; subst e2
        rw [evs_run e3]
        walk_at "zw"
        refine okO_nsame (toD_evs _) (toD_evs _) (sh_evs o2) ?_
        walk_at "zw"
        exact ⟨_, _, _, _, rfl, F2⟩
    · walk_at "zw"
      exact sl_dr0 F rfl ⟨rfl, F.up (by omega)⟩
end Law
end Zed
end
section
set_option Elab.async false
set_option linter.all false
set_option maxRecDepth 100000
set_option maxHeartbeats 2000000
set_option exponentiation.threshold 10000
/-! D04q: the law answers True. -/
namespace Zed
namespace Law
open PySem L2
theorem t_dice : TB 22 = some f_law_dice := rfl
theorem ok_dice {n : Nat} {h : PHeap} {ns : List Int} {a : Int} (a0 : 0 ≤ a) (a1 : a < 100) : Ok (cl (n + 1) 22 [.scr ns, .int a] h) fun v h' => v = .ref h.length ∧ Dc h' h.length 0 := by
  have key : ∀ (c : Int), OkS (exSs ⟨cl n, CT⟩ (.cons (.asg (.nm 3) (.bin .mod (.blt .int (.cons (.blt .abs (.cons (.loc 2) .nil)) .nil)) (.bin .pow (.bin .pow (.con (.int 10)) (.con (.int 60))) (.con (.int 10)))))
  (.cons (.asg (.nm 4) (.bin .fdiv (.loc 3) (.bin .pow (.con (.int 10)) (.con (.int 18)))))
  (.cons (.asg (.nm 5) (.bin .add (.bin .add (.bin .add (.bin .mul (.bin .mod (.loc 3) (.con (.int 2147483409))) (.con (.int 50053))) (.bin .mul (.con (.int 2801)) (.loc 1))) (.bin .mul (.con (.int 41)) (.blt .int (.cons (.cmp .lt (.loc 2) (.con (.int 0))) .nil)))) (.con (.int 67))))
  (.cons (.ret (.lst false (.cons (.loc 4) (.cons (.bin .mod (.loc 5) (.con (.int 2147483399))) (.cons (.con (.int 0)) .nil)))))
  .nil)))) [some (.scr ns), some (.int a), some (.int c), none, none, none] h) (fun _ h1 => (PV.non : PV) = .ref h.length ∧ Dc h1 h.length 0) fun v h' => v = .ref h.length ∧ Dc h' h.length 0 := by
    intro c
    walk_at "zy"
    have g0 : 0 ≤ (if c < 0 then -c else c) % (10 ^ Int.toNat 60) ^ Int.toNat 10 := Int.emod_nonneg _ (Int.ne_of_gt (Int.pow_pos (Int.pow_pos (by decide))))
    generalize (if c < 0 then -c else c) % (10 ^ Int.toNat 60) ^ Int.toNat 10 = G at g0 ⊢
    refine okP_mul (by omega) (by omega) ?_
    walk_at "zy"
    refine okP_mul (by omega) (by omega) ?_
    walk_at "zy"
    have b0 : ∀ k : Bool, -2 ^ 200 < (if k = true then (1 : Int) else 0) ∧ (if k = true then (1 : Int) else 0) < 2 ^ 200 := fun k => by cases k <;> decide
    refine okP_mul (by omega) (b0 _) ?_
    walk_at "zy"
    exact ⟨rfl, _, _, _, get_new, Int.ediv_nonneg g0 (Int.le_of_lt (Int.pow_pos (by decide))), by decide, by decide⟩
  refine (f_open t_dice rfl rfl).mpr ?_
  (unfold f_law_dice; dsimp only [List.map, List.append, HAppend.hAppend, Append.append, List.replicate, Nat.reduceSub])
  walk_at "zy"
  refine okP_mul (by omega) (by omega) ?_
  walk_at "zy"
  refine ⟨fun k => ?_, fun k => ?_⟩
  · have k := of_decide_eq_true k
    walk_at "zy"
    obtain ⟨d, d1, d2, d3⟩ := atI_mem a0 k
    refine okO_of (show getF (.scr ns) (.int a) h = some d from d1) ?_
    obtain ⟨c, _, rfl⟩ := List.mem_map.mp d2
    walk_at "z1"
    refine s_nil.mpr ?_
    exact key c
  · refine s_nil.mpr ?_
    exact key _
theorem t_law : TB 25 = some f_law := rfl
def rowsE : List (List Ev) := [[.op "a", .c0, .op "a"], [.op "a", .c0, .c0], [.c0]]
def rowP (r : List Ev) : PV := .tup (r.map evP)
theorem okV_a : okV (.op "a") := (show ("a" : Str) ∈ lab6 by decide +kernel)
theorem rows_fact : ∀ r ∈ rowsE, (∀ e ∈ r, okV e) ∧ (runE false r ([], [])).isSome = false ∧ (runE false r.dropLast ([], [])).isSome = true ∧ r.length ≤ 3 := by
  intro r hr
  simp only [rowsE, List.mem_cons, List.not_mem_nil, or_false] at hr
  rcases hr with rfl | rfl | rfl <;> refine ⟨?_, by decide +kernel, by decide +kernel, by decide⟩ <;> intro e he <;> simp only [List.mem_cons, List.not_mem_nil, or_false] at he
  · rcases he with rfl | rfl | rfl <;> first | exact okV_a | exact trivial
  · rcases he with rfl | rfl | rfl <;> first | exact okV_a | exact trivial
  · subst he; exact trivial
theorem rows_cut : ∀ r ∈ rowsE, ∀ h, slcF (rowP r) none (some (-1)) h = some (rowP r.dropLast, h) := by
  intro r hr
  simp only [rowsE, List.mem_cons, List.not_mem_nil, or_false] at hr
  rcases hr with rfl | rfl | rfl <;> (intro h; rfl)
theorem pure_ok : ∀ ns : List Int, ns.length ≤ 63 → ∃ h', callN CT TB 40 25 [.scr ns] [] = .ok (.bl true) h' := by
  intro ns hns
  have key : Ok (cl (39 + 1) 25 [.scr ns] []) fun v h' => v = .bl true := by
    refine (f_call t_law rfl rfl).mpr ?_
    (unfold f_law; dsimp only [List.map, List.append, HAppend.hAppend, Append.append, List.replicate, Nat.reduceSub])
    walk_at "zw"
    obtain ⟨J, hJ⟩ : ∃ J : Int, J = if (if ((ns.map PV.int).length : Int) < 8 then ((ns.map PV.int).length : Int) else 8) > 1 then (if ((ns.map PV.int).length : Int) < 8 then ((ns.map PV.int).length : Int) else 8) else 1 := ⟨_, rfl⟩
    have J0 : 0 ≤ J := by rw [hJ]; split <;> split <;> omega
    have J1 : J ≤ 8 := by rw [hJ]; split <;> split <;> omega
    refine ⟨J, by rw [hJ], J0, by omega, ?_⟩
    refine ok_for (ds := (List.range J.toNat).map fun (i : Nat) => PV.int (0 + i)) (fun t l h' => ∃ z1 z5 z6, l = [some (.scr ns), z1, none, none, none, z5, z6, none]) ?_ ?_ ?_ _ 0 _ _ (by simp [srcLen]) (Nat.zero_le _) ⟨_, _, _, rfl⟩
    · intro t l h' _; rfl
    · intro t dd l h' hd ⟨z1, z5, z6, el⟩
      subst el
      have ht : t < J.toNat := by
        have := (List.getElem?_eq_some_iff.mp hd).1
        simpa using this
      rw [List.getElem?_map, List.getElem?_range ht] at hd
      cases hd
      walk_at "zw"
      refine (ok_dice (n := 38) (by omega) (by omega)).mono fun x h1 ⟨e1, dc⟩ => ?_
      subst e1
      walk_at "zw"
      refine ⟨3, rfl, by decide, by decide, ?_⟩
      refine ok_for (ds := (List.range 3).map fun (i : Nat) => PV.int (0 + i)) (fun u l h2 => (∃ z6, l = [some (.scr ns), some (.int (0 + t)), none, none, none, some (.ref h'.length), z6, none]) ∧ Dc h2 h'.length (400 * u)) ?_ ?_ ?_ _ 0 _ _ (by simp [srcLen]) (Nat.zero_le _) ⟨⟨_, rfl⟩, dc.up (by omega)⟩
      · intro u l h2 _; rfl
      · intro u dd l h2 hd ⟨⟨z6, el⟩, dc⟩
        subst el
        have hu : u < 3 := by
          have := (List.getElem?_eq_some_iff.mp hd).1
          simpa using this
        walk_at "zw"
        refine (ok_right (n := 32) dc (by omega) (by omega)).mono fun x h3 ⟨e1, dr⟩ => ?_
        subst e1
        walk_at "zw"
        exact ⟨⟨_, rfl⟩, dr.dc.up (by omega)⟩
      · intro l h2 ⟨⟨z6, el⟩, _⟩
        subst el
        walk_at "zw"
        exact ⟨_, _, _, rfl⟩
    · intro l h' ⟨z1, z5, z6, el⟩
      subst el
      walk_at "zw"
      have nL : (("late" : Str) == "named") = false := by decide +kernel
      have mL : ("late" : Str) ∈ modes := by decide +kernel
      refine Ok.mono (ok_lc (X := NoX) (src := .seq (rowsE.map rowP)) (ds := rowsE.map rowP) (fun q acc h2 => acc = List.replicate q (.fl [.bl false, .bl true]) ∧ h2 = h') (by decide) (fun q acc h2 _ => rfl) (fun q d acc h2 hd p => by
        obtain ⟨rfl, rfl⟩ := p
        rw [List.getElem?_map] at hd
        cases hs : rowsE[q]? with
        | none => rw [hs] at hd; cases hd
        | some r =>
          rw [hs] at hd
          cases hd
          have mr := List.mem_of_getElem? hs
          obtain ⟨a1, a2, a3, a4⟩ := rows_fact r mr
          refine okO_bind (Nat.le_of_ble_eq_true rfl) ?_
          walk_at "zw"
          refine ⟨fun z => (nomatch z), fun _ => ?_⟩
          walk_at "zw"
          refine (ok_is_beginning (n := 35) (ev := r) mL (by omega) a1).mono fun v g ⟨e1, e2⟩ => ?_
          subst e1; subst e2
          rw [nL, a2]
          walk_at "zw"
          refine w_neg1.mpr ?_
          refine okP_of (rows_cut r mr _) ?_
          walk_at "zw"
          refine (ok_is_beginning (n := 35) (ev := r.dropLast) mL (by rw [List.length_dropLast]; omega) (fun e he => a1 e ((List.dropLast_sublist r).subset he))).mono fun v g ⟨e1, e2⟩ => ?_
          subst e1; subst e2
          rw [nL, a3]
          walk_at "zw"
          refine ⟨?_, rfl⟩
          rw [List.replicate_succ']) _ 0 [] h' (by rfl) (Nat.zero_le _) (Nat.le_refl _) ⟨rfl, rfl⟩) fun acc g ⟨e1, e2⟩ => ?_
      subst e1; subst e2
      walk_at "zw"
      refine okP_of (show mulF (.ref _) (.int 3) (_ ++ [PObj.lst _]) = some (.fl [.fl [.bl false, .bl true], .fl [.bl false, .bl true], .fl [.bl false, .bl true]], _) by simp only [mulF, get_new]; rfl) ?_
      walk_at "zw"
      have oN : ∀ e ∈ ([.op "a", .cl "b"] : List Ev), okV e := fun e he => by
        simp only [List.mem_cons, List.not_mem_nil, or_false] at he
        rcases he with rfl | rfl
        · exact okV_a
        · exact (show ("b" : Str) ∈ lab6 by decide +kernel)
      refine (ok_is_beginning (n := 35) (ev := [.op "a", .cl "b"]) (md := "named") (by decide +kernel) (by decide) oN).mono fun v g ⟨e1, e2⟩ => ?_
      subst e1; subst e2
      rw [show (runE (("named" : Str) == "named") [.op "a", .cl "b"] ([], [])).isSome = false by decide +kernel]
      walk_at "zw"
      refine (ok_is_beginning (n := 35) (ev := []) (md := "bare") (by decide +kernel) (by decide) (fun _ z => nomatch z)).mono fun v g ⟨e1, e2⟩ => ?_
      subst e1; subst e2
      rw [show (runE (("bare" : Str) == "named") [] ([], [])).isSome = true by decide +kernel]
      exact ⟨_, _, frz_cl rfl, rfl, rfl⟩
  obtain ⟨v, h', e, rfl⟩ := key.get
  exact ⟨h', e⟩
end Law
end Zed
end
set_option Elab.async false
set_option linter.all false
set_option maxRecDepth 100000
set_option maxHeartbeats 0
namespace Zed
namespace Law
open PySem L2
end Law
end Zed
open PySem L2 Zed Zed.Law in
theorem PySem.Challenge.cw_depthmarks_k04_whole_events_and_back_holds : PySem.Challenge.rw_depthmarks_k04_whole_events_and_back.Holds := by
  w_on
  o_law
  refine HandSHeadRun.head_any (r := Zed.Law.R) (q := PySem.W.view Zed.Law.R.prog [59]) (H := hk) (ob := ob) (M := 12000) (loose := names) (d := HandSHeadRun.topDef PySem.Challenge.pw_depthmarks_k04_whole_events_and_back 59) (kwd := []) ob_eq (by kernel_rfl) (fun s => by kernel_rfl) Zed.Law.run (by kernel_rfl) (by kernel_rfl) (by kernel_rfl) (by rfl)
    (by first | assumption | decide +kernel) (by decide +kernel) ⟨rfl, rfl, rfl, rfl, rfl, by decide +kernel⟩ ?hw ?hc
  case hw => w_witness2
  case hc =>
    refine law_walk (k := 40) (f := 25) (x := "_law_script") (r := r_law) rfl rfl ⟨rfl, by decide, by decide⟩ rfl (by rfl) rfl rfl rows_ok crs_ok exb_ok mts_ok mths_ok binds_ok bindm_ok pure_ok
