import PyProof.Rows.All
import PySem.Challenge.RW_depthmarks_k17_what_is_an_expression
import HandS.Set
import HandS.More
import HandS.SetFor
import HandS.Strs
import HandS.ForMost
import HandS.ForExc
import HandS.Slots
import KE.KeyNested
import HandS.Lambda
import HandS.IsInst
import HandS.Flow
import HandS.TupAny
import HandS.TupMul
import HandS.Wide
import HandS.Style
import HandS.TupLe
import PyProof.CallFns
import PyProof.ReprRoads
import HandS.TryMany
import HandS.ExcField
import HandS.ExcOwn
import HandS.Defaults
import PyProof.ExcBaseAll.ValueError
import HandS.Star
import HandS.EndTab
import HandS.HeadWalk
import HandS.NestedK
import HandS.HeadHook4
import HandS.Head0
import HandS.Head1
import HandS.Head2
import HandS.HeadEnd
import HandS.HeadHook1
import HandS.HeadHook2
section
set_option Elab.async false
set_option linter.all false
set_option maxRecDepth 100000
set_option maxHeartbeats 2000000
/-! ZedS: sets of texts. -/
namespace Zed
open PySem PySem.Spec PyProof.Rows L2
/-- the text of an entry -/
def txT (e : Int × Value) : Str := match e.2 with
  | .str k _ => k
  | _ => Str.empty
def TxE (w : World) (e : Int × Value) : Prop := ∃ k tk, e.2 = Value.str k tk ∧ e.1 = hashStr w k
/-- a set of texts: ks in the order of its table -/
structure TxD (w : World) (es : Array (Int × Value)) (t : SetTable) (ks : List Str) : Prop where
  ent : ∀ e ∈ es.toList, TxE w e
  key : es.toList.map txT = ks
  nod : ks.Nodup
  few : es.size < scanBound
  fit : t.fits es.size = true
  ris : Ris t.place.toList
  led : w.params.followText "set-order" = true ∨ t.led = true
def TxS (w : World) (h : Heap) (a : Addr) (ks : List Str) : Prop :=
  ∃ o es ep t, h.get? a = some o ∧ o.ExactSet ∧ o.data = .set es ep t ∧ TxD w es t ks
section
variable {P : Program} {w : World} {h h' : Heap} {a : Addr} {ks : List Str}
theorem TxS.at (T : TxS w h a ks) (q : ∀ o, h.get? a = some o → h'.get? a = some o) : TxS w h' a ks := by
  obtain ⟨o, es, ep, t, h1, h2⟩ := T
  exact ⟨o, es, ep, t, q o h1, h2⟩
theorem TxD.len {es : Array (Int × Value)} {t : SetTable} (T : TxD w es t ks) : es.size = ks.length := by
  rw [← T.key, List.length_map, Array.length_toList]
theorem txE_is {e : Int × Value} (g : TxE w e) (k : Str) : (strKind P w).is k e.2 = true ↔ txT e = k := by
  obtain ⟨k0, tk, h1, _⟩ := g
  unfold txT
  rw [h1]
  constructor
  · intro z
    obtain ⟨t, z⟩ := Value.isStrOf_shape (show Value.isStrOf k (.str k0 tk) = true from z)
    cases z; rfl
  · intro z
    cases z
    exact strKind_is P w _ _
theorem txE_el {l : List (Int × Value)} (g : ∀ e ∈ l, TxE w e) : ElemsOf (strKind P w) l := fun e he => by
  obtain ⟨k, tk, h1, h2⟩ := g e he
  refine ⟨⟨k, ?_, h2⟩, ?_⟩
  · rw [h1]; exact strKind_is P w k tk
  · rw [h1]; rfl
theorem txE_mem {l : List (Int × Value)} (g : ∀ e ∈ l, TxE w e) (k : Str) : k ∈ l.map txT ↔ ∃ e ∈ l, (strKind P w).is k e.2 = true := by
  refine ⟨fun z => ?_, fun ⟨e, he, q⟩ => List.mem_map.mpr ⟨e, he, (txE_is (g e he) k).mp q⟩⟩
  obtain ⟨e, he, q⟩ := List.mem_map.mp z
  exact ⟨e, he, (txE_is (g e he) k).mpr q⟩
theorem txE_strs : ∀ {l : List (Int × Value)}, (∀ e ∈ l, TxE w e) → StrsAre (l.map (·.2)) (l.map txT)
  | [], _ => .nil
  | e :: l, g => by
    obtain ⟨k, tk, h1, _⟩ := g e List.mem_cons_self
    have e1 : txT e = k := by unfold txT; rw [h1]
    show StrsAre (e.2 :: l.map (·.2)) (txT e :: l.map txT)
    rw [h1, e1]
    exact .cons k tk (txE_strs fun x hx => g x (List.mem_cons_of_mem _ hx))
end
section
variable {P : Program} {w : World} {A : Around} {E : Value → Shared → Prop} {s : Shared} {a : Addr} {ks : List Str}
/-- a table that was stored; it may be laid anew -/
theorem tx_tail {g : Bool → Sem Unit} (hg : ∀ (b : Bool) (s₁ : Shared) (Q' : Unit → Shared → Prop), Q' () s₁ → wpAny (model P w) A (g b) Q' E s₁)
    {o : Obj} {es0 es : Array (Int × Value)} {ep : Nat} {t0 t : SetTable} (ho : s.heap.get? a = some o) (hx : o.ExactSet) (hd : o.data = .set es0 ep t0) (T : TxD w es t ks) {wd : Bool} {R : Option Bool → Shared → Prop}
    (hR : ∀ h' ks', Heap.SameBut a s.heap h' → TxS w h' a ks' → ks'.Perm ks → R (some true) { s with heap := h' }) :
    wpAny (model P w) A (do
        storeSet a es t
        if (!wd && t.tooFull) = true then do
            g (relayAll t es (SetTable.grown es.size)).2.2; storeSet a (relayAll t es (SetTable.grown es.size)).1 (relayAll t es (SetTable.grown es.size)).2.1; pure (some true)
          else pure (some true)) R E s := by
  refine wpAny_bind (wpAny_storeSet_of ho hd ?_ (fits_of_scanBound T.few))
  have o1 := store_at (es' := es) (t' := t) ho hd
  have sb := Heap.SameBut.update s.heap a (Obj.putSet es t)
  split
  · have p1 := relayAll_perm t es (SetTable.grown es.size)
    have p2 := relayAll_fits t es (SetTable.grown es.size)
    have p3 := relayAll_ris t es (SetTable.grown es.size)
    have p4 := relayAll_led t es (SetTable.grown es.size)
    generalize relayAll t es (SetTable.grown es.size) = Z at p1 p2 p3 p4 ⊢
    obtain ⟨es2, t2, gv⟩ := Z
    dsimp only at p1 p2 p3 p4 ⊢
    have z2 : es2.size = es.size := by
      have := p1.length_eq
      rwa [Array.length_toList, Array.length_toList] at this
    have T2 : TxD w es2 t2 (es2.toList.map txT) := ⟨fun e he => T.ent e (p1.mem_iff.mp he), rfl, (p1.map txT).nodup_iff.mpr (by rw [T.key]; exact T.nod), by rw [z2]; exact T.few, p2, p3, T.led.imp id fun q => by rw [p4]; exact q⟩
    refine wpAny_bind (hg _ _ _ (wpAny_bind (wpAny_storeSet_of o1 rfl ?_ (fits_of_scanBound T2.few))))
    have o2 := store_at (es' := es2) (t' := t2) o1 rfl
    refine wpAny_pure (hR _ _ (sb.trans (Heap.SameBut.update _ a _)) ⟨_, es2, _, t2, o2, hx, rfl, T2⟩ ?_)
    have := p1.map txT
    rwa [T.key] at this
  · exact wpAny_pure (hR _ ks sb ⟨_, es, _, t, o1, hx, rfl, T⟩ (List.Perm.refl _))
/-- one text more -/
theorem tx_add {k : Str} {tk : Tok} {Q : Bool → Shared → Prop} (R : TxS w s.heap a ks) (room : ks.length + 1 < scanBound)
    (hQ : ∀ h' ks', Heap.SameBut a s.heap h' → TxS w h' a ks' → ks'.Perm (if k ∈ ks then ks else ks ++ [k]) → Q (!decide (k ∈ ks)) { s with heap := h' }) :
    wpAny (model P w) A (setAddHashed a (.str k tk) ((strKind P w).hash k)) Q E s := by
  obtain ⟨o, es, ep, t, ho, hx, hd, T⟩ := R
  have c1 : (strKind P w).is k (.str k tk) = true := strKind_is P w k tk
  have c2 : (Value.str k tk).scannable = true := rfl
  have c3 : ElemsOf (strKind P w) es.toList := txE_el T.ent
  have c4 := txE_mem (P := P) T.ent k
  rw [T.key] at c4
  unfold setAddHashed setAddHashedIn
  refine wpAny_holding ?_
  refine wpAny_bind (wpAny_setState_of ho hd T.fit ?_)
  dsimp only
  rw [byScan_of c2 T.few c3]
  simp only [↓reduceIte]
  unfold setAddByScan
  refine wpAny_bind (wpAny_bind (wpAny_rule (wpAny_bind (wpAny_setScan_of c1 ho hd T.fit c3 ?_))))
  cases hf : List.findIdx? (fun e => (strKind P w).is k e.2) es.toList with
  | some j =>
    dsimp only
    obtain ⟨j1, j2, _⟩ := List.findIdx?_eq_some_iff_getElem.mp hf
    have hk : k ∈ ks := c4.mpr ⟨_, List.getElem_mem j1, j2⟩
    have q := hQ s.heap ks (Heap.SameBut.refl a s.heap) ⟨o, es, ep, t, ho, hx, hd, T⟩ (by rw [if_pos hk])
    rw [decide_eq_true hk] at q
    exact wpAny_pure (wpAny_pure q)
  | none =>
    dsimp only
    have hk : k ∉ ks := fun z => by
      obtain ⟨e, he, q⟩ := c4.mp z
      have := List.findIdx?_eq_none_iff.mp hf e he
      rw [q] at this; cases this
    have p1 := layNew_perm t es ((strKind P w).hash k) (.str k tk)
    have p2 := layNew_fits t es ((strKind P w).hash k) (.str k tk)
    have p3 := layNew_ris t es ((strKind P w).hash k) (.str k tk) T.ris
    have p4 := layNew_led t es ((strKind P w).hash k) (.str k tk)
    generalize layNew t es ((strKind P w).hash k) (.str k tk) = Z at p1 p2 p3 p4 ⊢
    obtain ⟨es1, t1, wd, gv⟩ := Z
    dsimp only at p1 p2 p3 p4 ⊢
    rw [Array.toList_push] at p1
    have pk : (es1.toList.map txT).Perm (ks ++ [k]) := by
      have := p1.map txT
      rw [List.map_append, T.key] at this
      exact this
    have z1 : es1.size = ks.length + 1 := by
      have := pk.length_eq
      rwa [List.length_map, Array.length_toList, List.length_append] at this
    have T1 : ∀ t', t'.fits es1.size = true → Ris t'.place.toList → t'.led = t1.led → TxD w es1 t' (es1.toList.map txT) := fun t' f1 f2 f3 => by
      refine ⟨fun e he => ?_, rfl, pk.nodup_iff.mpr ?_, by rw [z1]; exact room, f1, f2, T.led.imp id fun q => by rw [f3, p4]; exact q⟩
      · rcases List.mem_append.mp (p1.mem_iff.mp he) with z | z
        · exact T.ent e z
        · rw [List.mem_singleton.mp z]; exact ⟨k, tk, rfl, rfl⟩
      · exact List.nodup_append.mpr ⟨T.nod, List.nodup_cons.mpr ⟨List.not_mem_nil, List.nodup_nil⟩, fun x hx y hy => by rw [List.mem_singleton.mp hy]; exact fun z => hk (z ▸ hx)⟩
    have fin : ∀ h' ks', Heap.SameBut a s.heap h' → TxS w h' a ks' → ks'.Perm (es1.toList.map txT) → Q true { s with heap := h' } := fun h' ks' sb r pr => by
      have q := hQ h' ks' sb r (by rw [if_neg hk]; exact pr.trans pk)
      rw [decide_eq_false hk] at q
      exact q
    have gw : ∀ (b : Bool) (s₁ : Shared) (Q' : Unit → Shared → Prop), Q' () s₁ → wpAny (model P w) A (match b with | true => rule "set.scan.the-table-gave-way" | false => pure ()) Q' E s₁ := fun b s₁ Q' q => by
      cases b
      · exact wpAny_pure q
      · exact wpAny_rule q
    refine wpAny_bind (gw _ _ _ ?_)
    split
    · refine wpAny_bind ?_
      rw [hashByValue_scannable 8 c2]
      refine wpAny_pure (tx_tail (ks := es1.toList.map txT) ?_ ho hx hd ?_ ?_)
      · intro b s₁ Q' q
        cases b <;> first | exact wpAny_pure q | exact wpAny_rule q
      · split
        · exact T1 _ p2 p3 rfl
        · exact T1 _ (SetTable.fits_plain_off p2) p3 rfl
      · intro h' ks' sb r pr
        exact wpAny_pure (fin h' ks' sb r pr)
    · refine wpAny_bind (wpAny_pure ?_)
      simp only [↓reduceIte]
      refine tx_tail (ks := es1.toList.map txT) ?_ ho hx hd (T1 _ p2 p3 rfl) ?_
      · intro b s₁ Q' q
        cases b <;> first | exact wpAny_pure q | exact wpAny_rule q
      · intro h' ks' sb r pr
        exact wpAny_pure (fin h' ks' sb r pr)

def stepD (acc : List Str) (k : Str) : List Str := if k ∈ acc then acc else acc ++ [k]
def dedS (xs : List Str) : List Str := xs.foldl stepD []
theorem dedS_snoc (xs : List Str) (k : Str) : dedS (xs ++ [k]) = stepD (dedS xs) k := by
  unfold dedS
  rw [List.foldl_append]; rfl
theorem stepD_len (acc : List Str) (k : Str) : (stepD acc k).length ≤ acc.length + 1 := by
  unfold stepD
  split
  · omega
  · rw [List.length_append]; exact Nat.le_refl _
theorem dedS_len (xs : List Str) : (dedS xs).length ≤ xs.length := by
  have : ∀ (xs acc : List Str), (xs.foldl stepD acc).length ≤ acc.length + xs.length := fun xs => by
    induction xs with
    | nil => intro acc; exact Nat.le_refl _
    | cons x r ih =>
      intro acc
      have h1 := ih (stepD acc x)
      have h2 := stepD_len acc x
      show (r.foldl stepD (stepD acc x)).length ≤ _
      rw [List.length_cons]; omega
  have h := this xs []
  unfold dedS
  simpa using h
theorem stepD_perm {ks acc : List Str} {k : Str} (p : ks.Perm acc) : (if k ∈ ks then ks else ks ++ [k]).Perm (stepD acc k) := by
  unfold stepD
  by_cases z : k ∈ ks
  · rw [if_pos z, if_pos (p.mem_iff.mp z)]; exact p
  · rw [if_neg z, if_neg fun q => z (p.mem_iff.mpr q)]; exact p.append_right _
/-- the loop of set(xs) -/
theorem tx_loop {I : Addr} {fp wr : List Addr} {Gn : Array GenState → Array GenState → Prop} {n : Nat} {Pv : Nat → Value → Prop} {St : Nat → Shared → Prop} {R : Result → Shared → Prop}
    (W : WalksS P w A.in1 I fp wr Gn n Pv St) (S : Addr) (hSf : S ∉ fp) (xs : List Str) (hn : n = xs.length) (hfew : xs.length + 1 < scanBound) (hval : ∀ i v, Pv i v → ∃ t, v = .str (xs.getD i Str.empty) t) :
    ∀ (m i : Nat) (s : Shared), n - i = m → i ≤ n → St i s → (∃ ks, TxS w s.heap S ks ∧ ks.Perm (dedS (xs.take i))) →
      (∀ s' ks, Moved (S :: wr) Gn s s' → TxS w s'.heap S ks → ks.Perm (dedS xs) → R (.ok (.ret .none)) s') → codeAny (model P w) A (.builtin "set.update.loop" ⟨[.ref S, .ref I], []⟩) R s := by
  have nw : S ∉ wr := fun z => hSf (W.sub _ z)
  have sub : ∀ b ∈ wr, b ∈ S :: wr := fun b z => List.mem_cons_of_mem _ z
  intro m
  induction m with
  | zero =>
    intro i s hm hi st ⟨ks, T, pk⟩ hR
    obtain rfl : i = n := by omega
    refine codeAny_builtin PyProof.Rows.F.entry_set_update_loop ?_; rw [Around.under_plainId PyProof.Rows.F.plain_set_update_loop _]; show wpAny _ A.in1 (pyNext (.ref I) >>= _) _ _ s
    refine wpAny_bind (W.done s _ _ st fun s' mv => ?_); show wpAny _ A.in1 (ret Value.none) _ _ s'
    refine wpAny_pure (hR s' ks (mv.mono sub) (T.at fun o q => mv.heap S o nw q) ?_)
    rw [hn, List.take_length] at pk
    exact pk
  | succ m ih =>
    intro i s hm hi st ⟨ks, T, pk⟩ hR
    have lt : i < n := by omega
    refine codeAny_builtin PyProof.Rows.F.entry_set_update_loop ?_; rw [Around.under_plainId PyProof.Rows.F.plain_set_update_loop _]; show wpAny _ A.in1 (pyNext (.ref I) >>= _) _ _ s
    refine wpAny_bind (W.item i s _ _ lt st fun v s' pv st' mv => ?_)
    obtain ⟨t, rfl⟩ := hval i v pv
    show wpAny _ A.in1 (holding [Value.str (xs.getD i Str.empty) t] (setAdd S (.str (xs.getD i Str.empty) t)) >>= _) _ _ s'
    refine wpAny_bind (wpAny_holding ?_); unfold setAdd; refine wpAny_holding (wpAny_bind ((strKind P w).pyHash (k := xs.getD i Str.empty) (strKind_is _ _ _ _) ?_))
    have l1 : ks.length ≤ i := by
      have h1 := pk.length_eq
      have h2 := dedS_len (xs.take i)
      have h3 := List.length_take_le i xs
      omega
    refine tx_add (s := { s' with toks := s'.toks + 1 }) (T.at fun o q => mv.heap S o nw q) (by omega) fun h' ks' sb T' pk' => ?_
    have e1 : xs.take (i + 1) = xs.take i ++ [xs.getD i Str.empty] := by
      have hi' : i < xs.length := by omega
      rw [List.take_succ, List.getElem?_eq_getElem hi', List.getD_eq_getElem?_getD, List.getElem?_eq_getElem hi']; rfl
    have pk2 : ks'.Perm (dedS (xs.take (i + 1))) := by
      rw [e1, dedS_snoc]
      exact pk'.trans (stepD_perm pk)
    refine wpAny_pure ⟨plainId_quiet PyProof.Rows.F.plain_set_update_loop _, ih (i + 1) _ (by omega) lt (W.frame _ s' _ _ st' (Nat.le_succ _) fun b hb o q => ?_) ⟨ks', T', pk2⟩ fun s2 ks2 mv2 T2 p2 => hR s2 ks2 (Moved.trans W.gtrans ((mv.mono sub).then_heap (Nat.le_succ _) fun b o hb q => ?_) mv2) T2 p2⟩
    · exact (sb.2 b fun z => hSf (z ▸ hb)).trans q
    · exact (sb.2 b fun z => hb (z ▸ List.mem_cons_self)).trans q

abbrev newS (w : World) : Obj := { cls := .type "set", dict := none, data := .set #[] 0 (.fresh 0 0 (!w.params.followText "set-order")) }
theorem tx_fresh {h : Heap} {a : Addr} (ho : h.get? a = some (newS w)) : TxS w h a [] := by
  refine ⟨_, #[], 0, _, ho, ⟨rfl, rfl, rfl⟩, rfl, ⟨fun e he => by simp at he, rfl, List.nodup_nil, by decide, rfl, List.Pairwise.nil, ?_⟩⟩
  show _ ∨ (!w.params.followText "set-order") = true
  cases w.params.followText "set-order" <;> simp
set_option maxHeartbeats 4000000 in
/-- set(xs), xs a list of texts -/
theorem tx_call {l : Addr} {its : Array Value} (xs : List Str) {Q : Value → Shared → Prop} (hh : A.handled = none) (hl : s.heap.IsList l its) (hit : StrsAre its.toList xs) (hfew : xs.length + 1 < scanBound)
    (h : ∀ (h' : Heap) (tk : Nat) ks, TxS w h' s.heap.objs.size ks → ks.Perm (dedS xs) → (∀ b o, s.heap.get? b = some o → h'.get? b = some o) → Q (.ref s.heap.objs.size) { s with heap := h', toks := tk }) :
    wpAny (model P w) A (call (.type "set") [.ref l]) Q E s := by
  have hsz : its.size = xs.length := by
    have := StrsAre.length hit
    rwa [Array.length_toList] at this
  obtain ⟨c, tl, m0⟩ := PySem.F.called_set.mro
  have m1 := PySem.F.called_set.made
  have m2 := PySem.F.called_set.sub
  have m3 := PySem.F.called_set.notType
  have m4 := PySem.F.called_set.canCreate
  have m5 := PySem.F.typeCall_set_1 (.ref l)
  refine wpAny_call (codeAny_of_tree ?_); show wpAny _ _ (callAny (.type "set") _) _ _ _
  refine wpAny_pure ⟨Code.quiet_builtin _ (by decide +kernel), codeAny_builtin PySem.F.entry_type_call ?_⟩; rw [Around.under_plain (weight_type_call_type "set" [.ref l] []) rfl]
  repeat (any_goals (first | assumption | wp_step))
  refine codeAny_mono (code_set_led1 (.ref l) (E := E) (Q₁ := fun v s₁ => v = .ref s.heap.objs.size ∧ s₁ = { s with heap := s.heap.push (newS w) }) ⟨rfl, rfl⟩) fun r s₁ hr => ?_
  rcases r with e | fl
  · exact hr
  rcases fl with _ | _ | obj | _ <;> try exact hr.elim
  all_goals obtain ⟨rfl, rfl⟩ := hr
  have n0 : (s.heap.push (newS w)).get? s.heap.objs.size = some (newS w) := Heap.get?_push_size _ rfl
  have n1 : Shared.TypeIs { s with heap := s.heap.push (newS w) } (.ref s.heap.objs.size) "set" := ⟨_, n0, rfl⟩
  have n2 := PySem.F.called_set.init.lookup
  have n3 := PySem.F.called_set.init.bind (.ref s.heap.objs.size)
  repeat (any_goals (first | assumption | wp_step))
  refine codeAny_mono (codeAny_call_builtin (R := wants (fun v s₂ => v = .none ∧ ∃ h' tk ks, s₂ = { s with heap := h', toks := tk } ∧ TxS w h' s.heap.objs.size ks ∧ ks.Perm (dedS xs) ∧ ∀ b o, s.heap.get? b = some o → h'.get? b = some o) E) PySem.F.called_set.init.plain PySem.F.entry_set_init (check_set_init_1 n1 ?_)) fun r₂ s₂ hr₂ => ?_
  · obtain ⟨⟨ocls, odict, odata, oslots⟩, hol, hcl, nl, hdl⟩ := hl
    simp only at hcl hdl
    subst hcl hdl
    have q0 : (s.heap.push (newS w)).get? l = some { cls := .type "list", dict := odict, data := .seq its nl, slots := oslots } := Heap.get?_push_of_some _ hol
    have q1 := PySem.F.sub_list_set
    have q2 := PySem.F.sub_list_frozenset
    have q3 : (Value.type "list" == Value.type "dict") = false := by decide
    have q4 : (s.heap.push (newS w)).IsList l its := ⟨_, q0, rfl, nl, rfl⟩
    unfold Builtin.«set.__init__» noKeywords Builtin.Frozenset.updateFrom
    generalize hPI : pyIter = PI
    wp_walk
    subst hPI
    refine wpAny_pyIter_list q4 (wpAny_bind (wpAny_runValue ?_))
    have lt : l < s.heap.objs.size := Heap.lt_size hol
    have h3 : A.in1.in1.in1.handled = none := by simp [hh]
    have sz : (s.heap.push (newS w)).objs.size = s.heap.objs.size + 1 := Heap.size_push ..
    have ne : l ≠ (s.heap.push (newS w)).objs.size := by rw [sz]; exact Nat.ne_of_lt (Nat.lt_succ_of_lt lt)
    have nf : s.heap.objs.size ∉ [(s.heap.push (newS w)).objs.size, l] := by
      rw [sz]
      intro z
      rcases List.mem_cons.mp z with z | z
      · exact Nat.lt_irrefl _ (Nat.lt_of_lt_of_eq (Nat.lt_succ_self _) z.symm)
      · exact Nat.lt_irrefl _ (Nat.lt_of_le_of_lt (Nat.le_of_eq (List.mem_singleton.mp z)) lt)
    have g0 : ((s.heap.push (newS w)).push { cls := .type "list_iterator", data := .fields #[.ref l, .int 0 0] }).get? s.heap.objs.size = some (newS w) := Heap.get?_push_of_some _ n0
    refine tx_loop ((Walks.list h3 _ l ne its).toS) s.heap.objs.size nf xs hsz hfew (fun i v hv => SS.strs_at hit i v (by rw [Array.getElem?_toList]; exact hv)) (its.size - 0) 0 _ rfl (Nat.zero_le _) ⟨⟨_, Heap.get?_push_size _ rfl, rfl, rfl⟩, q4.push _⟩ ⟨[], tx_fresh g0, List.Perm.refl _⟩ fun s' ks mv T pk => ?_
    obtain ⟨h', g', d', tk', os'⟩ := s'
    obtain rfl : g' = s.gens := mv.gens
    obtain rfl : d' = s.drawn := mv.drawn
    obtain rfl : os' = s.os := mv.os
    show wpAny _ _ _ _ _ _
    refine wpAny_pure ?_; show wpAny _ _ (ret Value.none) _ _ _
    refine wpAny_pure ⟨rfl, h', tk', ks, rfl, T, pk, fun b o e => mv.heap b o (fun z => ?_) (Heap.get?_push_of_some _ (Heap.get?_push_of_some _ e))⟩
    have lb := Heap.lt_size e
    rcases List.mem_cons.mp z with z | z
    · exact Nat.lt_irrefl _ (Nat.lt_of_le_of_lt (Nat.le_of_eq z.symm) lb)
    · have z2 := (List.mem_singleton.mp z).trans sz
      exact Nat.lt_irrefl _ (Nat.lt_trans (Nat.lt_succ_self _) (Nat.lt_of_le_of_lt (Nat.le_of_eq z2.symm) lb))
  · rcases r₂ with e | fl₂
    · exact hr₂
    rcases fl₂ with _ | _ | v | _ <;> try exact hr₂.elim
    all_goals obtain ⟨rfl, h', tk, ks, rfl, T, pk, k⟩ := hr₂
    repeat (any_goals (first | assumption | wp_step))
    exact h _ _ _ T pk k
end
end Zed
end
section
set_option Elab.async false
set_option linter.all false
set_option maxRecDepth 100000
set_option maxHeartbeats 2000000
namespace Zed
open PySem PySem.Spec PyProof.Rows L2
section
variable {P : Program} {w : World} {A : Around} {E : Value → Shared → Prop} {s : Shared} {a : Addr} {ks : List Str}
theorem strs_perm {vs us : List Value} (p : vs.Perm us) : ∀ {ks : List Str}, StrsAre us ks → ∃ ks', StrsAre vs ks' ∧ ks'.Perm ks := by
  induction p with
  | nil => intro ks h; exact ⟨ks, h, .refl _⟩
  | cons x _ ih =>
    intro ks h
    cases h with
    | cons y t r =>
      obtain ⟨z, z1, z2⟩ := ih r
      exact ⟨y :: z, .cons y t z1, z2.cons y⟩
  | swap x y l =>
    intro ks h
    cases h with
    | cons a t r => cases r with
      | cons b u r => exact ⟨_, .cons b u (.cons a t r), .swap _ _ _⟩
  | trans _ _ i1 i2 =>
    intro ks h
    obtain ⟨k2, a1, a2⟩ := i2 h
    obtain ⟨k1, b1, b2⟩ := i1 a1
    exact ⟨k1, b1, b2.trans a2⟩
/-- sorted(a set of texts) -/
theorem tx_sorted {Q : Value → Shared → Prop} (R : TxS w s.heap a ks) (hh : A.handled = none) (h64 : ks.length < 64)
    (hQ : ∀ s' p (out : Array Value) (c : Nat) (ys : List Str), (∀ b o, s.heap.get? b = some o → s'.heap.get? b = some o) → s'.gens = s.gens → s'.os = s.os → s.heap.objs.size ≤ p →
      s'.heap.get? p = some (seqObj "list" out c) → StrsAre out.toList ys → ys.Perm ks → sortedS ys = true → Q (.ref p) s') : wpAny (model P w) A (call (.builtin "sorted") [.ref a]) Q E s := by
  obtain ⟨o, es, ep, t, ho, hx, hd, T⟩ := R
  refine Calls.call_function_entry kind_sorted plain_sorted entry_sorted (args_sorted1 _) ?_; unfold Builtin.«sorted»
  refine wpAny_bind (m := checkCount "sorted" 1 1 _) (wpAny_pure (wpAny_bind (collect_set (A := A.in1) hh ⟨o, ho, hx.1, hd⟩ T.fit T.few T.ris T.led fun s1 vs k1 hz g1 o1 pm => ?_)))
  have st := txE_strs T.ent
  rw [T.key] at st
  obtain ⟨zs, z1, z2⟩ := strs_perm pm st
  have hl : vs.length < 64 := by rw [StrsAre.length z1, z2.length_eq]; exact h64
  refine wpAny_bind (wpAny_newList ?_ (by rw [sizeLine_eq]; omega))
  have n0 : (s1.heap.push (seqObj "list" vs.toArray 0)).get? s1.heap.objs.size = some (seqObj "list" vs.toArray 0) := Heap.get?_push_size _ rfl
  refine wpAny_bind (wpAny_holding (wpAny_call_entry slot_list_sort ⟨_, n0, rfl⟩ entry_list_sort (list_sort_treeK strKind_oneLt n0 z1.keysOf (fun v₁ v₂ rest e => keyKind_strs (by rw [← e]; exact z1)) hl fun st' hp hs => ⟨_, rfl, ?_⟩) (args_list_sort _)))
  obtain ⟨ys, y1, y2, y3⟩ := sorted_out_str z1 hp hs
  obtain ⟨c, hc⟩ := sortedHeap_at (vs := vs) (out := (arrOf st').map (·.2)) n0
  refine wpAny_pure ⟨_, rfl, hQ _ s1.heap.objs.size _ c ys (fun b u e => ?_) g1 o1 hz hc y1 (y2.trans z2) y3⟩
  have q := k1 b u e
  have lt := Heap.lt_size q
  show (sortedHeap (s1.heap.push (seqObj "list" vs.toArray 0)) s1.heap.objs.size vs _).get? b = some u
  rw [sortedHeap_old (Nat.ne_of_lt lt) (by rw [size_push']; exact Nat.lt_succ_of_lt lt)]; exact Heap.get?_push_of_some _ q
end
/-- a set of texts in the heap -/
def TxO (w : World) (a : Addr) (ks : List Str) : HO := .ext fun h => TxS w h a ks
section
variable {X : Cx}
theorem txO_new {w : World} {P : Program} {H : Hp} {h : Heap} {a : Addr} {ks : List Str} (R : TxS w h a ks) : ObjOk P w H h a (TxO w a ks) := by
  have ⟨o, _, _, _, ho, _⟩ := R
  exact ⟨R, ⟨o, ho⟩, fun h1 h2 p k => TxS.at p k⟩
theorem txO_get {pins : List (Addr × Obj)} {σ : L2.St} {H : Hp} {s : Shared} {a : Addr} {ks : List Str} (I : Inv X pins σ H s) (ha : Rd H a (TxO X.w a ks)) : TxS X.w s.heap a ks := (ha.ok I.hok).1
/-- set(xs) -/
def rTxSet (K : PySem.W.Frag) (w : World) : List V → Hp → VK → Prop := fun vs H Q => ∃ (l : Addr) (xs : List Str), vs = [V.ref l] ∧ SqL K H l (xs.map V.str) ∧ xs.length < 64 ∧ ∀ ks p, ks.Perm (dedS xs) → H p = none → Q (.ref p) (upd H p (TxO w p ks))
theorem cr_txSet (hc : X.calm = true) : CallR X (.type "set") (rTxSet X.K X.w) := by
  intro pins s σ H vs us Q I r h
  obtain ⟨l, xs, rfl, hs, hf, q⟩ := h
  obtain ⟨its, rv, pl, _⟩ := I.list hs
  rw [Vals.ref1 r]
  have hn : H s.heap.objs.size = none := I.hok.fresh (Nat.le_refl _)
  refine tx_call (P := X.prog) (w := X.w) xs (I.ok.hd hc) pl.isList (by simpa using rv.strs) (by unfold scanBound; omega) fun h' tk ks T pk k => ?_
  exact ⟨.ref _, upd H s.heap.objs.size (TxO X.w s.heap.objs.size ks), I.laid (t' := tk) k (Nat.le_refl _) (txO_new T), rfl, q ks _ pk hn⟩
/-- sorted(found) -/
def rTxSort (w : World) : List V → Hp → VK → Prop := fun vs H Q => ∃ (a : Addr) (ks : List Str), vs = [V.ref a] ∧ Rd H a (TxO w a ks) ∧ ks.length < 64 ∧ ∀ ys p, ys.Perm ks → sortedS ys = true → H p = none → Q (.ref p) (upd H p (.lst (ys.map V.str)))
theorem cr_txSort (hc : X.calm = true) : CallR X (.builtin "sorted") (rTxSort X.w) := by
  intro pins s σ H vs us Q I r h
  obtain ⟨a, ks, rfl, ha, h64, q⟩ := h
  rw [Vals.ref1 r]
  refine tx_sorted (txO_get I ha) (I.ok.hd hc) h64 fun s' p out c ys k g o hp hg y1 y2 y3 => ?_
  have len : (ys.map V.str).length ≤ sizeLine := by rw [List.length_map, y2.length_eq, sizeLine_eq]; omega
  have hn : H p = none := I.hok.fresh hp
  have J : Inv X pins σ (upd H p (.lst (ys.map V.str))) { s with heap := s'.heap, gens := s'.gens, drawn := s'.drawn, toks := s'.toks } := I.call (ch := []) (Un.laid k hp hn) (I.hok.laid k hp ⟨len, out.toList, c, vals_of_strs y1, hg⟩) (by rw [g]; exact I.bare) (fun _ z => nomatch z)
  have e : s' = { s with heap := s'.heap, gens := s'.gens, drawn := s'.drawn, toks := s'.toks } := by
    cases s'; cases s; cases o; rfl
  rw [e]
  exact ⟨.ref p, _, J, rfl, q ys p y2 y3 hn⟩
end
/-! ### the one sorted row -/
def LeT (x y : Str) : Prop := x.cps.toList ≤ y.cps.toList
theorem leT_of {x y : Str} (h : ltCps y.cps.toList x.cps.toList = false) : LeT x y := by
  rw [ltCps_eq] at h
  exact of_decide_eq_false h
theorem LeT.tot (x y : Str) (h : ltCps y.cps.toList x.cps.toList = true) : LeT y x := by
  rw [ltCps_eq] at h
  rcases List.le_total x.cps.toList y.cps.toList with z | z
  · exact absurd (of_decide_eq_true h) z
  · exact z
theorem LeT.anti {x y : Str} (h1 : LeT x y) (h2 : LeT y x) : x = y := by
  have := List.le_antisymm h1 h2
  obtain ⟨⟨a⟩⟩ := x
  obtain ⟨⟨b⟩⟩ := y
  simp only at this
  rw [this]
theorem rising_pw : ∀ (r : List Str) (p : Str), risingS p r = true → (p :: r).Pairwise LeT
  | [], p, _ => List.pairwise_singleton _ _
  | x :: r, p, h => by
    unfold risingS at h
    rw [Bool.and_eq_true, Bool.not_eq_true'] at h
    have ih := rising_pw r x h.2
    have h1 := leT_of h.1
    refine List.pairwise_cons.mpr ⟨fun y hy => ?_, ih⟩
    rcases List.mem_cons.mp hy with rfl | hy
    · exact h1
    · exact List.le_trans h1 ((List.pairwise_cons.mp ih).1 y hy)
theorem sorted_pw : ∀ (l : List Str), sortedS l = true → l.Pairwise LeT
  | [], _ => .nil
  | x :: r, h => rising_pw r x h
def insS (x : Str) : List Str → List Str
  | [] => [x]
  | y :: r => if ltCps y.cps.toList x.cps.toList = true then y :: insS x r else x :: y :: r
def sortS (xs : List Str) : List Str := xs.foldr insS []
theorem insS_perm (x : Str) : ∀ l, (insS x l).Perm (x :: l)
  | [] => .refl _
  | y :: r => by
    unfold insS
    split
    · exact ((insS_perm x r).cons y).trans (.swap _ _ _)
    · exact .refl _
theorem insS_pw (x : Str) : ∀ l : List Str, l.Pairwise LeT → (insS x l).Pairwise LeT
  | [], _ => List.pairwise_singleton _ _
  | y :: r, h => by
    obtain ⟨h1, h2⟩ := List.pairwise_cons.mp h
    unfold insS
    split
    · rename_i z
      refine List.pairwise_cons.mpr ⟨fun u hu => ?_, insS_pw x r h2⟩
      rcases List.mem_cons.mp ((insS_perm x r).mem_iff.mp hu) with rfl | hu
      · exact LeT.tot _ _ z
      · exact h1 u hu
    · rename_i z
      have z1 : LeT x y := leT_of (by simpa using z)
      refine List.pairwise_cons.mpr ⟨fun u hu => ?_, h⟩
      rcases List.mem_cons.mp hu with rfl | hu
      · exact z1
      · exact List.le_trans z1 (h1 u hu)
theorem sortS_perm : ∀ l, (sortS l).Perm l
  | [] => .refl _
  | x :: r => (insS_perm x (sortS r)).trans ((sortS_perm r).cons x)
theorem sortS_pw : ∀ l, (sortS l).Pairwise LeT
  | [] => .nil
  | x :: r => insS_pw x _ (sortS_pw r)
theorem sortS_one {ys xs : List Str} (p : ys.Perm xs) (h : sortedS ys = true) : ys = sortS xs :=
  List.Perm.eq_of_pairwise (le := LeT) (fun _ _ _ _ a b => a.anti b) (sorted_pw ys h) (sortS_pw xs) (p.trans (sortS_perm xs).symm)
end Zed
end
section
set_option Elab.async false
set_option linter.all false
set_option maxRecDepth 100000
namespace Zed
open PySem L2

mutual
/-- values: tuples are deep; what changes is a place in the heap (ref); what nobody changes any more is a value itself (fz) -/
inductive PV where
  | non | bl (b : Bool) | int (i : Int) | str (x : Str) | tup (ds : List PV) | fz (o : PObj) | ref (i : Nat) | ty (n : String) | gl (k : Nat) | scr (ns : List Int)
inductive PObj where
  | lst (ds : List PV)
  | dic (kvs : List (PV × PV))
  | set (ds : List PV)
  | ins (c : Nat) (fs : List (Nat × PV))
end
abbrev PV.fl (ds : List PV) : PV := .fz (.lst ds)
abbrev PHeap := List PObj
inductive R (α : Type) where
  | ok (a : α) (h : PHeap)
  | exc (c : PV) (fs : List (Nat × PV)) (h : PHeap)
  | stuck
def R.bind {α β : Type} (m : R α) (k : α → PHeap → R β) : R β :=
  match m with
  | .ok a h => k a h
  | .exc c fs h => .exc c fs h
  | .stuck => .stuck
@[simp] theorem R.bind_ok {α β : Type} (a : α) (h : PHeap) (k : α → PHeap → R β) : (R.ok a h).bind k = k a h := rfl
@[simp] theorem R.bind_exc {α β : Type} (c : PV) (fs : List (Nat × PV)) (h : PHeap) (k : α → PHeap → R β) : (R.exc c fs h : R α).bind k = .exc c fs h := rfl
@[simp] theorem R.bind_stuck {α β : Type} (k : α → PHeap → R β) : (R.stuck : R α).bind k = .stuck := rfl

/-! ### how abstract things lie in the abstract heap of HandS -/
/-- a list that nobody changes -/
def FzL (K : PySem.W.Frag) (H : Hp) (a : Addr) (xs : List V) : Prop := ∃ o, H a = some (.frz o (.lst xs))
/-- the script: a list of numbers, locked or written -/
def FzK (K : PySem.W.Frag) (H : Hp) (a : Addr) (xs : List V) : Prop := FzL K H a xs ∨
    ∃ (o : Obj) (its : Array Value) (n : Nat), K.lookup a = some o ∧ o.cls = .type "list" ∧ o.dict = none ∧ o.data = .seq its n ∧ its.size ≤ sizeLine ∧ Vals xs its.toList
theorem FzL.sq {K : PySem.W.Frag} {H : Hp} {a : Addr} {xs : List V} (h : FzL K H a xs) : SqL K H a xs := .inl (.inr h)
theorem FzK.sq {K : PySem.W.Frag} {H : Hp} {a : Addr} {xs : List V} (h : FzK K H a xs) : SqL K H a xs := h.elim (fun h => h.sq) .inr
theorem FzL.rd {K : PySem.W.Frag} {H : Hp} {a : Addr} {xs : List V} (h : FzL K H a xs) : Rd H a (.lst xs) := .inr h

/-- the written part, the module's names -/
structure Gc where
  K : PySem.W.Frag
  mg : Str → Option Value
  /-- the names' numbers: the module's names, the attributes -/
  nm : Nat → Str
  P : Program
  w : World
  /-- classes with slots: a class's attribute's place -/
  isSl : Nat → Bool
  slot : Nat → Nat → Option Nat
  fld : Nat → Nat → Bool
  /-- tables of code objects: the table's place, the lambda's qualified name -/
  T : List (Addr × Str)

mutual
/-- a value as a key of a dict -/
def nkOf : PV → Option NestedKey
  | .non => some .none
  | .bl b => some (.num (if b = true then 1 else 0))
  | .int i => some (.num i)
  | .str x => some (.text x)
  | .tup ds => (nkOfs ds).map .tup
  | _ => none
def nkOfs : List PV → Option (List NestedKey)
  | [] => some []
  | d :: ds => match nkOf d, nkOfs ds with
    | some k, some ks => some (k :: ks)
    | _, _ => none
end
def keyOf : PV → Option Key
  | .int i => some (.inl i)
  | .str x => some (.inr x)
  | _ => none
/-- a dict whose keys are tuples -/
def NdO (P : Program) (w : World) (a : Addr) (xs : List (NestedKey × Addr × Value)) : HO := .ext fun h => ∃ o es ep, h.get? a = some o ∧ o.ExactDict ∧ o.data = .dict es ep ∧ es.toList = xs.map (entryOfKey (nestedKind P w))
/-- an instance with slots: where its own dict may stand -/
def SlW (H : Hp) (a dx : Addr) : Prop := dx ≠ a ∧ (H dx = some (.own a) ∨ H dx = some (.xd []))

mutual
inductive RepV (G : Gc) (φ : List Addr) (H : Hp) : PV → V → Prop
  | non : RepV G φ H .non .non
  | bl (b : Bool) : RepV G φ H (.bl b) (.bl b)
  | int (i : Int) : RepV G φ H (.int i) (.int i)
  | str (x : Str) : RepV G φ H (.str x) (.str x)
  | ty (n : String) : RepV G φ H (.ty n) (.ty n)
  | tup {a : Addr} {vs : List V} {ds : List PV} : SqT G.K H a vs → RepVs G φ H ds vs → RepV G φ H (.tup ds) (.ref a)
  | fl {a : Addr} {vs : List V} {ds : List PV} : FzL G.K H a vs → RepVs G φ H ds vs → RepV G φ H (.fz (.lst ds)) (.ref a)
  | fdK {a : Addr} {ob : Obj} {kvs : List (PV × PV)} {ks : List (Key × V)} : kvs.length ≤ sizeLine → H a = some (.frz ob (.dK ks)) → RepKs G φ H kvs ks → RepV G φ H (.fz (.dic kvs)) (.ref a)
  | fdN {a : Addr} {ob : Obj} {kvs : List (PV × PV)} {xs : List (NestedKey × Addr × Value)} : kvs.length ≤ sizeLine → kvs ≠ [] → H a = some (.frz ob (NdO G.P G.w a xs)) → (a == sysModules) = false → (xs.map (·.1)).Nodup → RepEs G φ H kvs xs → RepV G φ H (.fz (.dic kvs)) (.ref a)
  | fset {a : Addr} {ob : Obj} {ds : List PV} {xs ks : List Str} : ds = xs.map PV.str → H a = some (.frz ob (TxO G.w a ks)) → ks.Perm xs → xs.length < 64 → RepV G φ H (.fz (.set ds)) (.ref a)
  | fiP {a C dx : Addr} {c : Nat} {fs : List (Nat × PV)} {fs' : List (Str × V)} (vs : Nat → V) : (fs.map (·.1)).Nodup → a ∉ φ → G.mg (G.nm c) = some (.ref C) → G.isSl c = false → H a = some (.ins C dx fs') → fs'.length ≤ fs.length →
      (∀ f d, fs.lookup f = some d → G.fld c f = true ∧ fs'.lookup (G.nm f) = some (vs f)) → (∀ f d, fs.lookup f = some d → RepV G φ H d (vs f)) → (∀ x v, fs'.lookup x = some v → ∃ f, G.nm f = x ∧ (fs.lookup f).isSome = true) → RepV G φ H (.fz (.ins c fs)) (.ref a)
  | fiS {a C dx : Addr} {c : Nat} {fs : List (Nat × PV)} {ws : List (Option V)} (vs : Nat → V) : (fs.map (·.1)).Nodup → a ∉ φ → G.mg (G.nm c) = some (.ref C) → G.isSl c = true → SlX.Slt H a C dx ws → SlW H a dx →
      (∀ f d, fs.lookup f = some d → ∃ i, G.slot c f = some i ∧ ws[i]? = some (some (vs f))) → (∀ f d, fs.lookup f = some d → RepV G φ H d (vs f)) → RepV G φ H (.fz (.ins c fs)) (.ref a)
  | scr {a : Addr} {ns : List Int} : FzK G.K H a (ns.map V.int) → RepV G φ H (.scr ns) (.ref a)
  | ref {i : Nat} {a : Addr} : φ[i]? = some a → RepV G φ H (.ref i) (.ref a)
  | gl {k : Nat} {a : Addr} : G.mg (G.nm k) = some (.ref a) → RepV G φ H (.gl k) (.ref a)
inductive RepVs (G : Gc) (φ : List Addr) (H : Hp) : List PV → List V → Prop
  | nil : RepVs G φ H [] []
  | cons {d : PV} {v : V} {ds : List PV} {vs : List V} : RepV G φ H d v → RepVs G φ H ds vs → RepVs G φ H (d :: ds) (v :: vs)
/-- the pairs of a dict: keys that are numbers and texts -/
inductive RepKs (G : Gc) (φ : List Addr) (H : Hp) : List (PV × PV) → List (Key × V) → Prop
  | nil : RepKs G φ H [] []
  | cons {p : PV × PV} {q : Key × V} {l : List (PV × PV)} {m : List (Key × V)} : keyOf p.1 = some q.1 → RepV G φ H p.2 q.2 → RepKs G φ H l m → RepKs G φ H (p :: l) (q :: m)
/-- .. keys that are tuples -/
inductive RepEs (G : Gc) (φ : List Addr) (H : Hp) : List (PV × PV) → List (NestedKey × Addr × Value) → Prop
  | nil : RepEs G φ H [] []
  | cons {p : PV × PV} {x : NestedKey × Addr × Value} {v : V} {l : List (PV × PV)} {m : List (NestedKey × Addr × Value)} : nkOf p.1 = some x.1 → x.1.depth ≤ 8 → RepV G φ H p.1 (.ref x.2.1) → RelV v x.2.2 → RepV G φ H p.2 v → RepEs G φ H l m → RepEs G φ H (p :: l) (x :: m)
end
def RepE (G : Gc) (φ : List Addr) (H : Hp) (p : PV × PV) (x : NestedKey × Addr × Value) : Prop :=
  nkOf p.1 = some x.1 ∧ x.1.depth ≤ 8 ∧ RepV G φ H p.1 (.ref x.2.1) ∧ ∃ v, RelV v x.2.2 ∧ RepV G φ H p.2 v
def RepK (G : Gc) (φ : List Addr) (H : Hp) (p : PV × PV) (q : Key × V) : Prop := keyOf p.1 = some q.1 ∧ RepV G φ H p.2 q.2
theorem RepKs.pd {G : Gc} {φ : List Addr} {H : Hp} : ∀ {l : List (PV × PV)} {m : List (Key × V)}, RepKs G φ H l m → Paired (RepK G φ H) l m
  | _, _, .nil => .nil
  | _, _, .cons a b c => .cons ⟨a, b⟩ c.pd
theorem RepKs.of {G : Gc} {φ : List Addr} {H : Hp} : ∀ {l : List (PV × PV)} {m : List (Key × V)}, Paired (RepK G φ H) l m → RepKs G φ H l m
  | _, _, .nil => .nil
  | _, _, .cons a c => .cons a.1 a.2 (RepKs.of c)
theorem RepEs.pd {G : Gc} {φ : List Addr} {H : Hp} : ∀ {l : List (PV × PV)} {m : List (NestedKey × Addr × Value)}, RepEs G φ H l m → Paired (RepE G φ H) l m
  | _, _, .nil => .nil
  | _, _, .cons a b c d e f => .cons ⟨a, b, c, _, d, e⟩ f.pd
theorem RepEs.of {G : Gc} {φ : List Addr} {H : Hp} : ∀ {l : List (PV × PV)} {m : List (NestedKey × Addr × Value)}, Paired (RepE G φ H) l m → RepEs G φ H l m
  | _, _, .nil => .nil
  | _, _, .cons ⟨a, b, c, _, d, e⟩ f => .cons a b c d e (RepEs.of f)
def RepO (G : Gc) (φ : List Addr) (H : Hp) (a : Addr) : PObj → Prop
  | .lst ds => ∃ vs, H a = some (.lst vs) ∧ RepVs G φ H ds vs
  | .dic kvs => kvs.length ≤ sizeLine ∧ ((∃ kvs', H a = some (.dK kvs') ∧ Paired (RepK G φ H) kvs kvs') ∨
      ∃ xs, kvs ≠ [] ∧ H a = some (NdO G.P G.w a xs) ∧ (a == sysModules) = false ∧ (xs.map (·.1)).Nodup ∧ Paired (RepE G φ H) kvs xs)
  | .set ds => ∃ xs ks : List Str, ds = xs.map PV.str ∧ H a = some (TxO G.w a ks) ∧ ks.Perm xs ∧ xs.length < 64
  | .ins c fs => (fs.map (·.1)).Nodup ∧ ∃ C dx, G.mg (G.nm c) = some (.ref C) ∧
      ((G.isSl c = false ∧ ∃ fs', H a = some (.ins C dx fs') ∧ fs'.length ≤ fs.length ∧ (∀ f d, fs.lookup f = some d → G.fld c f = true ∧ ∃ v, fs'.lookup (G.nm f) = some v ∧ RepV G φ H d v) ∧ ∀ x v, fs'.lookup x = some v → ∃ f, G.nm f = x ∧ (fs.lookup f).isSome = true) ∨
       (G.isSl c = true ∧ ∃ vs, SlX.Slt H a C dx vs ∧ SlW H a dx ∧ ∀ f d, fs.lookup f = some d → ∃ i v, G.slot c f = some i ∧ vs[i]? = some (some v) ∧ RepV G φ H d v))
/-- a table of code objects, none of them an object of ours -/
def TabZ (φ : List Addr) (H : Hp) (P : Addr) (q : Str) : Prop :=
  ∃ ps : Array Value, H P = some (.tbl ps) ∧ TriplesOk ps.toList ∧ ∀ (pos : Pos) (cv : Value), codeAmong pos ps.toList = some cv → ∃ c, cv = .ref c ∧ c ∉ φ ∧ H c = some (LamX.CodeO c q)
structure RelH (G : Gc) (φ : List Addr) (h : PHeap) (H : Hp) : Prop where
  tab : ∀ p ∈ G.T, TabZ φ H p.1 p.2
  len : φ.length = h.length
  nd : φ.Nodup
  obj : ∀ (i : Nat) (o : PObj) (a : Addr), h[i]? = some o → φ[i]? = some a → RepO G φ H a o
/-- from φ, H on to φ', H': new places were free, what lies outside φ is kept (an instance's own dict may turn) -/
def Stays : HO → Prop
  | .own _ => False
  | .tbl _ => False
  | _ => True
structure Ext (φ : List Addr) (H : Hp) (φ' : List Addr) (H' : Hp) : Prop where
  pre : φ <+: φ'
  new : ∀ a, a ∈ φ' → a ∉ φ → ∀ o, H a = some o → (∀ ps, o ≠ .tbl ps) → False
  keep : ∀ a o, H a = some o → a ∉ φ → Stays o → H' a = some o
  own : ∀ a x, H a = some (.own x) → a ∉ φ → H' a = some (.own x) ∨ H' a = some (.xd [])
theorem Stays.nt {o : HO} (s : Stays o) : ∀ ps, o ≠ .tbl ps := fun ps e => by subst e; exact s
theorem Ext.refl {φ : List Addr} {H : Hp} : Ext φ H φ H := ⟨List.prefix_refl _, fun _ h n => absurd h n, fun _ _ h _ _ => h, fun _ _ h _ => .inl h⟩
theorem Ext.live {φ φ' : List Addr} {H H' : Hp} (x : Ext φ H φ' H') : ∀ a o, H a = some o → (∀ ps, o ≠ .tbl ps) → a ∉ φ → ∃ o', H' a = some o' ∧ ∀ ps, o' ≠ .tbl ps := fun a o h nt n => by
  cases o with
  | own y =>
    rcases x.own a y h n with e | e
    · exact ⟨_, e, fun _ z => nomatch z⟩
    · exact ⟨_, e, fun _ z => nomatch z⟩
  | tbl ps => exact absurd rfl (nt ps)
  | _ => exact ⟨_, x.keep a _ h n trivial, nt⟩
theorem Ext.trans {φ φ1 φ2 : List Addr} {H H1 H2 : Hp} (a : Ext φ H φ1 H1) (b : Ext φ1 H1 φ2 H2) : Ext φ H φ2 H2 where
  pre := a.pre.trans b.pre
  new := fun x h n o e nt => by
    by_cases q : x ∈ φ1
    · exact a.new x q n o e nt
    · obtain ⟨o', e', nt'⟩ := a.live x o e nt n
      exact b.new x h q o' e' nt'
  keep := fun x o h n no => b.keep x o (a.keep x o h n no) (fun q => a.new x q n o h no.nt) no
  own := fun x y h n => by
    have nx : x ∉ φ1 := fun q => a.new x q n _ h fun _ z => nomatch z
    rcases a.own x y h n with e | e
    · exact b.own x y e nx
    · exact .inr (b.keep x _ e nx trivial)
/-- kept outside of φ: all -/
theorem Ext.of {φ φ' : List Addr} {H H' : Hp} (pre : φ <+: φ') (new : ∀ a, a ∈ φ' → a ∉ φ → H a = none) (keep : ∀ a o, H a = some o → a ∉ φ → H' a = some o) : Ext φ H φ' H' :=
  ⟨pre, fun a h n o e _ => (nomatch (new a h n).symm.trans e), fun a o h n _ => keep a o h n, fun a x h n => .inl (keep a _ h n)⟩
/-- a table stays, where all outside of φ stays -/
theorem TabZ.stay {φ φ' : List Addr} {H H' : Hp} {P : Addr} {q : Str} (t : TabZ φ H P q) (nP : P ∉ φ) (new : ∀ a, a ∈ φ' → a ∉ φ → ∀ o, H a = some o → (∀ ps, o ≠ .tbl ps) → False) (keep : ∀ a o, H a = some o → a ∉ φ → (∀ x, o ≠ .own x) → (∀ xs, o ≠ .lst xs) → H' a = some o) : TabZ φ' H' P q := by
  obtain ⟨ps, e, k, f⟩ := t
  refine ⟨ps, keep _ _ e nP (fun _ z => (nomatch z)) (fun _ z => (nomatch z)), k, fun pos cv hc => ?_⟩
  obtain ⟨c, e1, n, e2⟩ := f pos cv hc
  refine ⟨c, e1, fun hm => ?_, keep _ _ e2 n (fun _ z => (nomatch z)) (fun _ z => (nomatch z))⟩
  exact new c hm n _ e2 fun _ z => nomatch z
theorem pre_get {φ φ' : List Addr} (h : φ <+: φ') {i : Nat} {a : Addr} (e : φ[i]? = some a) : φ'[i]? = some a := by
  obtain ⟨t, rfl⟩ := h
  obtain ⟨hi, _⟩ := List.getElem?_eq_some_iff.mp e
  rw [List.getElem?_append_left hi]; exact e
theorem RepO.some {G : Gc} {φ : List Addr} {H : Hp} {a : Addr} {o : PObj} (h : RepO G φ H a o) : ∃ u, H a = some u ∧ (∀ xs, u ≠ .tup xs) ∧ (∀ ob q, u ≠ .frz ob q) ∧ (∀ x, u ≠ .own x) ∧ (∀ fs, u ≠ .xd fs) ∧ ∀ ps, u ≠ .tbl ps := by
  cases o with
  | lst ds => obtain ⟨vs, e, _⟩ := h; exact ⟨_, e, fun _ q => (nomatch q), fun _ _ q => (nomatch q), fun _ q => (nomatch q), fun _ q => (nomatch q), fun _ q => (nomatch q)⟩
  | dic kvs =>
    obtain ⟨_, ⟨_, e, _⟩ | ⟨_, _, e, _⟩⟩ := h
    · exact ⟨_, e, fun _ q => (nomatch q), fun _ _ q => (nomatch q), fun _ q => (nomatch q), fun _ q => (nomatch q), fun _ q => (nomatch q)⟩
    · exact ⟨_, e, fun _ q => (nomatch q), fun _ _ q => (nomatch q), fun _ q => (nomatch q), fun _ q => (nomatch q), fun _ q => (nomatch q)⟩
  | set => obtain ⟨_, _, _, e, _⟩ := h; exact ⟨_, e, fun _ q => (nomatch q), fun _ _ q => (nomatch q), fun _ q => (nomatch q), fun _ q => (nomatch q), fun _ q => (nomatch q)⟩
  | ins c fs =>
    obtain ⟨_, C, dx, _, ⟨_, _, e, _⟩ | ⟨_, _, ⟨e, _⟩ | ⟨e, _⟩, _⟩⟩ := h
    · exact ⟨_, e, fun _ q => (nomatch q), fun _ _ q => (nomatch q), fun _ q => (nomatch q), fun _ q => (nomatch q), fun _ q => (nomatch q)⟩
    · exact ⟨_, e, fun _ q => (nomatch q), fun _ _ q => (nomatch q), fun _ q => (nomatch q), fun _ q => (nomatch q), fun _ q => (nomatch q)⟩
    · exact ⟨_, e, fun _ q => (nomatch q), fun _ _ q => (nomatch q), fun _ q => (nomatch q), fun _ q => (nomatch q), fun _ q => (nomatch q)⟩
section
variable {G : Gc} {φ φ' : List Addr} {h h' : PHeap} {H H' : Hp} {a : Addr} {d : PV} {v : V} {ds : List PV} {vs : List V} {l : List (Option PV)} {σ : St}
theorem RelH.at (r : RelH G φ h H) (hm : a ∈ φ) : ∃ (i : Nat) (o : PObj), φ[i]? = some a ∧ h[i]? = some o ∧ RepO G φ H a o := by
  obtain ⟨i, hi, e⟩ := List.mem_iff_getElem.mp hm
  have hi' : i < h.length := by rw [← r.len]; exact hi
  have e1 : φ[i]? = some a := by rw [List.getElem?_eq_getElem hi, e]
  exact ⟨i, h[i], e1, List.getElem?_eq_getElem hi', r.obj i _ a (List.getElem?_eq_getElem hi') e1⟩
theorem RelH.notTup (r : RelH G φ h H) {xs : List V} (e : H a = some (.tup xs)) : a ∉ φ := fun hm => by
  obtain ⟨i, o, _, _, ro⟩ := r.at hm
  obtain ⟨u, eu, n, _⟩ := ro.some
  rw [eu] at e; cases e; exact n _ rfl
theorem RelH.notFrz (r : RelH G φ h H) {o : Obj} {q : HO} (e : H a = some (.frz o q)) : a ∉ φ := fun hm => by
  obtain ⟨i, _, _, _, ro⟩ := r.at hm
  obtain ⟨u, eu, _, n, _⟩ := ro.some
  rw [eu] at e; cases e; exact n _ _ rfl
theorem RelH.notXd (r : RelH G φ h H) {fs : List (Str × V)} (e : H a = some (.xd fs)) : a ∉ φ := fun hm => by
  obtain ⟨i, _, _, _, ro⟩ := r.at hm
  obtain ⟨u, eu, _, _, _, n, _⟩ := ro.some
  rw [eu] at e; cases e; exact n _ rfl
theorem RelH.notOwn (r : RelH G φ h H) {x : Addr} (e : H a = some (.own x)) : a ∉ φ := fun hm => by
  obtain ⟨i, _, _, _, ro⟩ := r.at hm
  obtain ⟨u, eu, _, _, n, _⟩ := ro.some
  rw [eu] at e; cases e; exact n _ rfl
theorem RelH.notTbl (r : RelH G φ h H) {ps : Array Value} (e : H a = some (.tbl ps)) : a ∉ φ := fun hm => by
  obtain ⟨i, _, _, _, ro⟩ := r.at hm
  obtain ⟨u, eu, _, _, _, _, n⟩ := ro.some
  rw [eu] at e; cases e; exact n _ rfl
theorem RelH.tabs (r : RelH G φ h H) (new : ∀ a, a ∈ φ' → a ∉ φ → ∀ o, H a = some o → (∀ ps, o ≠ .tbl ps) → False) (keep : ∀ a o, H a = some o → a ∉ φ → (∀ x, o ≠ .own x) → (∀ xs, o ≠ .lst xs) → H' a = some o) : ∀ p ∈ G.T, TabZ φ' H' p.1 p.2 := fun p hp => by
  have t := r.tab p hp
  obtain ⟨ps, e, _⟩ := id t
  exact t.stay (r.notTbl e) new keep
theorem RelH.free (r : RelH G φ h H) {p : Addr} (e : H p = none) : p ∉ φ := fun hm => by
  obtain ⟨i, _, _, _, ro⟩ := r.at hm
  obtain ⟨u, eu, _⟩ := ro.some
  rw [eu] at e; cases e
theorem sqT_ext (r : RelH G φ h H) (x : Ext φ H φ' H') (s : SqT G.K H a vs) : SqT G.K H' a vs := by
  rcases s with (s | ⟨o, s⟩) | s
  · exact .inl (.inl (x.keep _ _ s (r.notTup s) trivial))
  · exact .inl (.inr ⟨o, x.keep _ _ s (r.notFrz s) trivial⟩)
  · exact .inr s
theorem fzL_ext (r : RelH G φ h H) (x : Ext φ H φ' H') (s : FzL G.K H a vs) : FzL G.K H' a vs := by
  obtain ⟨o, s⟩ := s
  exact ⟨o, x.keep _ _ s (r.notFrz s) trivial⟩
theorem fzK_ext (r : RelH G φ h H) (x : Ext φ H φ' H') (s : FzK G.K H a vs) : FzK G.K H' a vs := s.imp (fzL_ext r x) id
theorem Ext.nin (x : Ext φ H φ' H') {o : HO} (e : H a = some o) (n : a ∉ φ) (nt : ∀ ps, o ≠ .tbl ps) : a ∉ φ' := fun h => x.new a h n o e nt
theorem SlW.ext (r : RelH G φ h H) (x : Ext φ H φ' H') {dx : Addr} (s : SlW H a dx) : SlW H' a dx :=
  ⟨s.1, s.2.elim (fun q => x.own _ _ q (r.notOwn q)) fun q => .inr (x.keep _ _ q (r.notXd q) trivial)⟩
theorem Slt.ext (r : RelH G φ h H) (x : Ext φ H φ' H') (n : a ∉ φ) {C dx : Addr} {ws : List (Option V)} (s : SlX.Slt H a C dx ws) : SlX.Slt H' a C dx ws := by
  rcases s with ⟨h1, h2⟩ | ⟨h1, h2⟩
  · exact .inl ⟨x.keep _ _ h1 n trivial, h2⟩
  · exact .inr ⟨x.keep _ _ h1 n trivial, x.keep _ _ h2 (r.notXd h2) trivial⟩
theorem Slt.some {C dx : Addr} {ws : List (Option V)} (s : SlX.Slt H a C dx ws) : ∃ o, H a = .some o ∧ ∀ ps, o ≠ .tbl ps := by
  rcases s with ⟨h1, _⟩ | ⟨h1, _⟩ <;> exact ⟨_, h1, fun _ z => nomatch z⟩
mutual
theorem repV_ext (r : RelH G φ h H) (x : Ext φ H φ' H') : ∀ {d : PV} {v : V}, RepV G φ H d v → RepV G φ' H' d v
  | _, _, .non => .non
  | _, _, .bl b => .bl b
  | _, _, .int i => .int i
  | _, _, .str s => .str s
  | _, _, .ty n => .ty n
  | _, _, .tup s q => .tup (sqT_ext r x s) (repVs_ext r x q)
  | _, _, .fl s q => .fl (fzL_ext r x s) (repVs_ext r x q)
  | _, _, .fdK z e q => .fdK z (x.keep _ _ e (r.notFrz e) trivial) (repKs_ext r x q)
  | _, _, .fdN z ne e m nd q => .fdN z ne (x.keep _ _ e (r.notFrz e) trivial) m nd (repEs_ext r x q)
  | _, _, .fset z e p l => .fset z (x.keep _ _ e (r.notFrz e) trivial) p l
  | _, _, .fiP vs u n c s e l k q w => .fiP vs u (x.nin e n fun _ z => nomatch z) c s (x.keep _ _ e n trivial) l k (fun f d hf => repV_ext r x (q f d hf)) w
  | _, _, .fiS vs u n c s e l k q => .fiS vs u (let ⟨_, e1, nt⟩ := Slt.some e; x.nin e1 n nt) c s (Slt.ext r x n e) (l.ext r x) k (fun f d hf => repV_ext r x (q f d hf))
  | _, _, .scr e => .scr (fzK_ext r x e)
  | _, _, .ref e => .ref (pre_get x.pre e)
  | _, _, .gl e => .gl e
theorem repVs_ext (r : RelH G φ h H) (x : Ext φ H φ' H') : ∀ {ds : List PV} {vs : List V}, RepVs G φ H ds vs → RepVs G φ' H' ds vs
  | _, _, .nil => .nil
  | _, _, .cons a b => .cons (repV_ext r x a) (repVs_ext r x b)
theorem repKs_ext (r : RelH G φ h H) (x : Ext φ H φ' H') : ∀ {l : List (PV × PV)} {m : List (Key × V)}, RepKs G φ H l m → RepKs G φ' H' l m
  | _, _, .nil => .nil
  | _, _, .cons a b c => .cons a (repV_ext r x b) (repKs_ext r x c)
theorem repEs_ext (r : RelH G φ h H) (x : Ext φ H φ' H') : ∀ {l : List (PV × PV)} {m : List (NestedKey × Addr × Value)}, RepEs G φ H l m → RepEs G φ' H' l m
  | _, _, .nil => .nil
  | _, _, .cons a b c d e f => .cons a b (repV_ext r x c) d (repV_ext r x e) (repEs_ext r x f)
end
theorem RepVs.length : ∀ {ds : List PV} {vs : List V}, RepVs G φ H ds vs → ds.length = vs.length
  | _, _, .nil => rfl
  | _, _, .cons _ b => by simp [RepVs.length b]
theorem RepVs.append : ∀ {ds es : List PV} {vs ws : List V}, RepVs G φ H ds vs → RepVs G φ H es ws → RepVs G φ H (ds ++ es) (vs ++ ws)
  | _, _, _, _, .nil, q => q
  | _, _, _, _, .cons a b, q => .cons a (b.append q)
theorem RepVs.get : ∀ {ds : List PV} {vs : List V} {i : Nat} {d : PV}, RepVs G φ H ds vs → ds[i]? = some d → ∃ v, vs[i]? = some v ∧ RepV G φ H d v
  | _, _, _, _, .nil, e => by simp at e
  | _, _, 0, _, .cons a b, e => by simp at e; subst e; exact ⟨_, rfl, a⟩
  | _, _, i + 1, _, .cons a b, e => by simpa using b.get (i := i) (by simpa using e)
/-- the slots -/
def RepL (G : Gc) (φ : List Addr) (H : Hp) (l : List (Option PV)) (σ : St) : Prop :=
  l.length = σ.length ∧ ∀ (i : Nat) (d : PV), l[i]? = some (some d) → ∃ v, σ[i]? = some (some v) ∧ RepV G φ H d v
theorem repL_ext (r : RelH G φ h H) (x : Ext φ H φ' H') (q : RepL G φ H l σ) : RepL G φ' H' l σ := ⟨q.1, fun i d e => by
  obtain ⟨v, e1, e2⟩ := q.2 i d e
  exact ⟨v, e1, repV_ext r x e2⟩⟩
theorem RepL.set (q : RepL G φ H l σ) {i : Nat} (rv : RepV G φ H d v) : RepL G φ H (l.set i (some d)) (σ.set i (some v)) := by
  refine ⟨by simpa using q.1, fun j e hj => ?_⟩
  by_cases z : j = i
  · subst z
    have hl : j < l.length := by
      have := (List.getElem?_eq_some_iff.mp hj).1
      simpa using this
    rw [List.getElem?_set_self hl] at hj
    cases hj
    exact ⟨v, List.getElem?_set_self (by rw [← q.1]; exact hl), rv⟩
  · rw [List.getElem?_set_ne (Ne.symm z)] at hj ⊢
    exact q.2 j e hj
end

/-! ### readings by functions -/
/-- an exception: its class, its own dict -/
def RepX (G : Gc) (φ : List Addr) (H : Hp) (c : PV) (fs : List (Nat × PV)) (cls : Value) (d : Option Addr) : Prop :=
  ((∃ x a, c = .gl x ∧ G.mg (G.nm x) = some (.ref a) ∧ cls = .ref a) ∨ ∃ n, c = .ty n ∧ cls = .type n) ∧
  (fs = [] ∨ ∃ dd ws, d = some dd ∧ H dd = some (.xd ws) ∧ ∀ f e, fs.lookup f = some e → ∃ w, ws.lookup (G.nm f) = some w ∧ RepV G φ H e w)

/-- what is wanted of an answer -/
def Post (G : Gc) (φ : List Addr) (H : Hp) (r : R PV) (Q : VK) (E : XK) : Prop :=
  match r with
  | .ok d h' => ∀ φ' H' v, Ext φ H φ' H' → RelH G φ' h' H' → RepV G φ' H' d v → Q v H'
  | .exc c fs h' => ∀ φ' H' cls dd, Ext φ H φ' H' → RelH G φ' h' H' → RepX G φ' H' c fs cls dd → E cls dd H'
  | .stuck => False
/-- a function of values and heap: the reading of a call, an operator -/
def rF (G : Gc) (F : List PV → PHeap → R PV) (vs : List V) (H : Hp) (Q : VK) (E : XK) : Prop :=
  ∃ φ h ds, RelH G φ h H ∧ RepVs G φ H ds vs ∧ Post G φ H (F ds h) Q E
abbrev Loc := List (Option PV)
/-- an expression's reading -/
def tEv (G : Gc) (W : WX) (f : Loc → PHeap → R PV) : TE := fun σ H Q =>
  ∃ φ l h, RelH G φ h H ∧ RepL G φ H l σ ∧ Post G φ H (f l h) Q (fun c d H' => W c d σ H')
/-- an argument list's -/
def PostA (G : Gc) (φ : List Addr) (H : Hp) (r : R (List PV)) (Q : List V → Hp → Prop) (E : XK) : Prop :=
  match r with
  | .ok ds h' => ∀ φ' H' vs, Ext φ H φ' H' → RelH G φ' h' H' → RepVs G φ' H' ds vs → Q vs H'
  | .exc c fs h' => ∀ φ' H' cls dd, Ext φ H φ' H' → RelH G φ' h' H' → RepX G φ' H' c fs cls dd → E cls dd H'
  | .stuck => False
def tEvA (G : Gc) (W : WX) (f : Loc → PHeap → R (List PV)) : TA := fun σ H Q =>
  ∃ φ l h, RelH G φ h H ∧ RepL G φ H l σ ∧ PostA G φ H (f l h) Q (fun c d H' => W c d σ H')
/-- a test's -/
def PostT (G : Gc) (φ : List Addr) (H : Hp) (r : R Bool) (Q : Bool → Hp → Prop) (E : XK) : Prop :=
  match r with
  | .ok b h' => ∀ φ' H', Ext φ H φ' H' → RelH G φ' h' H' → Q b H'
  | .exc c fs h' => ∀ φ' H' cls dd, Ext φ H φ' H' → RelH G φ' h' H' → RepX G φ' H' c fs cls dd → E cls dd H'
  | .stuck => False
def tEvT (G : Gc) (W : WX) (f : Loc → PHeap → R Bool) : TT := fun σ H Q =>
  ∃ φ l h, RelH G φ h H ∧ RepL G φ H l σ ∧ PostT G φ H (f l h) Q (fun c d H' => W c d σ H')

section
variable {G : Gc} {φ : List Addr} {h : PHeap} {H : Hp} {W : WX} {l : Loc} {σ : St}
theorem Post.bind {r : R PV} {k : PV → PHeap → R PV} {Q : VK} {E : XK} (p : Post G φ H (r.bind k) Q E) :
    Post G φ H r (fun v H1 => ∃ φ1 h1 d1, Ext φ H φ1 H1 ∧ RelH G φ1 h1 H1 ∧ RepV G φ1 H1 d1 v ∧ Post G φ H (k d1 h1) Q E) E := by
  cases r with
  | ok d h' => exact fun φ' H' v x rh rv => ⟨φ', h', d, x, rh, rv, p⟩
  | exc c fs h' => exact p
  | stuck => exact p
theorem Post.ext {φ1 : List Addr} {H1 : Hp} {r : R PV} {Q : VK} {E : XK} (x : Ext φ H φ1 H1) (p : Post G φ H r Q E) : Post G φ1 H1 r Q E := by
  cases r with
  | ok d h' => exact fun φ' H' v x1 rh rv => p φ' H' v (x.trans x1) rh rv
  | exc c fs h' => exact fun φ' H' cls dd x1 rh rx => p φ' H' cls dd (x.trans x1) rh rx
  | stuck => exact p
theorem PostA.ext {φ1 : List Addr} {H1 : Hp} {r : R (List PV)} {Q : List V → Hp → Prop} {E : XK} (x : Ext φ H φ1 H1) (p : PostA G φ H r Q E) : PostA G φ1 H1 r Q E := by
  cases r with
  | ok d h' => exact fun φ' H' v x1 rh rv => p φ' H' v (x.trans x1) rh rv
  | exc c fs h' => exact fun φ' H' cls dd x1 rh rx => p φ' H' cls dd (x.trans x1) rh rx
  | stuck => exact p
theorem PostT.ext {φ1 : List Addr} {H1 : Hp} {r : R Bool} {Q : Bool → Hp → Prop} {E : XK} (x : Ext φ H φ1 H1) (p : PostT G φ H r Q E) : PostT G φ1 H1 r Q E := by
  cases r with
  | ok d h' => exact fun φ' H' x1 rh => p φ' H' (x.trans x1) rh
  | exc c fs h' => exact fun φ' H' cls dd x1 rh rx => p φ' H' cls dd (x.trans x1) rh rx
  | stuck => exact p
theorem Post.mono {r : R PV} {Q Q' : VK} {E : XK} (p : Post G φ H r Q E) (hq : ∀ v H', Q v H' → Q' v H') : Post G φ H r Q' E := by
  cases r with
  | ok d h' => exact fun φ' H' v x1 rh rv => hq _ _ (p φ' H' v x1 rh rv)
  | exc c fs h' => exact p
  | stuck => exact p
end
/-- weaken a reading -/
theorem pe_imp {X : Cx} {e : Expr} {t t' : TE} (h : PE X e t) (i : ∀ σ H Q, t' σ H Q → t σ H Q) : PE X e t' := ⟨fun pins s σ H Q I q => h.run pins s σ H Q I (i _ _ _ q)⟩
theorem pt_imp {X : Cx} {e : Expr} {t t' : TT} (h : PT X e t) (i : ∀ σ H Q, t' σ H Q → t σ H Q) : PT X e t' := ⟨fun pins s σ H Q I q => h.run pins s σ H Q I (i _ _ _ q)⟩
theorem pa_imp {X : Cx} {e : List Expr} {t t' : TA} (h : PA X e t) (i : ∀ σ H Q, t' σ H Q → t σ H Q) : PA X e t' := ⟨fun pos pins s σ H Q I q => h.run pos pins s σ H Q I (i _ _ _ q)⟩
theorem ps_imp {X : Cx} {e : Stmt} {t t' : TS} (h : PS X e t) (i : ∀ D σ H, t' D σ H → t D σ H) : PS X e t' := ⟨fun pins s σ H D I q => h.run pins s σ H D I (i _ _ _ q)⟩
theorem pss_imp {X : Cx} {e : List Stmt} {t t' : TS} (h : PSs X e t) (i : ∀ D σ H, t' D σ H → t D σ H) : PSs X e t' := ⟨fun pins s σ H D I q => h.run pins s σ H D I (i _ _ _ q)⟩

/-- a built-in's work: a value and the heap behind it, or nothing -/
abbrev Pf := List PV → PHeap → Option (PV × PHeap)
def liftP : Option (PV × PHeap) → R PV
  | some (d, h) => .ok d h
  | none => .stuck
def rP (G : Gc) (F : Pf) (vs : List V) (H : Hp) (Q : VK) : Prop :=
  ∃ φ h ds d h', RelH G φ h H ∧ RepVs G φ H ds vs ∧ F ds h = some (d, h') ∧ ∀ φ' H' v, Ext φ H φ' H' → RelH G φ' h' H' → RepV G φ' H' d v → Q v H'
theorem Post.lift {G : Gc} {φ : List Addr} {H : Hp} {r : Option (PV × PHeap)} {Q : VK} {E : XK} (p : Post G φ H (liftP r) Q E) :
    ∃ d h', r = some (d, h') ∧ ∀ φ' H' v, Ext φ H φ' H' → RelH G φ' h' H' → RepV G φ' H' d v → Q v H' := by
  match r, p with
  | some (d, h'), p => exact ⟨d, h', rfl, p⟩
section
variable {G : Gc} {W : WX} {φ : List Addr} {h : PHeap} {H : Hp} {l : Loc} {σ : St}
theorem PostA.bind {r : R (List PV)} {k : List PV → PHeap → R PV} {Q : VK} {E : XK} (p : Post G φ H (r.bind k) Q E) :
    PostA G φ H r (fun v H1 => ∃ φ1 h1 d1, Ext φ H φ1 H1 ∧ RelH G φ1 h1 H1 ∧ RepVs G φ1 H1 d1 v ∧ Post G φ H (k d1 h1) Q E) E := by
  cases r with
  | ok d h' => exact fun φ' H' v x rh rv => ⟨φ', h', d, x, rh, rv, p⟩
  | exc c fs h' => exact p
  | stuck => exact p
theorem PostT.bind {r : R Bool} {k : Bool → PHeap → R PV} {Q : VK} {E : XK} (p : Post G φ H (r.bind k) Q E) :
    PostT G φ H r (fun b H1 => ∃ φ1 h1, Ext φ H φ1 H1 ∧ RelH G φ1 h1 H1 ∧ Post G φ H (k b h1) Q E) E := by
  cases r with
  | ok d h' => exact fun φ' H' x rh => ⟨φ', h', x, rh, p⟩
  | exc c fs h' => exact p
  | stuck => exact p
theorem Post.bindA {r : R PV} {k : PV → PHeap → R (List PV)} {Q : List V → Hp → Prop} {E : XK} (p : PostA G φ H (r.bind k) Q E) :
    Post G φ H r (fun v H1 => ∃ φ1 h1 d1, Ext φ H φ1 H1 ∧ RelH G φ1 h1 H1 ∧ RepV G φ1 H1 d1 v ∧ PostA G φ H (k d1 h1) Q E) E := by
  cases r with
  | ok d h' => exact fun φ' H' v x rh rv => ⟨φ', h', d, x, rh, rv, p⟩
  | exc c fs h' => exact p
  | stuck => exact p
theorem PostA.bindA {r : R (List PV)} {k : List PV → PHeap → R (List PV)} {Q : List V → Hp → Prop} {E : XK} (p : PostA G φ H (r.bind k) Q E) :
    PostA G φ H r (fun v H1 => ∃ φ1 h1 d1, Ext φ H φ1 H1 ∧ RelH G φ1 h1 H1 ∧ RepVs G φ1 H1 d1 v ∧ PostA G φ H (k d1 h1) Q E) E := by
  cases r with
  | ok d h' => exact fun φ' H' v x rh rv => ⟨φ', h', d, x, rh, rv, p⟩
  | exc c fs h' => exact p
  | stuck => exact p
theorem Post.bindT {r : R PV} {k : PV → PHeap → R Bool} {Q : Bool → Hp → Prop} {E : XK} (p : PostT G φ H (r.bind k) Q E) :
    Post G φ H r (fun v H1 => ∃ φ1 h1 d1, Ext φ H φ1 H1 ∧ RelH G φ1 h1 H1 ∧ RepV G φ1 H1 d1 v ∧ PostT G φ H (k d1 h1) Q E) E := by
  cases r with
  | ok d h' => exact fun φ' H' v x rh rv => ⟨φ', h', d, x, rh, rv, p⟩
  | exc c fs h' => exact p
  | stuck => exact p
theorem PostT.bindT {r : R Bool} {k : Bool → PHeap → R Bool} {Q : Bool → Hp → Prop} {E : XK} (p : PostT G φ H (r.bind k) Q E) :
    PostT G φ H r (fun b H1 => ∃ φ1 h1, Ext φ H φ1 H1 ∧ RelH G φ1 h1 H1 ∧ PostT G φ H (k b h1) Q E) E := by
  cases r with
  | ok d h' => exact fun φ' H' x rh => ⟨φ', h', x, rh, p⟩
  | exc c fs h' => exact p
  | stuck => exact p
theorem PostA.mono {r : R (List PV)} {Q Q' : List V → Hp → Prop} {E : XK} (p : PostA G φ H r Q E) (hq : ∀ v H', Q v H' → Q' v H') : PostA G φ H r Q' E := by
  cases r with
  | ok d h' => exact fun φ' H' v x1 rh rv => hq _ _ (p φ' H' v x1 rh rv)
  | exc c fs h' => exact p
  | stuck => exact p
theorem PostT.mono {r : R Bool} {Q Q' : Bool → Hp → Prop} {E : XK} (p : PostT G φ H r Q E) (hq : ∀ v H', Q v H' → Q' v H') : PostT G φ H r Q' E := by
  cases r with
  | ok d h' => exact fun φ' H' x1 rh => hq _ _ (p φ' H' x1 rh)
  | exc c fs h' => exact p
  | stuck => exact p

/-- two expressions, then an operator -/
def ev2 (fa fb : Loc → PHeap → R PV) (F : Pf) : Loc → PHeap → R PV := fun l h => (fa l h).bind fun x h1 => (fb l h1).bind fun y h2 => liftP (F [x, y] h2)
def ev1 (fa : Loc → PHeap → R PV) (F : Pf) : Loc → PHeap → R PV := fun l h => (fa l h).bind fun x h1 => liftP (F [x] h1)
def evN (fa : Loc → PHeap → R (List PV)) (F : Pf) : Loc → PHeap → R PV := fun l h => (fa l h).bind fun x h1 => liftP (F x h1)
def r2 (G : Gc) (F : Pf) : R2 := fun x y H Q => rP G F [x, y] H Q
theorem tOp_ev {fa fb : Loc → PHeap → R PV} {F : Pf} (σ : St) (H : Hp) (Q : VK) (t : tEv G W (ev2 fa fb F) σ H Q) :
    tOp (r2 G F) (tEv G W fa) (tEv G W fb) σ H Q := by
  obtain ⟨φ, l, h, rh, rl, p⟩ := t
  refine ⟨φ, l, h, rh, rl, Post.mono (Post.bind p) fun v H1 ⟨φ1, h1, d1, x1, rh1, rv1, p1⟩ => ?_⟩
  refine ⟨φ1, l, h1, rh1, repL_ext rh x1 rl, Post.mono (Post.bind (p1.ext x1)) fun w H2 ⟨φ2, h2, d2, x2, rh2, rv2, p2⟩ => ?_⟩
  obtain ⟨d, h', e, q⟩ := Post.lift (p2.ext x2)
  exact ⟨φ2, h2, [d1, d2], d, h', rh2, .cons (repV_ext rh1 x2 rv1) (.cons rv2 .nil), e, q⟩
theorem tCB_ev {fa : Loc → PHeap → R (List PV)} {F : Pf} (σ : St) (H : Hp) (Q : VK) (t : tEv G W (evN fa F) σ H Q) :
    tCB (rP G F) (tEvA G W fa) σ H Q := by
  obtain ⟨φ, l, h, rh, rl, p⟩ := t
  refine ⟨φ, l, h, rh, rl, PostA.mono (PostA.bind p) fun v H1 ⟨φ1, h1, d1, x1, rh1, rv1, p1⟩ => ?_⟩
  obtain ⟨d, h', e, q⟩ := Post.lift (p1.ext x1)
  exact ⟨φ1, h1, d1, d, h', rh1, rv1, e, q⟩
/-- argument lists -/
def evNil : Loc → PHeap → R (List PV) := fun _ h => .ok [] h
def evCons (fa : Loc → PHeap → R PV) (fr : Loc → PHeap → R (List PV)) : Loc → PHeap → R (List PV) := fun l h => (fa l h).bind fun x h1 => (fr l h1).bind fun xs h2 => .ok (x :: xs) h2
theorem tNil_ev (σ : St) (H : Hp) (Q : List V → Hp → Prop) (t : tEvA G W evNil σ H Q) : tNil σ H Q := by
  obtain ⟨φ, l, h, rh, rl, p⟩ := t
  exact p φ H [] .refl rh .nil
theorem tCons_ev {fa : Loc → PHeap → R PV} {fr : Loc → PHeap → R (List PV)} (σ : St) (H : Hp) (Q : List V → Hp → Prop) (t : tEvA G W (evCons fa fr) σ H Q) : tCons (tEv G W fa) (tEvA G W fr) σ H Q := by
  obtain ⟨φ, l, h, rh, rl, p⟩ := t
  refine ⟨φ, l, h, rh, rl, Post.mono (Post.bindA p) fun v H1 ⟨φ1, h1, d1, x1, rh1, rv1, p1⟩ => ?_⟩
  refine ⟨φ1, l, h1, rh1, repL_ext rh x1 rl, PostA.mono (PostA.bindA (p1.ext x1)) fun w H2 ⟨φ2, h2, d2, x2, rh2, rv2, p2⟩ => ?_⟩
  exact (p2.ext x2) φ2 H2 (v :: w) .refl rh2 (.cons (repV_ext rh1 x2 rv1) rv2)
end
end Zed
end
section
set_option Elab.async false
set_option linter.all false
set_option maxRecDepth 100000
namespace Zed
open PySem L2

/-! ### the small language -/
inductive Bop where | add | sub | mul | fdiv | mod | pow
  deriving DecidableEq
inductive Cop where | lt | le | gt | ge | eq | ne | isin | notin | is | isnot
  deriving DecidableEq
inductive Bi where | len | isinstance | all | abs | int | max | min | tuple | list | listm | sorted | set | repr | reprc
  deriving DecidableEq
inductive Mi where | append | extend
  deriving DecidableEq
mutual
inductive Tg where
  | nm (i : Nat)
  | tp (ts : Tgs)
inductive Tgs where
  | nil
  | cons (t : Tg) (ts : Tgs)
end
mutual
inductive Ex where
  | loc (i : Nat)
  | con (d : PV)
  | bin (op : Bop) (a b : Ex)
  | neg (a : Ex)
  | not (a : Ex)
  | cmp (op : Cop) (a b : Ex)
  | chn (op op' : Cop) (a b c : Ex)
  | and (a b : Ex)
  | or (a b : Ex)
  | ite (c a b : Ex)
  | tup (es : Exs)
  | lst (z : Bool) (es : Exs)
  | call (f : Nat) (es : Exs)
  | make (c f : Nat) (es : Exs)
  | blt (b : Bi) (es : Exs)
  | meth (m : Mi) (o : Ex) (es : Exs)
  | sub (o i : Ex)
  | slc (o : Ex) (lo hi : Op)
  | attr (o : Ex) (f : Nat)
  | lc (z : Bool) (elt : Ex) (tg : Tg) (it : Itr) (ifs : Op) (own : List Nat)
  | dic0 (z : Bool)
  /-- a call of a def that calls a lambda and tells how it ended -/
  | met (m : Nat) (e : Ex)
inductive Exs where
  | nil
  | cons (e : Ex) (es : Exs)
  | star (e : Ex) (es : Exs)
inductive Op where
  | no
  | yes (e : Ex)
inductive Itr where
  | val (e : Ex)
  | rng1 (e : Ex)
  | rng2 (a b : Ex)
  | enm (e : Ex)
  | zp (a b : Ex)
end
mutual
inductive Sx where
  | ex (e : Ex)
  | asg (t : Tg) (e : Ex)
  | put (o i e : Ex)
  | fld (o : Ex) (f : Nat) (e : Ex)
  | ret (e : Ex)
  | ret0
  | iff (c : Ex) (a b : Sxs)
  | for_ (t : Tg) (it : Itr) (b : Sxs)
  | whl (c : Ex) (b : Sxs)
  | pass
  | brk
  | cnt
  /-- an own error without fields, made with a text -/
  | rai (c : Nat) (m : Str)
inductive Sxs where
  | nil
  | cons (s : Sx) (r : Sxs)
end

/-! ### built-ins -/
def mapO {α β : Type} (f : α → Option β) : List α → Option (List β)
  | [] => some []
  | a :: r => match f a, mapO f r with
    | some b, some bs => some (b :: bs)
    | _, _ => none
/-- what stands at a place, or is frozen -/
def objOf (h : PHeap) : PV → Option PObj
  | .fz o => some o
  | .ref i => h[i]?
  | _ => none
/-- what a value is as data -/
def toD (h : PHeap) : Nat → PV → Option PyData
  | _, .non => some .none
  | _, .bl b => some (.bool b)
  | _, .int i => some (.int i)
  | _, .str x => some (.str x)
  | n + 1, .tup ds => (mapO (toD h n) ds).map .tuple
  | n + 1, .fz o => match o with
    | .lst ds => (mapO (toD h n) ds).map .list
    | _ => none
  | n + 1, .ref i => match h[i]? with
    | some (.lst ds) => (mapO (toD h n) ds).map .list
    | _ => none
  | _, _ => none
def big : Nat := 2 ^ 9000
/-- the items of a list or a tuple -/
def lstOf (h : PHeap) (d : PV) : Option (List PV) := match objOf h d with
  | some (.lst ds) => some ds
  | _ => none
def seqOf (h : PHeap) : PV → Option (List PV)
  | .tup ds => some ds
  | .scr ns => some (ns.map .int)
  | d => lstOf h d
def truthF (h : PHeap) : PV → Option Bool
  | .non => some false
  | .bl b => some b
  | .int i => some (i != 0)
  | .str x => if x.length ≤ sizeLine then some (x.length != 0) else none
  | v => (seqOf h v).map fun ds => !ds.isEmpty
def newO (o : PObj) (h : PHeap) : PV × PHeap := (.ref h.length, h ++ [o])
/-- a new empty dict -/
def mkD (z : Bool) (h : PHeap) : PV × PHeap := match z with
  | true => (.fz (.dic []), h)
  | false => newO (.dic []) h
/-- a new list: frozen, or in the heap -/
def mkL (z : Bool) (ds : List PV) (h : PHeap) : PV × PHeap := match z with
  | true => (.fl ds, h)
  | false => newO (.lst ds) h
def addF (x y : PV) (h : PHeap) : Option (PV × PHeap) :=
  match x, y with
  | .int i, .int j => some (.int (i + j), h)
  | .str x, .str y => if x.length + y.length ≤ sizeLine then some (.str (x ++ y), h) else none
  | .tup xs, .tup ys => if xs.length + ys.length ≤ sizeLine then some (.tup (xs ++ ys), h) else none
  | x, y => match lstOf h x, lstOf h y with
    | some xs, some ys => if xs.length + ys.length ≤ sizeLine then some (.fl (xs ++ ys), h) else none
    | _, _ => none
def mulF (x y : PV) (h : PHeap) : Option (PV × PHeap) :=
  match x, y with
  | .int i, .int j => if i.natAbs < big ∧ j.natAbs < big then some (.int (i * j), h) else none
  | .tup xs, .int k => if xs ≠ [] ∧ 2 ≤ k ∧ k ≤ 1000 ∧ xs.length ≤ 1000 then some (.tup (List.replicate k.toNat xs).flatten, h) else none
  | .ref i, .int k => match h[i]? with
    | some (.lst xs) => if -2 ^ 63 ≤ k ∧ k < 2 ^ 63 ∧ xs.length * k.toNat ≤ sizeLine then some (.fl (List.replicate k.toNat xs).flatten, h) else none
    | _ => none
  | _, _ => none
def arI : Bop → Int → Int → Option Int
  | .sub, i, j => some (i - j)
  | .fdiv, i, j => if 0 < j ∧ j.natAbs < big then some (i / j) else none
  | .mod, i, j => if 0 < j then some (i % j) else none
  | .pow, i, j => if 0 ≤ j ∧ j ≤ 1000 ∧ i.natAbs < 2 ^ 300 then some (i ^ j.toNat) else none
  | _, _, _ => none
def bopF (op : Bop) : Pf
  | [x, y], h => match op with
    | .add => addF x y h
    | .mul => mulF x y h
    | op => match x, y with
      | .int i, .int j => (arI op i j).map fun k => (.int k, h)
      | _, _ => none
  | _, _ => none
def eqD (h : PHeap) (x y : PV) : Option Bool :=
  match toD h 70 x, toD h 70 y with
  | some a, some b => if SeqAt.shaped a = true ∧ SeqAt.shaped b = true then some (PyData.eqv a b) else none
  | _, _ => none
def flatP : PV → Bool
  | .non | .bl _ | .int _ | .str _ => true
  | _ => false
def eqP : PV → PV → Bool
  | .non, .non => true
  | .bl a, .bl b => a == b
  | .bl a, .int b => (if a = true then 1 else 0) == b
  | .int a, .bl b => a == if b = true then 1 else 0
  | .int a, .int b => a == b
  | .str a, .str b => a == b
  | _, _ => false
/-- two tuples, flat as far as both go -/
def eqTup : List PV → List PV → Option Bool
  | [], [] => some true
  | [], _ :: _ => some false
  | _ :: _, [] => some false
  | x :: xs, y :: ys => if flatP x && flatP y then (eqTup xs ys).map (eqP x y && ·) else none
def allO : List (Option Bool) → Option Bool
  | [] => some true
  | some b :: r => (allO r).map (b && ·)
  | none :: _ => none
/-- lists and tuples compared, deep -/
def eqG (h : PHeap) : Nat → PV → PV → Option Bool
  | 0, x, y => if flatP x && flatP y then some (eqP x y) else none
  | n + 1, x, y => if flatP x && flatP y then some (eqP x y) else match x, y with
    | .tup xs, .tup ys => (allO (List.zipWith (eqG h n) xs ys)).map (· && xs.length == ys.length)
    | x, y => match lstOf h x, lstOf h y with
      | some xs, some ys => if xs.length = ys.length then allO (List.zipWith (eqG h n) xs ys) else some false
      | _, _ => none
def eqF (h : PHeap) (x y : PV) : Option Bool :=
  match eqD h x y with
  | some b => some b
  | none => match x, y with
    | .tup xs, .tup ys => match eqTup xs ys with
      | some b => some b
      | none => eqG h 40 x y
    | x, y => if flatP x && flatP y then none else eqG h 40 x y
def inP (x : PV) (ds : List PV) : Bool := ds.any fun y => eqP y x
def ordF (op : Cop) (x y : PV) : Option Bool :=
  match op, x, y with
  | .lt, .int i, .int j => some (decide (i < j))
  | .le, .int i, .int j => some (decide (i ≤ j))
  | .gt, .int i, .int j => some (decide (j < i))
  | .ge, .int i, .int j => some (decide (j ≤ i))
  | .lt, .str x, .str y => some (decide (x.cps.toList < y.cps.toList))
  | .le, .str x, .str y => some (!decide (y.cps.toList < x.cps.toList))
  | _, _, _ => none
def isF (x y : PV) : Option Bool :=
  match x, y with
  | .bl a, .bl b => some (decide (a = b))
  | .non, .non => some true
  | _, .non => some false
  | _, _ => none
def inF (h : PHeap) (x y : PV) : Option Bool :=
  match seqOf h y with
  | some ds => if flatP x = true ∧ ds.all flatP = true then some (inP x ds) else none
  | none => none
def cmpB (op : Cop) (h : PHeap) (x y : PV) : Option Bool :=
  match op with
  | .eq => eqF h x y
  | .ne => (eqD h x y).map (!·)
  | .isin => inF h x y
  | .notin => (inF h x y).map (!·)
  | .is => isF x y
  | .isnot => (isF x y).map (!·)
  | op => ordF op x y
def cmpF (op : Cop) : Pf
  | [x, y], h => (cmpB op h x y).map fun b => (.bl b, h)
  | _, _ => none
def cutP (xs : List PV) (lo hi : Option Int) : List PV := List.take (HT.sIx xs.length xs.length hi - HT.sIx xs.length 0 lo) (List.drop (HT.sIx xs.length 0 lo) xs)
def sameK (p : PV) (k : NestedKey) : Bool := match nkOf p with
  | some q => NestedKey.beq q k
  | none => false
def dFind (kvs : List (PV × PV)) (k : NestedKey) : Option PV := (kvs.find? fun p => sameK p.1 k).map (·.2)
def dStore (kvs : List (PV × PV)) (k : NestedKey) (kp v : PV) : List (PV × PV) :=
  if (dFind kvs k).isSome then kvs.map fun p => if sameK p.1 k then (p.1, v) else p else kvs ++ [(kp, v)]
def isTupP : PV → Bool
  | .tup _ => true
  | _ => false
/-- the key fits the dict's keys: numbers and texts, or tuples -/
def fitsK (kvs : List (PV × PV)) (k : PV) (nk : NestedKey) : Bool :=
  ((keyOf k).isSome && kvs.all fun p => (keyOf p.1).isSome) || (isTupP k && decide (nk.depth ≤ 8) && kvs.all fun p => isTupP p.1)
def dGetF (kvs : List (PV × PV)) (k : PV) : Option PV := match nkOf k with
  | some nk => if fitsK kvs k nk then dFind kvs nk else none
  | none => none
def dPutF (kvs : List (PV × PV)) (k v : PV) : Option (List (PV × PV)) := match nkOf k with
  | some nk => if fitsK kvs k nk && decide (kvs.length < sizeLine) then some (dStore kvs nk k v) else none
  | none => none
def getF (o i : PV) (h : PHeap) : Option PV :=
  match o with
  | .str x => match i with
    | .int i => if x.length ≤ sizeLine then (atI x.cps.toList i).map fun c => .str ⟨#[c]⟩ else none
    | _ => none
  | .tup ds => match i with
    | .int i => atI ds i
    | _ => none
  | .scr ns => match i with
    | .int i => atI (ns.map PV.int) i
    | _ => none
  | o => match objOf h o with
    | some (.dic kvs) => dGetF kvs i
    | some (.lst ds) => match i with
      | .int i => atI ds i
      | _ => none
    | _ => none
def subF : Pf
  | [o, i], h => (getF o i h).map fun d => (d, h)
  | _, _ => none
def slcF (o : PV) (lo hi : Option Int) (h : PHeap) : Option (PV × PHeap) :=
  match o with
  | .tup ds => if HT.sIx ds.length 0 lo = 0 ∧ HT.sIx ds.length ds.length hi = ds.length then some (.tup ds, h) else some (.tup (cutP ds lo hi), h)
  | _ => match lstOf h o with
    | some ds => some (.fl (cutP ds lo hi), h)
    | none => none
def bools : List PV → Option (List Bool)
  | [] => some []
  | .bl b :: r => (bools r).map (b :: ·)
  | _ => none
def tyName (h : PHeap) : PV → Option String
  | .non => some "NoneType"
  | .bl _ => some "bool"
  | .int _ => some "int"
  | .str _ => some "str"
  | .tup _ => some "tuple"
  | v => match objOf h v with
    | some (.lst _) => some "list"
    | some (.dic kvs) => if kvs.all fun p => (keyOf p.1).isSome then some "dict" else none
    | _ => none
def strsP : List PV → Option (List Str)
  | [] => some []
  | .str x :: r => (strsP r).map (x :: ·)
  | _ => none
def reprP : PV → Option Str
  | .non => some "None"
  | .bl b => some (if b then "True" else "False")
  | .int i => if i.natAbs.log2 < 1920 then some (toString i) else none
  | _ => none
/-- repr of lists, tuples -/
def reprC (h : PHeap) (v : PV) : Option Str := match reprP v with
  | some x => some x
  | none => match v, toD h 30 v with
    | .str _, _ => none
    | _, some d => if d.showable = true ∧ d.hasDict = false ∧ d.depth ≤ 40 ∧ d.shown.length ≤ sizeLine then some d.shown else none
    | _, none => none
def setP (h : PHeap) (v : PV) : Option (PV × PHeap) := match lstOf h v with
  | some ds => match strsP ds with
    | some xs => if xs.length < 64 then some (.fz (.set ((dedS xs).map PV.str)), h) else none
    | none => none
  | none => none
def sortP (h : PHeap) (v : PV) : Option (PV × PHeap) := match objOf h v with
  | some (.set ds) => (strsP ds).map fun xs => (.fl ((sortS xs).map PV.str), h)
  | some (.lst ds) => match strsP ds with
    | some xs => if xs.length < 64 then some (.fl ((sortS xs).map PV.str), h) else none
    | none => none
  | _ => none
def bltF (b : Bi) : Pf := fun ds h =>
  match b, ds with
  | .len, [.str x] => if x.length ≤ sizeLine then some (.int x.length, h) else none
  | .len, [v] => (seqOf h v).map fun ds => (.int ds.length, h)
  | .isinstance, [v, .ty n] => match tyName h v with
    | some t => (kitB t n).map fun b => (.bl b, h)
    | none => none
  | .all, [v] => match lstOf h v with
    | some ds => (bools ds).map fun bs => (.bl (bs.all id), h)
    | none => none
  | .abs, [.int i] => some (.int (if i < 0 then -i else i), h)
  | .int, [.int i] => some (.int i, h)
  | .int, [.bl k] => some (.int (if k then 1 else 0), h)
  | .max, [.int m, .int n] => some (.int (if n > m then n else m), h)
  | .min, [.int m, .int n] => some (.int (if n < m then n else m), h)
  | .tuple, [.tup ds] => some (.tup ds, h)
  | .tuple, [v] => (lstOf h v).map fun ds => (.tup ds, h)
  | .list, [v] => (seqOf h v).map fun ds => (.fl ds, h)
  | .listm, [v] => (seqOf h v).map fun ds => newO (.lst ds) h
  | .set, [v] => setP h v
  | .sorted, [v] => sortP h v
  | .repr, [v] => (reprP v).map fun x => (.str x, h)
  | .reprc, [v] => (reprC h v).map fun x => (.str x, h)
  | _, _ => none
def appP : Pf := fun ds h =>
  match ds with
  | [.ref i, v] => match h[i]? with
    | some (.lst xs) => if xs.length < sizeLine then some (.non, h.set i (.lst (xs ++ [v]))) else none
    | _ => none
  | _ => none
def neRef (i : Nat) : PV → Bool
  | .ref j => i != j
  | _ => true
def extP : Pf := fun ds h =>
  match ds with
  | [.ref i, v] => match h[i]?, lstOf h v with
    | some (.lst xs), some ys => if xs.length + ys.length ≤ sizeLine ∧ neRef i v = true then some (.non, h.set i (.lst (xs ++ ys))) else none
    | _, _ => none
  | _ => none
/-- what a method is asked of -/
def rcvOk (m : Mi) (d : PV) (h : PHeap) : Bool :=
  match d with
  | .ref i => match h[i]? with
    | some (.lst _) => true
    | _ => false
  | _ => false
def methF : Mi → Pf
  | .append => appP
  | .extend => extP

/-! ### the interpreter -/
/-- the classes: with slots or not, a slot's place, a plain attribute, methods, properties -/
structure Ct where
  isSl : Nat → Bool
  slot : Nat → Nat → Option Nat
  fld : Nat → Nat → Bool
  /-- the defs that call a lambda: the classes they catch and what they then tell; what they tell else -/
  met : Nat → Option (List (Nat × Str) × Str)
  /-- is the one error one of the other's -/
  exm : Nat → Nat → Option Bool
structure Orc where
  call : Nat → List PV → PHeap → R PV
  ct : Ct
def ownF (ct : Ct) (c f : Nat) : Bool := if ct.isSl c then (ct.slot c f).isSome else ct.fld c f
def attrF (ct : Ct) (f : Nat) : Pf := fun ds h =>
  match ds with
  | [v] => match objOf h v with
    | some (.ins c fs) => if ownF ct c f then (fs.lookup f).map fun d => (d, h) else none
    | _ => none
  | _ => none
def setFl (fs : List (Nat × PV)) (f : Nat) (v : PV) : List (Nat × PV) :=
  match fs with
  | [] => [(f, v)]
  | (g, w) :: r => if g = f then (g, v) :: r else (g, w) :: setFl r f v
def fldF (ct : Ct) (o : PV) (f : Nat) (v : PV) (h : PHeap) : Option PHeap :=
  match o with
  | .ref i => match h[i]? with
    | some (.ins c fs) => if ownF ct c f && decide (fs.length < 900) then some (h.set i (.ins c (setFl fs f v))) else none
    | _ => none
  | _ => none
/-- an instance is made: the object, then __init__ -/
def makeF (call : Nat → List PV → PHeap → R PV) (c f : Nat) (ds : List PV) (h : PHeap) : R PV :=
  match call f (.ref h.length :: ds) (h ++ [.ins c []]) with
  | .ok .non h2 => .ok (.ref h.length) h2
  | _ => .stuck
inductive RS where
  | nx (l : Loc) (h : PHeap)
  | rt (d : PV) (h : PHeap)
  | bk (l : Loc) (h : PHeap)
  | ct (l : Loc) (h : PHeap)
  | exc (c : PV) (fs : List (Nat × PV)) (l : Loc) (h : PHeap)
  | stuck
def R.toS {α : Type} (m : R α) (l : Loc) (k : α → PHeap → RS) : RS :=
  match m with
  | .ok a h => k a h
  | .exc c fs h => .exc c fs l h
  | .stuck => .stuck
inductive Src where
  | seq (ds : List PV)
  | lst (i : Nat)
def srcAt (h : PHeap) (i : Nat) : Src → Option (Option PV)
  | .seq ds => some ds[i]?
  | .lst r => match h[r]? with
    | some (.lst ds) => some ds[i]?
    | _ => none
def srcLen (h : PHeap) : Src → Nat
  | .seq ds => ds.length
  | .lst r => match h[r]? with
    | some (.lst ds) => ds.length
    | _ => 0
def srcOf (h : PHeap) : PV → Option Src
  | .tup ds => some (.seq ds)
  | .fz (.lst ds) => some (.seq ds)
  | .str x => some (.seq (x.cps.toList.map fun c => .str ⟨#[c]⟩))
  | .ref i => match h[i]? with
    | some (.lst _) => some (.lst i)
    | _ => none
  | _ => none
def rngOf (lo hi : Int) : Option Src :=
  if -2 ^ 62 ≤ lo ∧ lo < 2 ^ 62 ∧ -2 ^ 62 ≤ hi ∧ hi < 2 ^ 62 then some (.seq ((List.range (hi - lo).toNat).map fun (i : Nat) => .int (lo + i))) else none
mutual
def bindT : Tg → PV → Loc → Option Loc
  | .nm i, d, l => if i < l.length then some (l.set i (some d)) else none
  | .tp ts, .tup ds, l => bindTs ts ds l
  | .tp _, _, _ => none
def bindTs : Tgs → List PV → Loc → Option Loc
  | .nil, [], l => some l
  | .cons t ts, d :: ds, l => match bindT t d l with
    | some l' => bindTs ts ds l'
    | none => none
  | _, _, _ => none
end
def wipeP (l : Loc) : List Nat → Loc
  | [] => l
  | i :: r => (wipeP l r).set i none
/-- the turns of a comprehension: what is made so far, the turn's number -/
def lcLoop (tg : Tg) (src : Src) (tt : Loc → PHeap → R Bool) (el : Loc → PHeap → R PV) (lw : Loc) : Nat → Nat → List PV → PHeap → R (List PV)
  | 0, _, _, _ => .stuck
  | n + 1, i, acc, h => match srcAt h i src with
    | none => .stuck
    | some none => .ok acc h
    | some (some d) => match bindT tg d lw with
      | none => .stuck
      | some l => match tt l h with
        | .ok false h1 => lcLoop tg src tt el lw n (i + 1) acc h1
        | .ok true h1 => match el l h1 with
          | .ok y h2 => if acc.length < sizeLine then lcLoop tg src tt el lw n (i + 1) (acc ++ [y]) h2 else .stuck
          | _ => .stuck
        | _ => .stuck
def forLoop (tg : Tg) (src : Src) (body : Loc → PHeap → RS) : Nat → Nat → Loc → PHeap → RS
  | 0, _, _, _ => .stuck
  | n + 1, i, l, h => match srcAt h i src with
    | none => .stuck
    | some none => .nx l h
    | some (some d) => match bindT tg d l with
      | none => .stuck
      | some l1 => match body l1 h with
        | .nx l2 h2 => forLoop tg src body n (i + 1) l2 h2
        | .ct l2 h2 => forLoop tg src body n (i + 1) l2 h2
        | .bk l2 h2 => .nx l2 h2
        | .rt d h2 => .rt d h2
        | .exc c fs l2 h2 => .exc c fs l2 h2
        | .stuck => .stuck
def whlLoop (c : Loc → PHeap → R Bool) (body : Loc → PHeap → RS) : Nat → Loc → PHeap → RS
  | 0, _, _ => .stuck
  | n + 1, l, h => (c l h).toS l fun b h1 => match b with
    | false => .nx l h1
    | true => match body l h1 with
      | .nx l2 h2 => whlLoop c body n l2 h2
      | .ct l2 h2 => whlLoop c body n l2 h2
      | .bk l2 h2 => .nx l2 h2
      | .rt d h2 => .rt d h2
      | .exc c fs l2 h2 => .exc c fs l2 h2
      | .stuck => .stuck
def metGo (ct : Ct) (c : Nat) (h : PHeap) : List (Nat × Str) → R PV
  | [] => .stuck
  | (d, x) :: r => match ct.exm c d with
    | some true => .ok (.str x) h
    | some false => metGo ct c h r
    | none => .stuck
def metF (ct : Ct) (m : Nat) (r : R PV) : R PV := match ct.met m with
  | none => .stuck
  | some (hs, last) => match r with
    | .ok _ h => .ok (.str last) h
    | .exc (.gl c) _ h => metGo ct c h hs
    | _ => .stuck
def truthR (r : R PV) : R Bool := r.bind fun d h => match truthF h d with
  | some b => .ok b h
  | none => .stuck
def optI : R PV → R (Option Int)
  | .ok (.int i) h => .ok (some i) h
  | .ok _ _ => .stuck
  | .exc c fs h => .exc c fs h
  | .stuck => .stuck
def srcR (s : Option Src) (h : PHeap) : R Src := match s with
  | some s => .ok s h
  | none => .stuck
mutual
def evE (C : Orc) : Ex → Loc → PHeap → R PV
  | .loc i, l, h => match l[i]? with
    | some (some d) => .ok d h
    | _ => .stuck
  | .con d, _, h => .ok d h
  | .bin op a b, l, h => ev2 (evE C a) (evE C b) (bopF op) l h
  | .neg a, l, h => (evE C a l h).bind fun x h1 => match x with
    | .int i => .ok (.int (-i)) h1
    | _ => .stuck
  | .not a, l, h => (truthR (evE C a l h)).bind fun b h1 => .ok (.bl !b) h1
  | .cmp op a b, l, h => ev2 (evE C a) (evE C b) (cmpF op) l h
  | .chn op op' a b c, l, h => (evE C a l h).bind fun x h1 => (evE C b l h1).bind fun y h2 => (liftP (cmpF op [x, y] h2)).bind fun r h3 => match r with
    | .bl true => (evE C c l h3).bind fun z h4 => liftP (cmpF op' [y, z] h4)
    | .bl false => .ok (.bl false) h3
    | _ => .stuck
  | .and a b, l, h => (evE C a l h).bind fun x h1 => match truthF h1 x with
    | some true => evE C b l h1
    | some false => .ok x h1
    | none => .stuck
  | .or a b, l, h => (evE C a l h).bind fun x h1 => match truthF h1 x with
    | some true => .ok x h1
    | some false => evE C b l h1
    | none => .stuck
  | .ite c a b, l, h => (truthR (evE C c l h)).bind fun k h1 => match k with
    | true => evE C a l h1
    | false => evE C b l h1
  | .tup es, l, h => (evA C es l h).bind fun ds h1 => if ds.length ≤ sizeLine then .ok (.tup ds) h1 else .stuck
  | .lst z es, l, h => (evA C es l h).bind fun ds h1 => if ds.length ≤ sizeLine then liftP (some (mkL z ds h1)) else .stuck
  | .call f es, l, h => (evA C es l h).bind fun ds h1 => C.call f ds h1
  | .make c f es, l, h => (evA C es l h).bind fun ds h1 => makeF C.call c f ds h1
  | .blt b es, l, h => (evA C es l h).bind fun ds h1 => liftP (bltF b ds h1)
  | .meth m o es, l, h => (evE C o l h).bind fun x h1 => match rcvOk m x h1 with
    | true => (evA C es l h1).bind fun ds h2 => liftP (methF m (x :: ds) h2)
    | false => .stuck
  | .sub o i, l, h => ev2 (evE C o) (evE C i) subF l h
  | .slc o lo hi, l, h => (evE C o l h).bind fun x h1 => (evOp C lo l h1).bind fun a h2 => (evOp C hi l h2).bind fun b h3 => liftP (slcF x a b h3)
  | .attr o f, l, h => ev1 (evE C o) (attrF C.ct f) l h
  | .lc z elt tg it ifs own, l, h => (evI C it l h).bind fun src h1 =>
      (lcLoop tg src (evT1 C ifs) (evE C elt) (wipeP l own) (srcLen h1 src + 1) 0 [] h1).bind fun ds h2 => liftP (some (mkL z ds h2))
  | .dic0 z, l, h => liftP (some (mkD z h))
  | .met m e, l, h => metF C.ct m (evE C e l h)
def evA (C : Orc) : Exs → Loc → PHeap → R (List PV)
  | .nil, _, h => .ok [] h
  | .cons e es, l, h => evCons (evE C e) (evA C es) l h
  | .star e es, l, h => (evE C e l h).bind fun x h1 => match seqOf h1 x with
    | some ds => (evA C es l h1).bind fun xs h2 => .ok (ds ++ xs) h2
    | none => .stuck
def evOp (C : Orc) : Op → Loc → PHeap → R (Option Int)
  | .no, _, h => .ok none h
  | .yes e, l, h => optI (evE C e l h)
def evI (C : Orc) : Itr → Loc → PHeap → R Src
  | .val e, l, h => (evE C e l h).bind fun d h1 => srcR (srcOf h1 d) h1
  | .rng1 e, l, h => (evE C e l h).bind fun d h1 => match d with
    | .int j => srcR (rngOf 0 j) h1
    | _ => .stuck
  | .rng2 a b, l, h => (evE C a l h).bind fun d h1 => (evE C b l h1).bind fun e h2 => match d, e with
    | .int i, .int j => srcR (rngOf i j) h2
    | _, _ => .stuck
  | .enm e, l, h => .stuck
  | .zp a b, l, h => .stuck
/-- the if of a comprehension -/
def evT1 (C : Orc) : Op → Loc → PHeap → R Bool
  | .no, _, h => .ok true h
  | .yes e, l, h => truthR (evE C e l h)
end
def putF (o i v : PV) (h : PHeap) : Option PHeap :=
  match o with
  | .ref r => match h[r]? with
    | some (.lst ds) => match i with
      | .int k => (ixN ds.length k).map fun j => h.set r (.lst (ds.set j v))
      | _ => none
    | some (.dic kvs) => (dPutF kvs i v).map fun kvs' => h.set r (.dic kvs')
    | _ => none
  | _ => none
mutual
def exS (C : Orc) : Sx → Loc → PHeap → RS
  | .ex e, l, h => (evE C e l h).toS l fun _ h1 => .nx l h1
  | .asg t e, l, h => (evE C e l h).toS l fun d h1 => match bindT t d l with
    | some l1 => .nx l1 h1
    | none => .stuck
  | .put o i e, l, h => (evE C e l h).toS l fun v h1 => (evE C o l h1).toS l fun x h2 => (evE C i l h2).toS l fun y h3 => match putF x y v h3 with
    | some h4 => .nx l h4
    | none => .stuck
  | .fld o f e, l, h => (evE C e l h).toS l fun v h1 => (evE C o l h1).toS l fun x h2 => match fldF C.ct x f v h2 with
    | some h3 => .nx l h3
    | none => .stuck
  | .ret e, l, h => (evE C e l h).toS l fun d h1 => .rt d h1
  | .ret0, l, h => .rt .non h
  | .iff c a b, l, h => (truthR (evE C c l h)).toS l fun k h1 => match k with
    | true => exSs C a l h1
    | false => exSs C b l h1
  | .for_ t it b, l, h => (evI C it l h).toS l fun src h1 => forLoop t src (exSs C b) (srcLen h1 src + 1) 0 l h1
  | .whl c b, l, h => whlLoop (fun l h => truthR (evE C c l h)) (exSs C b) 1000000 l h
  | .pass, l, h => .nx l h
  | .brk, l, h => .bk l h
  | .cnt, l, h => .ct l h
  | .rai c m, l, h => .exc (.gl c) [] l h
def exSs (C : Orc) : Sxs → Loc → PHeap → RS
  | .nil, l, h => .nx l h
  | .cons s r, l, h => match exS C s l h with
    | .nx l1 h1 => exSs C r l1 h1
    | x => x
end
/-! ### what leaves a def: frozen, and what was made inside is gone -/
mutual
/-- all places are below n -/
def clV (n : Nat) : PV → Bool
  | .tup ds => clVs n ds
  | .fz o => clO n o
  | .ref i => decide (i < n)
  | _ => true
def clO (n : Nat) : PObj → Bool
  | .lst ds => clVs n ds
  | .dic kvs => clKs n kvs
  | .set ds => clVs n ds
  | .ins _ fs => clFs n fs
def clVs (n : Nat) : List PV → Bool
  | [] => true
  | d :: r => clV n d && clVs n r
def clKs (n : Nat) : List (PV × PV) → Bool
  | [] => true
  | (k, v) :: r => clV n k && clV n v && clKs n r
def clFs (n : Nat) : List (Nat × PV) → Bool
  | [] => true
  | (_, v) :: r => clV n v && clFs n r
end
mutual
def PV.same : PV → PV → Bool
  | .non, .non => true
  | .bl a, .bl b => a == b
  | .int a, .int b => a == b
  | .str a, .str b => a == b
  | .tup a, .tup b => PV.sames a b
  | .fz a, .fz b => PObj.same a b
  | .ref a, .ref b => a == b
  | .ty a, .ty b => a == b
  | .gl a, .gl b => a == b
  | .scr a, .scr b => a == b
  | _, _ => false
termination_by structural x => x
def PObj.same : PObj → PObj → Bool
  | .lst a, .lst b => PV.sames a b
  | .dic a, .dic b => PV.sameK a b
  | .set a, .set b => PV.sames a b
  | .ins c a, .ins d b => c == d && PV.sameF a b
  | _, _ => false
termination_by structural x => x
def PV.sames : List PV → List PV → Bool
  | [], [] => true
  | a :: r, b :: t => PV.same a b && PV.sames r t
  | _, _ => false
termination_by structural x => x
def PV.sameK : List (PV × PV) → List (PV × PV) → Bool
  | [], [] => true
  | (a, v) :: r, (b, w) :: t => PV.same a b && PV.same v w && PV.sameK r t
  | _, _ => false
termination_by structural x => x
def PV.sameF : List (Nat × PV) → List (Nat × PV) → Bool
  | [], [] => true
  | (a, v) :: r, (b, w) :: t => a == b && PV.same v w && PV.sameF r t
  | _, _ => false
termination_by structural x => x
end
def frzO (f : PV → Option PV) : PObj → Option PObj
  | .lst ds => (mapO f ds).map .lst
  | .dic kvs => (mapO (fun p => if (nkOf p.1).isSome then (f p.2).map fun v => (p.1, v) else none) kvs).map .dic
  | .set ds => some (.set ds)
  | .ins c fs => (mapO (fun p => (f p.2).map fun v => (p.1, v)) fs).map (.ins c)
def frzV (h : PHeap) (n : Nat) : Nat → PV → Option PV
  | 0, d => if clV n d then some d else none
  | k + 1, d => if clV n d then some d else match d with
    | .tup ds => (mapO (frzV h n k) ds).map .tup
    | .fz o => (frzO (frzV h n k) o).map .fz
    | .ref i => match h[i]? with
      | some o => (frzO (frzV h n k) o).map .fz
      | none => none
    | _ => none
/-- the objects that were there: as they were, or without new places in them -/
def sealH (n : Nat) : PHeap → PHeap → Option PHeap
  | [], _ => some []
  | o :: r, o' :: r' => if PObj.same o o' || clO n o' then (sealH n r r').map (o' :: ·) else none
  | _ :: _, [] => none
def sealF (h : PHeap) : R PV → R PV
  | .ok d h' => match frzV h' h.length 6 d, sealH h.length h h' with
    | some d1, some h1 => .ok d1 h1
    | _, _ => .stuck
  | .exc c fs h' => if clV h.length c && clFs h.length fs then match sealH h.length h h' with
      | some h1 => .exc c fs h1
      | none => .stuck
    else .stuck
  | .stuck => .stuck
/-- a def: how many parameters, how many slots, the body; sealed: what it made inside is gone behind it -/
structure Fd where
  np : Nat
  n : Nat
  body : Sxs
  fz : Bool
def runFn (fd : Fd) (C : Orc) (ds : List PV) (h : PHeap) : R PV :=
  if ds.length = fd.np then
    match exSs C fd.body (ds.map some ++ List.replicate (fd.n - fd.np) none) h with
    | .nx _ h1 => .ok .non h1
    | .rt d h1 => .ok d h1
    | .exc c fs _ h1 => .exc c fs h1
    | _ => .stuck
  else .stuck
def runFs (fd : Fd) (C : Orc) (ds : List PV) (h : PHeap) : R PV := if fd.fz then sealF h (runFn fd C ds h) else runFn fd C ds h
def callN (ct : Ct) (T : Nat → Option Fd) : Nat → Nat → List PV → PHeap → R PV
  | 0, _, _, _ => .stuck
  | n + 1, f, ds, h => match T f with
    | some fd => runFs fd ⟨callN ct T n, ct⟩ ds h
    | none => .stuck
mutual
theorem PV.same_eq : ∀ (a b : PV), PV.same a b = true → a = b
  | .non, b, h => by cases b <;> simp [PV.same] at h ⊢
  | .bl x, b, h => by cases b <;> simp [PV.same] at h ⊢; exact h
  | .int x, b, h => by cases b <;> simp [PV.same] at h ⊢; exact h
  | .str x, b, h => by cases b <;> simp [PV.same] at h ⊢; exact h
  | .tup x, b, h => by cases b <;> simp [PV.same] at h ⊢; exact PV.sames_eq _ _ h
  | .ty x, b, h => by cases b <;> simp [PV.same] at h ⊢; exact h
  | .fz x, b, h => by cases b <;> simp [PV.same] at h ⊢; exact PObj.same_eq _ _ h
  | .ref x, b, h => by cases b <;> simp [PV.same] at h ⊢; exact h
  | .gl x, b, h => by cases b <;> simp [PV.same] at h ⊢; exact h
  | .scr x, b, h => by cases b <;> simp [PV.same] at h ⊢; exact h
theorem PObj.same_eq : ∀ (a b : PObj), PObj.same a b = true → a = b
  | .lst x, b, h => by cases b <;> simp [PObj.same] at h ⊢; exact PV.sames_eq _ _ h
  | .set x, b, h => by cases b <;> simp [PObj.same] at h ⊢; exact PV.sames_eq _ _ h
  | .dic x, b, h => by cases b <;> simp [PObj.same] at h ⊢; exact PV.sameK_eq _ _ h
  | .ins c x, b, h => by cases b <;> simp [PObj.same] at h ⊢; exact ⟨h.1, PV.sameF_eq _ _ h.2⟩
theorem PV.sames_eq : ∀ (a b : List PV), PV.sames a b = true → a = b
  | [], b, h => by cases b <;> simp [PV.sames] at h ⊢
  | x :: r, b, h => by
    cases b with
    | nil => simp [PV.sames] at h
    | cons y t => simp [PV.sames] at h; rw [PV.same_eq x y h.1, PV.sames_eq r t h.2]
theorem PV.sameK_eq : ∀ (a b : List (PV × PV)), PV.sameK a b = true → a = b
  | [], b, h => by cases b <;> simp [PV.sameK] at h ⊢
  | (x, v) :: r, b, h => by
    cases b with
    | nil => simp [PV.sameK] at h
    | cons y t => simp [PV.sameK] at h; rw [PV.sameK_eq r t h.2]; simp [Prod.ext_iff, PV.same_eq x _ h.1.1, PV.same_eq v _ h.1.2]
theorem PV.sameF_eq : ∀ (a b : List (Nat × PV)), PV.sameF a b = true → a = b
  | [], b, h => by cases b <;> simp [PV.sameF] at h ⊢
  | (x, v) :: r, b, h => by
    cases b with
    | nil => simp [PV.sameF] at h
    | cons y t => simp [PV.sameF] at h; rw [PV.sameF_eq r t h.2]; simp [Prod.ext_iff, h.1.1, PV.same_eq v _ h.1.2]
end
mutual
theorem PV.same_rfl : ∀ d : PV, PV.same d d = true
  | .non => rfl
  | .bl _ => by simp [PV.same]
  | .int _ => by simp [PV.same]
  | .str _ => by simp [PV.same]
  | .tup ds => by simp [PV.same, PV.sames_rfl ds]
  | .fz o => by simp [PV.same, PObj.same_rfl o]
  | .ref _ => by simp [PV.same]
  | .ty _ => by simp [PV.same]
  | .gl _ => by simp [PV.same]
  | .scr _ => by simp [PV.same]
theorem PObj.same_rfl : ∀ d : PObj, PObj.same d d = true
  | .lst ds => by simp [PObj.same, PV.sames_rfl ds]
  | .set ds => by simp [PObj.same, PV.sames_rfl ds]
  | .dic ds => by simp [PObj.same, PV.sameK_rfl ds]
  | .ins _ ds => by simp [PObj.same, PV.sameF_rfl ds]
theorem PV.sames_rfl : ∀ d : List PV, PV.sames d d = true
  | [] => rfl
  | d :: r => by simp [PV.sames, PV.same_rfl d, PV.sames_rfl r]
theorem PV.sameK_rfl : ∀ d : List (PV × PV), PV.sameK d d = true
  | [] => rfl
  | (k, v) :: r => by simp [PV.sameK, PV.same_rfl k, PV.same_rfl v, PV.sameK_rfl r]
theorem PV.sameF_rfl : ∀ d : List (Nat × PV), PV.sameF d d = true
  | [] => rfl
  | (k, v) :: r => by simp [PV.sameF, PV.same_rfl v, PV.sameF_rfl r]
end
end Zed
end
section
set_option Elab.async false
set_option linter.all false
set_option maxRecDepth 100000
namespace Zed
open PySem L2
section
variable {G : Gc} {φ φ' : List Addr} {h h' : PHeap} {H H' : Hp} {a p : Addr} {d : PV} {v : V} {ds : List PV} {vs : List V} {l : Loc} {σ : St} {o : PObj} {u : HO} {i : Nat} {od : Obj}
theorem paired_map {α β : Type} {F F' : α → β → Prop} {l : List α} {m : List β} (p : Paired F l m) (h : ∀ a b, F a b → F' a b) : Paired F' l m := Paired.mapP p h
theorem repO_imp (rv : ∀ {d : PV} {v : V}, RepV G φ H d v → RepV G φ' H' d v) (rvs : ∀ {ds : List PV} {vs : List V}, RepVs G φ H ds vs → RepVs G φ' H' ds vs) (hx : ∀ b fs, H b = some (.xd fs) → H' b = some (.xd fs)) (ho : ∀ b x, H b = some (.own x) → H' b = some (.own x) ∨ H' b = some (.xd [])) (e : H' a = H a) (ro : RepO G φ H a o) : RepO G φ' H' a o := by
  cases o with
  | lst ds => obtain ⟨vs, e1, q⟩ := ro; exact ⟨vs, e.trans e1, rvs q⟩
  | dic kvs =>
    obtain ⟨z, ⟨ks, e1, q⟩ | ⟨xs, ne, e1, q1, q2, q⟩⟩ := ro
    · exact ⟨z, .inl ⟨ks, e.trans e1, paired_map q fun p k h => ⟨h.1, rv h.2⟩⟩⟩
    · exact ⟨z, .inr ⟨xs, ne, e.trans e1, q1, q2, paired_map q fun p k h => ⟨h.1, h.2.1, rv h.2.2.1, let ⟨v, r1, r2⟩ := h.2.2.2; ⟨v, r1, rv r2⟩⟩⟩⟩
  | set => obtain ⟨xs, ks, e0, e1, q⟩ := ro; exact ⟨xs, ks, e0, e.trans e1, q⟩
  | ins c fs =>
    obtain ⟨nd, C, dx, hC, ⟨z, ws, e1, ql, q, q2⟩ | ⟨z, vs, hs, hw, q⟩⟩ := ro
    · exact ⟨nd, C, dx, hC, .inl ⟨z, ws, e.trans e1, ql, fun f d hf => let ⟨a0, v, a1, a2⟩ := q f d hf; ⟨a0, v, a1, rv a2⟩, q2⟩⟩
    · refine ⟨nd, C, dx, hC, .inr ⟨z, vs, ?_, ⟨hw.1, hw.2.elim (fun q => ho _ _ q) (fun q => .inr (hx _ _ q))⟩, fun f d hf => let ⟨i, v, a1, a2, a3⟩ := q f d hf; ⟨i, v, a1, a2, rv a3⟩⟩⟩
      rcases hs with ⟨h1, h2⟩ | ⟨h1, h2⟩
      · exact .inl ⟨e.trans h1, h2⟩
      · exact .inr ⟨e.trans h1, hx _ _ h2⟩
theorem repO_ext (r : RelH G φ h H) (x : Ext φ H φ' H') (e : H' a = H a) (ro : RepO G φ H a o) : RepO G φ' H' a o :=
  repO_imp (repV_ext r x) (repVs_ext r x) (fun b fs q => x.keep _ _ q (r.notXd q) trivial) (fun b y q => x.own _ _ q (r.notOwn q)) e ro
theorem ext_alloc (r : RelH G φ h H) (hp : H p = none) : Ext φ H (φ ++ [p]) (upd H p u) := .of (List.prefix_append _ _)
  (fun b hb nb => by
    rcases List.mem_append.mp hb with z | z
    · exact absurd z nb
    · rw [List.mem_singleton.mp z]; exact hp)
  (fun b o e _ => by rw [upd_ne (ne_of_none e hp)]; exact e)
theorem RelH.alloc (r : RelH G φ h H) (hp : H p = none) (ro : RepO G (φ ++ [p]) (upd H p u) p o) : RelH G (φ ++ [p]) (h ++ [o]) (upd H p u) where
  tab := r.tabs (ext_alloc (u := u) r hp).new fun b o e _ _ _ => by rw [upd_ne (ne_of_none e hp)]; exact e
  len := by simp [r.len]
  nd := by
    refine List.nodup_append.mpr ⟨r.nd, by simp, fun b hb c hc => ?_⟩
    rw [List.mem_singleton.mp hc]
    intro e
    rw [e] at hb
    exact r.free hp hb
  obj := fun j o' b e1 e2 => by
    have hl := r.len
    by_cases hj : j < h.length
    · rw [List.getElem?_append_left hj] at e1
      rw [List.getElem?_append_left (by omega)] at e2
      have nb : b ≠ p := fun z => r.free hp (by rw [← z]; exact List.mem_of_getElem? e2)
      exact repO_ext r (ext_alloc r hp) (upd_ne nb) (r.obj j o' b e1 e2)
    · rw [List.getElem?_append_right (by omega)] at e1 e2
      have z1 : j - h.length = 0 := by
        have := (List.getElem?_eq_some_iff.mp e1).1
        simp at this; omega
      have z2 : j - φ.length = 0 := by omega
      rw [z1] at e1; rw [z2] at e2
      simp at e1 e2
      subst e1; subst e2
      exact ro
theorem ext_put (hi : φ[i]? = some a) : Ext φ H φ (upd H a u) := .of (List.prefix_refl _)
  (fun b hb nb => absurd hb nb)
  (fun b o e nb => by
    have n : b ≠ a := fun z => nb (by rw [z]; exact List.mem_of_getElem? hi)
    rw [upd_ne n]; exact e)
theorem nodup_get {xs : List Addr} (nd : xs.Nodup) {i j : Nat} {a : Addr} (h1 : xs[i]? = some a) (h2 : xs[j]? = some a) : i = j := by
  induction xs generalizing i j with
  | nil => simp at h1
  | cons x xs ih =>
    obtain ⟨n1, n2⟩ := List.nodup_cons.mp nd
    cases i with
    | zero =>
      cases j with
      | zero => rfl
      | succ j =>
        simp at h1 h2
        subst h1
        exact absurd (List.mem_of_getElem? h2) n1
    | succ i =>
      cases j with
      | zero =>
        simp at h1 h2
        subst h2
        exact absurd (List.mem_of_getElem? h1) n1
      | succ j => exact congrArg (· + 1) (ih n2 (i := i) (j := j) (by simpa using h1) (by simpa using h2))
theorem RelH.put (r : RelH G φ h H) (hi : φ[i]? = some a) (ro : RepO G φ (upd H a u) a o) : RelH G φ (h.set i o) (upd H a u) where
  tab := r.tabs (fun b hb nb => absurd hb nb) fun b o e nb _ _ => by rw [upd_ne fun z => nb (by rw [z]; exact List.mem_of_getElem? hi)]; exact e
  len := by simp [r.len]
  nd := r.nd
  obj := fun j o' b e1 e2 => by
    by_cases hj : j = i
    · subst hj
      rw [hi] at e2; cases e2
      have hl : j < h.length := by
        have := (List.getElem?_eq_some_iff.mp e1).1
        simpa using this
      rw [List.getElem?_set_self hl] at e1
      cases e1
      exact ro
    · rw [List.getElem?_set_ne (Ne.symm hj)] at e1
      have nb : b ≠ a := fun (z : b = a) => by
        subst z
        exact hj (nodup_get r.nd e2 hi)
      exact repO_ext r (ext_put hi) (upd_ne nb) (r.obj j o' b e1 e2)
theorem ext_tup (hp : H p = none) : Ext φ H φ (upd H p u) := .of (List.prefix_refl _)
  (fun b hb nb => absurd hb nb)
  (fun b o e _ => by rw [upd_ne (ne_of_none e hp)]; exact e)
theorem RelH.tup (r : RelH G φ h H) (hp : H p = none) : RelH G φ h (upd H p u) where
  tab := r.tabs (fun b hb nb => absurd hb nb) fun b o e _ _ _ => by rw [upd_ne (ne_of_none e hp)]; exact e
  len := r.len
  nd := r.nd
  obj := fun j o' b e1 e2 => by
    have nb : b ≠ p := fun z => r.free hp (by rw [← z]; exact List.mem_of_getElem? e2)
    exact repO_ext r (ext_tup hp) (upd_ne nb) (r.obj j o' b e1 e2)
/-- a new list -/
theorem new_lst {Q : VK} (r : RelH G φ h H) (rv : RepVs G φ H ds vs) (q : ∀ φ' H' v, Ext φ H φ' H' → RelH G φ' (h ++ [PObj.lst ds]) H' → RepV G φ' H' (.ref h.length) v → Q v H') :
    ∀ p, H p = none → Q (.ref p) (upd H p (.lst vs)) := fun p hp => by
  have x := ext_alloc (u := HO.lst vs) r hp
  refine q (φ ++ [p]) _ _ x (r.alloc hp ⟨vs, upd_same, repVs_ext r x rv⟩) (.ref ?_)
  rw [← r.len, List.getElem?_append_right (Nat.le_refl _)]; simp
theorem new_tup {Q : VK} (r : RelH G φ h H) (rv : RepVs G φ H ds vs) (q : ∀ φ' H' v, Ext φ H φ' H' → RelH G φ' h H' → RepV G φ' H' (.tup ds) v → Q v H') :
    ∀ p, H p = none → Q (.ref p) (upd H p (.tup vs)) := fun p hp => by
  have x := ext_tup (φ := φ) (u := HO.tup vs) hp
  exact q φ _ _ x (r.tup hp) (.tup (SqT.of upd_same) (repVs_ext r x rv))
/-- a new list that nobody changes -/
theorem new_fl {Q : VK} (r : RelH G φ h H) (rv : RepVs G φ H ds vs) (q : ∀ φ' H' v, Ext φ H φ' H' → RelH G φ' h H' → RepV G φ' H' (.fl ds) v → Q v H') :
    ∀ p, H p = none → ∀ od, Q (.ref p) (upd (upd H p (.lst vs)) p (.frz od (.lst vs))) := fun p hp od => by
  rw [upd_upd]
  have x := ext_tup (φ := φ) (u := HO.frz od (.lst vs)) hp
  exact q φ _ _ x (r.tup hp) (.fl ⟨od, upd_same⟩ (repVs_ext r x rv))
/-- .. any thing -/
theorem new_fz {Q : VK} (r : RelH G φ h H) (rv : RepV G φ (upd H p (.frz od u)) (.fz o) (.ref p)) (hp : H p = none) (q : ∀ φ' H' v, Ext φ H φ' H' → RelH G φ' h H' → RepV G φ' H' (.fz o) v → Q v H') :
    Q (.ref p) (upd (upd H p u) p (.frz od u)) := by
  rw [upd_upd]
  exact q φ _ _ (ext_tup hp) (r.tup hp) rv
/-- what seqOf, lstOf tell -/
theorem rep_lst (r : RelH G φ h H) (rv : RepV G φ H d v) (e : lstOf h d = some ds) : ∃ a vs, v = .ref a ∧ SqL G.K H a vs ∧ RepVs G φ H ds vs := by
  unfold lstOf at e
  cases rv with
  | fl s q => simp only [objOf] at e; cases e; exact ⟨_, _, rfl, s.sq, q⟩
  | ref hi =>
    rename_i i a
    simp only [objOf] at e
    split at e
    · rename_i xs hx
      cases e
      obtain ⟨vs, e1, q⟩ := r.obj i _ a hx hi
      exact ⟨a, vs, rfl, SqL.of e1, q⟩
    · cases e
  | _ => simp only [objOf] at e; cases e
theorem rep_lstR (r : RelH G φ h H) (rv : RepV G φ H d v) (e : lstOf h d = some ds) : ∃ a vs, v = .ref a ∧ Rd H a (.lst vs) ∧ RepVs G φ H ds vs := by
  unfold lstOf at e
  cases rv with
  | fl s q => simp only [objOf] at e; cases e; exact ⟨_, _, rfl, s.rd, q⟩
  | ref hi =>
    rename_i i a
    simp only [objOf] at e
    split at e
    · rename_i xs hx
      cases e
      obtain ⟨vs, e1, q⟩ := r.obj i _ a hx hi
      exact ⟨a, vs, rfl, .inl e1, q⟩
    · cases e
  | _ => simp only [objOf] at e; cases e
theorem ints_repVs : ∀ ns : List Int, RepVs G φ H (ns.map PV.int) (ns.map V.int)
  | [] => .nil
  | n :: r => .cons (.int n) (ints_repVs r)
theorem seq_cases (e : seqOf h d = some ds) : d = .tup ds ∨ lstOf h d = some ds ∨ ∃ ns, d = .scr ns ∧ ds = ns.map .int := by
  cases d <;> simp only [seqOf] at e <;> first | (cases e; exact .inl rfl) | exact .inr (.inl e) | (cases e; exact .inr (.inr ⟨_, rfl, rfl⟩))
theorem rep_seq (r : RelH G φ h H) (rv : RepV G φ H d v) (e : seqOf h d = some ds) : ∃ a vs, v = .ref a ∧ (SqL G.K H a vs ∨ SqT G.K H a vs) ∧ RepVs G φ H ds vs := by
  rcases seq_cases e with rfl | e | ⟨ns, rfl, rfl⟩
  · cases rv with
    | tup s q => exact ⟨_, _, rfl, .inr s, q⟩
  · obtain ⟨a, vs, e1, s, q⟩ := rep_lst r rv e
    exact ⟨a, vs, e1, .inl s, q⟩
  · cases rv with
    | scr s => exact ⟨_, _, rfl, .inl s.sq, ints_repVs ns⟩
/-- data -/
theorem mapO_cons {α β : Type} {f : α → Option β} {a : α} {r : List α} {bs : List β} (e : mapO f (a :: r) = some bs) : ∃ b bs', f a = some b ∧ mapO f r = some bs' ∧ bs = b :: bs' := by
  simp only [mapO] at e
  split at e
  · rename_i b bs' h1 h2; cases e; exact ⟨b, bs', h1, h2, rfl⟩
  · cases e
theorem rep_all (f : PV → Option PyData) (P : ∀ {d : PV} {v : V} {x : PyData}, RepV G φ H d v → f d = some x → Dp G.K H v x) : ∀ {ds : List PV} {vs : List V} {xs : List PyData}, RepVs G φ H ds vs → mapO f ds = some xs → DpAll G.K H vs xs
  | _, _, xs, .nil, e => by simp only [mapO] at e; cases e; exact .nil
  | _, _, xs, .cons r rs, e => by
    obtain ⟨b, bs, e1, e2, rfl⟩ := mapO_cons e
    exact .cons (P r e1) (rep_all f P rs e2)
theorem rep_data (r : RelH G φ h H) : ∀ (n : Nat) {d : PV} {v : V} {x : PyData}, RepV G φ H d v → toD h n d = some x → Dp G.K H v x
  | n, .non, _, _, .non, e => by unfold toD at e; cases e; exact .non
  | n, .bl b, _, _, .bl _, e => by unfold toD at e; cases e; exact .bl b
  | n, .int b, _, _, .int _, e => by unfold toD at e; cases e; exact .int b
  | n, .str b, _, _, .str _, e => by unfold toD at e; cases e; exact .str b
  | n, .ty _, _, _, _, e => by cases n <;> (unfold toD at e; cases e)
  | n, .gl _, _, _, _, e => by cases n <;> (unfold toD at e; cases e)
  | n, .scr _, _, _, _, e => by cases n <;> (unfold toD at e; cases e)
  | 0, .tup _, _, _, _, e => by unfold toD at e; cases e
  | 0, .fz _, _, _, _, e => by unfold toD at e; cases e
  | 0, .ref _, _, _, _, e => by unfold toD at e; cases e
  | n + 1, .tup ds, _, _, .tup s q, e => by
    unfold toD at e
    cases e1 : mapO (toD h n) ds with
    | none => rw [e1] at e; cases e
    | some xs => rw [e1] at e; cases e; exact .tup s (rep_all _ (rep_data r n) q e1)
  | n + 1, .fz (.lst ds), _, _, .fl s q, e => by
    unfold toD at e
    dsimp only at e
    cases e1 : mapO (toD h n) ds with
    | none => rw [e1] at e; cases e
    | some xs => rw [e1] at e; cases e; exact .lst s.sq (rep_all _ (rep_data r n) q e1)
  | n + 1, .fz (.dic _), _, _, _, e => by unfold toD at e; cases e
  | n + 1, .fz (.set _), _, _, _, e => by unfold toD at e; cases e
  | n + 1, .fz (.ins _ _), _, _, _, e => by unfold toD at e; cases e
  | n + 1, .ref i, _, _, .ref hi, e => by
    unfold toD at e
    split at e
    · rename_i ds hx
      obtain ⟨vs, e0, q⟩ := r.obj i _ _ hx hi
      cases e1 : mapO (toD h n) ds with
      | none => rw [e1] at e; cases e
      | some xs => rw [e1] at e; cases e; exact .lst (SqL.of e0) (rep_all _ (rep_data r n) q e1)
    · cases e
end
end Zed
end
section
set_option Elab.async false
set_option linter.all false
set_option maxRecDepth 100000
namespace Zed
open PySem L2
section
variable {X : Cx} {G : Gc} {φ φ' : List Addr} {h h' : PHeap} {H H' : Hp} {a p : Addr} {d : PV} {v : V} {ds : List PV} {vs : List V} {l : Loc} {σ : St} {o : PObj} {u : HO} {i : Nat}
theorem log2_big {i : Int} (h : i.natAbs < big) : i.natAbs.log2 < 9000 := by
  unfold big at h
  by_cases z : i.natAbs = 0
  · rw [z]; decide
  · exact (Nat.log2_lt z).mpr h
/-- from a reading to a rule of two -/
theorem opr_of {f : Value → Value → Sem Value} {F : Pf}
    (k : ∀ (pins : List (Addr × Obj)) (s : Shared) (σ : St) (H : Hp) (x y : V) (v u : Value) (Q : VK) (φ : List Addr) (h : PHeap) (d e : PV) (z : PV) (h' : PHeap), Inv X pins σ H s → RelV x v → RelV y u → RelH G φ h H → RepV G φ H d x → RepV G φ H e y →
      F [d, e] h = some (z, h') → (∀ φ' H' v, Ext φ H φ' H' → RelH G φ' h' H' → RepV G φ' H' z v → Q v H') → wpAny (model X.prog X.w) X.A (f v u) (EP X pins σ Q) X.xe s) : OpR X f (r2 G F) := by
  intro pins s σ H x y v u Q I rx ry q
  obtain ⟨φ, h, ds, z, h', rh, rv, e, q⟩ := q
  cases rv with
  | cons r1 rv =>
    cases rv with
    | cons r2 rv =>
      cases rv
      exact k pins s σ H x y v u Q φ h _ _ z h' I rx ry rh r1 r2 e q
theorem some2 {α β : Type} {a c : α} {b d : β} (e : some (a, b) = some (c, d)) : a = c ∧ b = d := by cases e; exact ⟨rfl, rfl⟩
/-- what is new is locked -/
theorem ep_lock {pins : List (Addr × Obj)} {Q : VK} {w : Value} {s : Shared} (e : EP X pins σ (fun v H' => ∃ d u, v = .ref d ∧ H' d = some u ∧ Mut (some u) ∧ ∀ od, Q v (upd H' d (.frz od u))) w s) : EP X pins σ Q w s := by
  obtain ⟨v, H', I, r, d, u, e1, e2, mu, q⟩ := e
  obtain ⟨od, I'⟩ := I.lock e2 mu
  exact ⟨v, _, I', r, q od⟩
theorem wp_lock {t : Sem Value} {pins : List (Addr × Obj)} {Q : VK} {s : Shared} (e : wpAny (model X.prog X.w) X.A t (EP X pins σ (fun v H' => ∃ d u, v = .ref d ∧ H' d = some u ∧ Mut (some u) ∧ ∀ od, Q v (upd H' d (.frz od u)))) X.xe s) : wpAny (model X.prog X.w) X.A t (EP X pins σ Q) X.xe s :=
  thn e fun _ _ q => ep_lock q
theorem pe_frz {e : Expr} {t : TE} (h : PE X e t) : PE X e (fun σ H Q => t σ H fun v H' => ∃ d u, v = .ref d ∧ H' d = some u ∧ Mut (some u) ∧ ∀ od, Q v (upd H' d (.frz od u))) :=
  ⟨fun pins s σ H Q I q => wp_lock (h.run pins s σ H _ I q)⟩
/-- a list that can be read, in the model's heap -/
theorem rd_list {pins : List (Addr × Obj)} {s : Shared} {b : Addr} {xs : List V} (I : Inv X pins σ H s) (r : Rd H b (.lst xs)) : ∃ (its : List Value) (n : Nat), Vals xs its ∧ s.heap.get? b = some { cls := .type "list", data := .seq its.toArray n } :=
  let ⟨_, its, n, q, e⟩ := r.ok I.hok
  ⟨its, n, q, e⟩
/-- list + list, both read: a new locked list -/
theorem cat_Z {pins : List (Addr × Obj)} {s : Shared} {b c : Addr} {xs ys : List V} {Q : VK} (I : Inv X pins σ H s) (r1 : Rd H b (.lst xs)) (r2 : Rd H c (.lst ys)) (hz : xs.length + ys.length ≤ sizeLine)
    (q : ∀ p, H p = none → ∀ od, Q (.ref p) (upd (upd H p (.lst (xs ++ ys))) p (.frz od (.lst (xs ++ ys))))) : wpAny (model X.prog X.w) X.A (binaryOp .Add (.ref b) (.ref c)) (EP X pins σ Q) X.xe s := by
  obtain ⟨is, n, v1, e1⟩ := rd_list I r1
  obtain ⟨js, m, v2, e2⟩ := rd_list I r2
  have z1 := v1.length
  have z2 := v2.length
  refine wp_lock (PySem.P.add_list e1 e2 (hsz := by simp only [List.size_toArray]; omega) ?_)
  have J := I.lnew (t' := s.toks) (v1.append v2) (by simpa using hz)
  rw [show is.toArray ++ js.toArray = (is ++ js).toArray by simp]
  exact ⟨.ref _, _, J, rfl, _, _, rfl, upd_same, trivial, q _ I.fresh⟩
theorem op_addZ (hK : G.K = X.K) : OpR X (binaryOp .Add) (r2 G (bopF .add)) := by
  refine opr_of fun pins s σ H x y v u Q φ h d e z h' I rx ry rh r1 r2 ef q => ?_
  simp only [bopF] at ef
  unfold addF at ef
  split at ef
  · obtain ⟨rfl, rfl⟩ := some2 ef
    cases r1; cases r2
    exact op_add pins s σ H _ _ v u Q I rx ry ⟨_, _, rfl, rfl, q φ H _ .refl rh (.int _)⟩
  · split at ef
    · rename_i hz
      obtain ⟨rfl, rfl⟩ := some2 ef
      cases r1; cases r2
      exact op_add_str pins s σ H _ _ v u Q I rx ry ⟨_, _, rfl, rfl, hz, q φ H _ .refl rh (.str _)⟩
    · cases ef
  · split at ef
    · rename_i xs ys hz
      obtain ⟨rfl, rfl⟩ := some2 ef
      cases r1 with
      | tup s1 q1 =>
        cases r2 with
        | tup s2 q2 =>
          have l1 := q1.length
          have l2 := q2.length
          refine op_catA pins s σ H _ _ v u Q I rx ry ⟨_, _, _, _, rfl, rfl, hK ▸ s1, hK ▸ s2, by omega, fun e => ?_, fun _ e => ?_, fun _ _ => new_tup rh (q1.append q2) q⟩
          · have z : xs = [] := by apply List.eq_nil_of_length_eq_zero; rw [l1, e]; rfl
            subst z
            exact q φ H _ .refl rh (.tup s2 q2)
          · have z : ys = [] := by apply List.eq_nil_of_length_eq_zero; rw [l2, e]; rfl
            subst z
            rw [List.append_nil] at q
            exact q φ H _ .refl rh (.tup s1 q1)
    · cases ef
  · split at ef
    · rename_i xs ys e1 e2
      split at ef
      · rename_i hz
        obtain ⟨rfl, rfl⟩ := some2 ef
        obtain ⟨a, as, rfl, sa, qa⟩ := rep_lstR rh r1 e1
        obtain ⟨b, bs, rfl, sb, qb⟩ := rep_lstR rh r2 e2
        have l1 := qa.length
        have l2 := qb.length
        cases rx
        cases ry
        exact cat_Z I sa sb (by omega) (new_fl rh (qa.append qb) q)
      · cases ef
    · cases ef
theorem RepVs.rep {xs : List PV} (q : RepVs G φ H ds vs) : ∀ n, RepVs G φ H (List.replicate n ds).flatten (List.replicate n vs).flatten
  | 0 => .nil
  | n + 1 => by
    rw [List.replicate_succ, List.replicate_succ, List.flatten_cons, List.flatten_cons]
    exact q.append (RepVs.rep (xs := xs) q n)
theorem op_mulZ (hK : G.K = X.K) : OpR X (binaryOp .Mult) (r2 G (bopF .mul)) := by
  refine opr_of fun pins s σ H x y v u Q φ h d e z h' I rx ry rh r1 r2 ef q => ?_
  simp only [bopF] at ef
  unfold mulF at ef
  split at ef
  · split at ef
    · rename_i hz
      obtain ⟨rfl, rfl⟩ := some2 ef
      cases r1; cases r2
      refine op_mulW pins s σ H _ _ v u Q I rx ry ⟨_, _, rfl, rfl, ?_, q φ H _ .refl rh (.int _)⟩
      have := log2_big hz.1
      have := log2_big hz.2
      show _ + _ < _
      omega
    · cases ef
  · split at ef
    · rename_i hz
      obtain ⟨rfl, rfl⟩ := some2 ef
      cases r1 with
      | tup s1 q1 =>
        cases r2
        have l1 := q1.length
        refine op_repT pins s σ H _ _ v u Q I rx ry ⟨_, _, _, rfl, rfl, hK ▸ s1, fun e => ?_, hz.2.1, hz.2.2.1, by omega, new_tup rh (RepVs.rep (xs := []) q1 _) q⟩
        rw [e] at l1
        exact hz.1 (List.eq_nil_of_length_eq_zero l1)
    · cases ef
  · split at ef
    · rename_i xs e1
      split at ef
      · rename_i hz
        obtain ⟨rfl, rfl⟩ := some2 ef
        cases r1 with
        | ref hi =>
          obtain ⟨as, sa, qa⟩ := rh.obj _ _ _ e1 hi
          cases r2
          have l1 := qa.length
          exact wp_lock (op_rep pins s σ H _ _ v u _ I rx ry ⟨_, _, _, rfl, rfl, sa, hz.1, hz.2.1, by rw [← l1]; exact hz.2.2, fun p np => ⟨p, _, rfl, upd_same, trivial, new_fl rh (RepVs.rep (xs := []) qa _) q p np⟩⟩)
      · cases ef
    · cases ef
  · cases ef
theorem op_powW : OpR X (binaryOp .Pow) (rI (fun i j => 0 ≤ j ∧ j ≤ 1000 ∧ i.natAbs < 2 ^ 300) fun i j => .int (i ^ j.toNat)) := opI fun i j _ _ _ _ _ hc q => by
  refine PyProof.Rows.pow_int hc.1 ?_ q
  have hb := PyProof.Rows.intBits_le hc.2.2
  have h1 : (Builtin.Int.intBits i : Int) * j ≤ 300 * j := Int.mul_le_mul_of_nonneg_right (by omega) hc.1
  have := hc.2.1
  omega
theorem op_arZ {op : Bop} {bo : Operator} {C : Int → Int → Prop} {g : Int → Int → Int} (o : OpR X (binaryOp bo) (rI C fun i j => .int (g i j))) (hop : ∀ x y h, bopF op [x, y] h = match x, y with | .int i, .int j => (arI op i j).map fun k => (.int k, h) | _, _ => none)
    (har : ∀ i j k, arI op i j = some k → C i j ∧ k = g i j) : OpR X (binaryOp bo) (r2 G (bopF op)) := by
  refine opr_of fun pins s σ H x y v u Q φ h d e z h' I rx ry rh r1 r2 ef q => ?_
  rw [hop] at ef
  split at ef
  · rename_i i j
    cases e1 : arI op i j with
    | none => rw [e1] at ef; cases ef
    | some k =>
      rw [e1] at ef
      obtain ⟨rfl, rfl⟩ := some2 ef
      obtain ⟨c, rfl⟩ := har i j k e1
      cases r1; cases r2
      exact o pins s σ H _ _ v u Q I rx ry ⟨_, _, rfl, rfl, c, q φ H _ .refl rh (.int _)⟩
  · cases ef
theorem op_subZ : OpR X (binaryOp .Sub) (r2 G (bopF .sub)) := op_arZ (C := fun _ _ => True) (g := fun i j => i - j) (fun pins s σ H x y v u Q I rx ry ⟨i, j, e1, e2, _, q⟩ => op_sub pins s σ H x y v u Q I rx ry ⟨i, j, e1, e2, q⟩) (fun _ _ _ => rfl) fun i j k e => by
  simp only [arI] at e; cases e; exact ⟨trivial, rfl⟩
theorem op_fdivZ : OpR X (binaryOp .FloorDiv) (r2 G (bopF .fdiv)) := op_arZ (g := fun i j => i / j) op_fdivW (fun _ _ _ => rfl) fun i j k e => by
  simp only [arI] at e
  split at e
  · rename_i hz; cases e; exact ⟨⟨hz.1, log2_big hz.2⟩, rfl⟩
  · cases e
theorem op_modZ : OpR X (binaryOp .Mod) (r2 G (bopF .mod)) := op_arZ (g := fun i j => i % j) op_mod (fun _ _ _ => rfl) fun i j k e => by
  simp only [arI] at e
  split at e
  · rename_i hz; cases e; exact ⟨hz, rfl⟩
  · cases e
theorem op_powZ : OpR X (binaryOp .Pow) (r2 G (bopF .pow)) := op_arZ (g := fun i j => i ^ j.toNat) op_powW (fun _ _ _ => rfl) fun i j k e => by
  simp only [arI] at e
  split at e
  · rename_i hz; cases e; exact ⟨hz, rfl⟩
  · cases e
/-! ### comparisons -/
theorem cmp_of {co : CmpOp} {op : Cop}
    (k : ∀ (pins : List (Addr × Obj)) (s : Shared) (σ : St) (H : Hp) (x y : V) (v u : Value) (Q : VK) (φ : List Addr) (h : PHeap) (d e : PV) (b : Bool), Inv X pins σ H s → RelV x v → RelV y u → RelH G φ h H → RepV G φ H d x → RepV G φ H e y →
      cmpB op h d e = some b → Q (.bl b) H → wpAny (model X.prog X.w) X.A (compareOp co v u) (EP X pins σ Q) X.xe s) : OpR X (compareOp co) (r2 G (cmpF op)) := by
  refine opr_of fun pins s σ H x y v u Q φ h d e z h' I rx ry rh r1 r2 ef q => ?_
  simp only [cmpF] at ef
  cases e1 : cmpB op h d e with
  | none => rw [e1] at ef; cases ef
  | some b =>
    rw [e1] at ef
    obtain ⟨rfl, rfl⟩ := some2 ef
    exact k pins s σ H x y v u Q φ h d e b I rx ry rh r1 r2 e1 (q φ H _ .refl rh (.bl _))
theorem eq_data (rh : RelH G φ h H) {x y : V} {d e : PV} {b : Bool} (r1 : RepV G φ H d x) (r2 : RepV G φ H e y) (e1 : eqD h d e = some b) : ∃ p q, Dp G.K H x p ∧ Dp G.K H y q ∧ SeqAt.shaped p = true ∧ SeqAt.shaped q = true ∧ b = PyData.eqv p q := by
  unfold eqD at e1
  split at e1
  · rename_i p q h1 h2
    split at e1
    · rename_i hz
      cases e1
      exact ⟨p, q, rep_data rh _ r1 h1, rep_data rh _ r2 h2, hz.1, hz.2, rfl⟩
    · cases e1
  · cases e1
theorem flat_eq {x : V} {d : PV} (r : RepV G φ H d x) (f : flatP d = true) : flatV x = true ∧ ∀ {e : PV} {y : V}, RepV G φ H e y → flatP e = true → eqV y x = eqP e d := by
  cases r <;> simp only [flatP] at f <;> first | (cases f; done) | skip
  all_goals refine ⟨rfl, fun {e y} r2 f2 => ?_⟩
  all_goals (cases r2 <;> simp only [flatP] at f2 <;> first | (cases f2; done) | rfl)
theorem eqTup_run {A : Around} {s : Shared} : ∀ {xs ys : List PV} {vs ws : List V} {us ts : List Value} {b : Bool}, RepVs G φ H xs vs → RepVs G φ H ys ws → Vals vs us → Vals ws ts → eqTup xs ys = some b →
    ∃ f : Nat → Bool, (∀ j (h1 : j < us.length) (h2 : j < ts.length), SeqAt.EqAt A s us[j] ts[j] (f j)) ∧ ((List.range (min us.length ts.length)).all f && us.length == ts.length) = b
  | [], [], _, _, _, _, _, .nil, .nil, .nil, .nil, e => by
    simp only [eqTup] at e; cases e
    exact ⟨fun _ => true, fun j h1 => absurd h1 (by simp), rfl⟩
  | [], _ :: _, _, _, _, _, _, .nil, .cons _ _, .nil, .cons _ _, e => by
    simp only [eqTup] at e; cases e
    exact ⟨fun _ => true, fun j h1 => absurd h1 (by simp), by simp⟩
  | _ :: _, [], _, _, _, _, _, .cons _ _, .nil, .cons _ _, .nil, e => by
    simp only [eqTup] at e; cases e
    exact ⟨fun _ => true, fun j h1 h2 => absurd h2 (by simp), by simp⟩
  | x :: xs, y :: ys, _, _, _, _, b, .cons rx q1, .cons ry q2, .cons vx w1, .cons vy w2, e => by
    simp only [eqTup] at e
    split at e
    · rename_i hf
      rw [Bool.and_eq_true] at hf
      cases e2 : eqTup xs ys with
      | none => rw [e2] at e; cases e
      | some c =>
        rw [e2] at e
        cases e
        obtain ⟨f, g1, g2⟩ := eqTup_run (A := A) (s := s) q1 q2 w1 w2 e2
        refine ⟨fun j => match j with | 0 => eqP x y | j + 1 => f j, fun j h1 h2 => ?_, ?_⟩
        · cases j with
          | zero =>
            have fx := flat_eq rx hf.1
            have fy := flat_eq ry hf.2
            have z := eqAt_V (A := A) (s := s) vx vy fx.1 fy.1
            rw [fy.2 rx hf.1] at z
            exact z
          | succ j => exact g1 j (Nat.lt_of_succ_lt_succ h1) (Nat.lt_of_succ_lt_succ h2)
        · rw [← g2]
          simp only [List.length_cons, Nat.succ_min_succ, List.range_succ_eq_map, List.all_cons, List.all_map, Function.comp_def, Bool.and_assoc]
          congr 2
          simp
    · cases e
theorem eqP_same {x : V} {d e : PV} (r1 : RepV G φ H d x) (r2 : RepV G φ H e x) (f1 : flatP d = true) (f2 : flatP e = true) : eqP d e = true := by
  cases r1 <;> simp only [flatP] at f1 <;> first | (cases f1; done) | skip
  all_goals (cases r2 <;> simp [eqP])
/-- the pairs of two rows of values -/
theorem zip_run {P : PV → PV → Value → Value → Bool → Prop} {f : PV → PV → Option Bool} (hp : ∀ d e x y u t b, RepV G φ H d x → RepV G φ H e y → RelV x u → RelV y t → f d e = some b → P d e u t b) :
    ∀ {xs ys : List PV} {vs ws : List V} {us ts : List Value} {b : Bool}, RepVs G φ H xs vs → RepVs G φ H ys ws → Vals vs us → Vals ws ts → allO (List.zipWith f xs ys) = some b →
      ∃ g : Nat → Bool, (∀ j (h1 : j < us.length) (h2 : j < ts.length), ∃ d e, P d e us[j] ts[j] (g j)) ∧ (List.range (min us.length ts.length)).all g = b ∧ us.length = xs.length ∧ ts.length = ys.length
  | [], ys, _, _, _, _, _, .nil, r2, .nil, w2, e => by
    simp only [List.zipWith_nil_left, allO] at e
    cases e
    refine ⟨fun _ => true, fun j h1 => absurd h1 (by simp), by simp, rfl, ?_⟩
    rw [← w2.length, r2.length]
  | x :: xs, [], _, _, _, _, _, .cons r1 q1, .nil, .cons v1 w1, .nil, e => by
    simp only [List.zipWith_nil_right, allO] at e
    cases e
    refine ⟨fun _ => true, fun j h1 h2 => absurd h2 (by simp), by simp, ?_, rfl⟩
    have := w1.length
    have := q1.length
    simp only [List.length_cons]; omega
  | x :: xs, y :: ys, _, _, _, _, b, .cons rx q1, .cons ry q2, .cons vx w1, .cons vy w2, e => by
    simp only [List.zipWith_cons_cons] at e
    cases e0 : f x y with
    | none => rw [e0] at e; cases e
    | some c0 =>
      rw [e0] at e
      simp only [allO] at e
      cases e2 : allO (List.zipWith f xs ys) with
      | none => rw [e2] at e; cases e
      | some c =>
        rw [e2] at e
        cases e
        obtain ⟨g, g1, g2, g3, g4⟩ := zip_run hp q1 q2 w1 w2 e2
        refine ⟨fun j => match j with | 0 => c0 | j + 1 => g j, fun j h1 h2 => ?_, ?_, by simp [g3], by simp [g4]⟩
        · cases j with
          | zero => exact ⟨x, y, hp x y _ _ _ _ c0 rx ry vx vy e0⟩
          | succ j => exact g1 j (Nat.lt_of_succ_lt_succ h1) (Nat.lt_of_succ_lt_succ h2)
        · rw [← g2]
          simp only [List.length_cons, Nat.succ_min_succ, List.range_succ_eq_map, List.all_cons, List.all_map, Function.comp_def]
theorem eqG_flat {n : Nat} {d e : PV} (f : (flatP d && flatP e) = true) : eqG h n d e = some (eqP d e) := by
  cases n <;> (unfold eqG; rw [if_pos f])
theorem allO_true {f : PV → PV → Option Bool} (hf : ∀ {d e : PV} {x : V} {b : Bool}, RepV G φ H d x → RepV G φ H e x → f d e = some b → b = true) : ∀ {xs ys : List PV} {vs : List V} {b : Bool}, RepVs G φ H xs vs → RepVs G φ H ys vs → allO (List.zipWith f xs ys) = some b → b = true
  | _, _, _, _, .nil, .nil, e => by simp only [List.zipWith_nil_left, allO] at e; cases e; rfl
  | x :: xs, y :: ys, _, _, .cons r1 q1, .cons r2 q2, e => by
    simp only [List.zipWith_cons_cons] at e
    cases e0 : f x y with
    | none => rw [e0] at e; cases e
    | some c0 =>
      rw [e0] at e
      simp only [allO] at e
      cases e2 : allO (List.zipWith f xs ys) with
      | none => rw [e2] at e; cases e
      | some c =>
        rw [e2] at e
        cases e
        rw [hf r1 r2 e0, allO_true hf q1 q2 e2]; rfl
/-- the kinds of what eqG compares -/
theorem eqG_cases {n : Nat} {d e : PV} {b : Bool} (z : eqG h (n + 1) d e = some b) : ((flatP d && flatP e) = true ∧ b = eqP d e) ∨
    (∃ xs ys c, d = .tup xs ∧ e = .tup ys ∧ allO (List.zipWith (eqG h n) xs ys) = some c ∧ b = (c && xs.length == ys.length)) ∨
    (∃ xs ys, lstOf h d = some xs ∧ lstOf h e = some ys ∧ ((xs.length = ys.length ∧ allO (List.zipWith (eqG h n) xs ys) = some b) ∨ (xs.length ≠ ys.length ∧ b = false))) := by
  unfold eqG at z
  split at z
  · rename_i f; cases z; exact .inl ⟨f, rfl⟩
  · split at z
    · rename_i xs ys _
      cases e1 : allO (List.zipWith (eqG h n) xs ys) with
      | none => rw [e1] at z; cases z
      | some c => rw [e1] at z; cases z; exact .inr (.inl ⟨xs, ys, c, rfl, rfl, e1, rfl⟩)
    · split at z
      · rename_i xs ys e1 e2
        split at z
        · rename_i hl; exact .inr (.inr ⟨xs, ys, e1, e2, .inl ⟨hl, z⟩⟩)
        · rename_i hl; cases z; exact .inr (.inr ⟨xs, ys, e1, e2, .inr ⟨hl, rfl⟩⟩)
      · cases z
theorem eqG_same {pins : List (Addr × Obj)} {σ : St} {s : Shared} (I : Inv X pins σ H s) (hK : G.K = X.K) (rh : RelH G φ h H) : ∀ (n : Nat) {d e : PV} {x : V} {b : Bool}, RepV G φ H d x → RepV G φ H e x → eqG h n d e = some b → b = true
  | 0, d, e, x, b, r1, r2, z => by
    unfold eqG at z
    split at z
    · rename_i f; rw [Bool.and_eq_true] at f; cases z; exact eqP_same r1 r2 f.1 f.2
    · cases z
  | n + 1, d, e, x, b, r1, r2, z => by
    rcases eqG_cases z with ⟨f, rfl⟩ | ⟨xs, ys, c, rfl, rfl, e1, rfl⟩ | ⟨xs, ys, e1, e2, k⟩
    · rw [Bool.and_eq_true] at f; exact eqP_same r1 r2 f.1 f.2
    · cases r1 with
      | tup t1 q1 =>
        cases r2 with
        | tup t2 q2 =>
          have := I.tuple_inj (hK ▸ t1) (hK ▸ t2)
          subst this
          have l1 := q1.length
          have l2 := q2.length
          rw [allO_true (fun a b c => eqG_same I hK rh n a b c) q1 q2 e1, Bool.true_and, beq_iff_eq]; omega
    · obtain ⟨a, vs, rfl, s1, q1⟩ := rep_lst rh r1 e1
      obtain ⟨a', vs', e3, s2, q2⟩ := rep_lst rh r2 e2
      cases e3
      have := I.list_inj (hK ▸ s1) (hK ▸ s2)
      subst this
      have l1 := q1.length
      have l2 := q2.length
      rcases k with ⟨_, k⟩ | ⟨k, _⟩
      · exact allO_true (fun a b c => eqG_same I hK rh n a b c) q1 q2 k
      · omega
theorem eqG_rc {pins : List (Addr × Obj)} {σ : St} {s : Shared} (I : Inv X pins σ H s) (hK : G.K = X.K) (rh : RelH G φ h H) : ∀ (n : Nat) {A : Around} {d e : PV} {x y : V} {v u : Value} {b : Bool}, A.units + n < cLine → RepV G φ H d x → RepV G φ H e y → RelV x v → RelV y u → eqG h n d e = some b →
    SeqAt.EqAt A s v u b ∧ ((flatP d && flatP e) = false → SeqAt.RcAt A s v u b)
  | 0, A, d, e, x, y, v, u, b, hu, r1, r2, v1, v2, z => by
    unfold eqG at z
    split at z
    · rename_i f
      have f' := f
      rw [Bool.and_eq_true] at f; cases z
      have fx := flat_eq r1 f.1
      have fy := flat_eq r2 f.2
      have z := eqAt_V (A := A) (s := s) v1 v2 fx.1 fy.1
      rw [fy.2 r1 f.1] at z
      exact ⟨z, fun k => by rw [f'] at k; cases k⟩
    · cases z
  | n + 1, A, d, e, x, y, v, u, b, hu, r1, r2, v1, v2, z => by
    have both : ∀ {l m : Addr}, v = .ref l → u = .ref m → SeqAt.RcAt A s v u b → SeqAt.EqAt A s v u b ∧ ((flatP d && flatP e) = false → SeqAt.RcAt A s v u b) := fun {l m} e1 e2 k => by
      subst e1; subst e2
      refine ⟨?_, fun _ => k⟩
      by_cases q : l = m
      · subst q
        have e3 : x = .ref l := v1.inj rfl
        have e4 : y = .ref l := v2.inj rfl
        subst e3; subst e4
        rw [eqG_same I hK rh (n + 1) r1 r2 z]
        exact .same _
      · exact .of_refs q k
    have st : A.in1.units + n < cLine := by simp only [Around.in1]; omega
    rcases eqG_cases z with ⟨f, rfl⟩ | ⟨xs, ys, c, rfl, rfl, e1, rfl⟩ | ⟨xs, ys, e1, e2, k⟩
    · have f' := f
      rw [Bool.and_eq_true] at f
      have fx := flat_eq r1 f.1
      have fy := flat_eq r2 f.2
      have z := eqAt_V (A := A) (s := s) v1 v2 fx.1 fy.1
      rw [fy.2 r1 f.1] at z
      exact ⟨z, fun k => by rw [f'] at k; cases k⟩
    · cases r1 with
      | tup t1 q1 =>
        cases r2 with
        | tup t2 q2 =>
          cases v1; cases v2
          obtain ⟨its, w1, p1, _⟩ := I.tuple (hK ▸ t1)
          obtain ⟨jts, w2, p2, _⟩ := I.tuple (hK ▸ t2)
          obtain ⟨g, g1, g2, g3, g4⟩ := zip_run (P := fun _ _ u t b => SeqAt.EqAt A.in1 s u t b) (fun d e x y u t b a1 a2 a3 a4 a5 => (eqG_rc I hK rh n st a1 a2 a3 a4 a5).1) q1 q2 w1 w2 e1
          refine both rfl rfl ?_
          have k := SeqAt.RcAt.tuples (A := A) (e := g) p1 p2 (by omega) (fun j h1 h2 => by
            obtain ⟨_, _, k⟩ := g1 j (by simpa using h1) (by simpa using h2)
            simpa using k)
          have e5 : ((List.range (min its.toArray.size jts.toArray.size)).all g && its.toArray.size == jts.toArray.size) = (c && xs.length == ys.length) := by
            simp only [List.size_toArray]
            rw [g2, g3, g4]
          rw [e5] at k
          exact k
    · obtain ⟨a, vs, rfl, s1, q1⟩ := rep_lst rh r1 e1
      obtain ⟨a', vs', rfl, s2, q2⟩ := rep_lst rh r2 e2
      cases v1; cases v2
      obtain ⟨its, w1, p1, _⟩ := I.list (hK ▸ s1)
      obtain ⟨jts, w2, p2, _⟩ := I.list (hK ▸ s2)
      have l1 := q1.length
      have l2 := q2.length
      have l3 := w1.length
      have l4 := w2.length
      refine both rfl rfl ?_
      rcases k with ⟨k1, k⟩ | ⟨k1, rfl⟩
      · obtain ⟨g, g1, g2, g3, g4⟩ := zip_run (P := fun _ _ u t b => SeqAt.EqAt A.in1 s u t b) (fun d e x y u t b a1 a2 a3 a4 a5 => (eqG_rc I hK rh n st a1 a2 a3 a4 a5).1) q1 q2 w1 w2 k
        have k := SeqAt.RcAt.lists (A := A) (e := g) p1.isList p2.isList (by simp only [List.size_toArray]; omega) (by omega) (fun j h1 h2 => by
            obtain ⟨_, _, k⟩ := g1 j (by simpa using h1) (by simpa using h2)
            simpa using k)
        have e5 : (List.range its.toArray.size).all g = b := by
          simp only [List.size_toArray]
          rw [← g2, show min its.length jts.length = its.length by omega]
        rw [e5] at k
        exact k
      · exact SeqAt.RcAt.lists_lengths (A := A) p1.isList p2.isList (by simp only [List.size_toArray, bne_iff_ne]; omega) (by omega)
theorem op_eqZ (hK : G.K = X.K) (hu : X.A.units + 64 < cLine) : OpR X (compareOp .Eq) (r2 G (cmpF .eq)) := by
  refine cmp_of fun pins s σ H x y v u Q φ h d e b I rx ry rh r1 r2 e1 q => ?_
  have gen : ∀ b, eqG h 40 d e = some b → (flatP d && flatP e) = false → Q (.bl b) H → wpAny (model X.prog X.w) X.A (compareOp .Eq v u) (EP X pins σ Q) X.xe s := fun b z f q =>
    (eqG_rc I hK rh 40 (A := X.A) (by omega) r1 r2 rx ry z).2 f _ _ _ _ ⟨.bl b, H, I, rfl, q⟩
  simp only [cmpB, eqF] at e1
  split at e1
  · rename_i b' e2
    cases e1
    obtain ⟨p, p', d1, d2, s1, s2, rfl⟩ := eq_data rh r1 r2 e2
    exact op_eqD hu pins s σ H x y v u Q I rx ry ⟨p, p', hK ▸ d1, hK ▸ d2, s1, s2, q⟩
  · split at e1
    · split at e1
      · rename_i b' e2
        cases e1
        cases r1 with
        | tup t1 q1 =>
          cases r2 with
          | tup t2 q2 =>
            cases rx; cases ry
            obtain ⟨its, w1, p1, _⟩ := I.tuple (hK ▸ t1)
            obtain ⟨jts, w2, p2, _⟩ := I.tuple (hK ▸ t2)
            obtain ⟨f, g1, g2⟩ := eqTup_run (A := X.A.in1) (s := s) q1 q2 w1 w2 e2
            refine SeqAt.eq_tupleAt (e := f) p1 p2 (by omega) (fun j h1 h2 => ?_) ⟨.bl _, H, I, ?_, q⟩
            · simpa using g1 j (by simpa using h1) (by simpa using h2)
            · show Value.bool _ = Value.bool _
              rw [← g2]; simp
      · exact gen _ e1 rfl q
    · split at e1
      · cases e1
      · rename_i f
        exact gen _ e1 (by simpa using f) q
theorem map_not {o : Option Bool} {b : Bool} (e : o.map (!·) = some b) : o = some !b := by
  cases o with
  | none => cases e
  | some c => cases e; simp
theorem op_neZ (hK : G.K = X.K) (hu : X.A.units + 64 < cLine) : OpR X (compareOp .NotEq) (r2 G (cmpF .ne)) := by
  refine cmp_of fun pins s σ H x y v u Q φ h d e b I rx ry rh r1 r2 e1 q => ?_
  obtain ⟨p, p', d1, d2, s1, s2, e2⟩ := eq_data rh r1 r2 (map_not e1)
  refine op_neD hu pins s σ H x y v u Q I rx ry ⟨p, p', hK ▸ d1, hK ▸ d2, s1, s2, ?_⟩
  rw [← e2]; simpa using q
theorem flat_all {x : V} {d : PV} (r : RepV G φ H d x) (f : flatP d = true) : ∀ {es : List PV} {ys : List V}, RepVs G φ H es ys → es.all flatP = true → ys.all flatV = true ∧ inV x ys = inP d es
  | _, _, .nil, _ => ⟨rfl, rfl⟩
  | _, _, .cons a b, g => by
    rw [List.all_cons, Bool.and_eq_true] at g
    obtain ⟨i1, i2⟩ := flat_all r f b g.2
    refine ⟨by rw [List.all_cons, (flat_eq a g.1).1, i1]; rfl, ?_⟩
    show (eqV _ x || inV x _) = (eqP _ d || inP d _)
    rw [i2, (flat_eq r f).2 a g.1]
theorem in_data (rh : RelH G φ h H) {x y : V} {d e : PV} {b : Bool} (r1 : RepV G φ H d x) (r2 : RepV G φ H e y) (e1 : inF h d e = some b) : ∃ p xs, y = V.ref p ∧ (SqL G.K H p xs ∨ SqT G.K H p xs) ∧ flatV x = true ∧ xs.all flatV = true ∧ inV x xs = b := by
  unfold inF at e1
  split at e1
  · rename_i ds h1
    split at e1
    · rename_i hz
      cases e1
      obtain ⟨p, vs, rfl, sq, rv⟩ := rep_seq rh r2 h1
      obtain ⟨i1, i2⟩ := flat_all r1 hz.1 rv hz.2
      exact ⟨p, vs, rfl, sq, (flat_eq r1 hz.1).1, i1, i2⟩
    · cases e1
  · cases e1
theorem op_inZ (hK : G.K = X.K) : OpR X (compareOp .In) (r2 G (cmpF .isin)) := by
  refine cmp_of fun pins s σ H x y v u Q φ h d e b I rx ry rh r1 r2 e1 q => ?_
  obtain ⟨p, xs, rfl, sq, f1, f2, e2⟩ := in_data rh r1 r2 e1
  refine op_in_seq pins s σ H x _ v u Q I rx ry ⟨p, xs, rfl, hK ▸ sq, f1, f2, ?_⟩
  rw [e2]; exact q
theorem op_notinZ (hK : G.K = X.K) : OpR X (compareOp .NotIn) (r2 G (cmpF .notin)) := by
  refine cmp_of fun pins s σ H x y v u Q φ h d e b I rx ry rh r1 r2 e1 q => ?_
  obtain ⟨p, xs, rfl, sq, f1, f2, e2⟩ := in_data rh r1 r2 (map_not e1)
  refine op_notIn_seq pins s σ H x _ v u Q I rx ry ⟨p, xs, rfl, hK ▸ sq, f1, f2, ?_⟩
  rw [e2]; simpa using q
theorem is_data {x y : V} {d e : PV} {b : Bool} (r1 : RepV G φ H d x) (r2 : RepV G φ H e y) (e1 : isF d e = some b) : (∃ a c, x = .bl a ∧ y = .bl c ∧ b = decide (a = c)) ∨ (y = .non ∧ b = decide (x = .non)) := by
  unfold isF at e1
  split at e1
  · cases e1; cases r1; cases r2; exact .inl ⟨_, _, rfl, rfl, rfl⟩
  · cases e1; cases r1; cases r2; exact .inr ⟨rfl, rfl⟩
  · cases e1; cases r2; refine .inr ⟨rfl, ?_⟩
    cases r1 <;> first | rfl | (rename_i n _; exact absurd rfl (n rfl)) | (exfalso; simp_all)
  · cases e1
theorem op_isZ : OpR X (compareOp .Is) (r2 G (cmpF .is)) := by
  refine cmp_of fun pins s σ H x y v u Q φ h d e b I rx ry rh r1 r2 e1 q => ?_
  rcases is_data r1 r2 e1 with ⟨a, c, rfl, rfl, rfl⟩ | ⟨rfl, rfl⟩
  · exact op_is_bl pins s σ H _ _ v u Q I rx ry ⟨a, c, rfl, rfl, q⟩
  · exact op_isN pins s σ H _ _ v u Q I rx ry ⟨rfl, q⟩
theorem op_isnotZ : OpR X (compareOp .IsNot) (r2 G (cmpF .isnot)) := by
  refine cmp_of fun pins s σ H x y v u Q φ h d e b I rx ry rh r1 r2 e1 q => ?_
  rcases is_data r1 r2 (map_not e1) with ⟨a, c, rfl, rfl, e⟩ | ⟨rfl, e⟩
  · refine op_isnot_bl pins s σ H _ _ v u Q I rx ry ⟨a, c, rfl, rfl, ?_⟩
    rw [← e]; simpa using q
  · refine op_notN pins s σ H _ _ v u Q I rx ry ⟨rfl, ?_⟩
    rw [← e]; simpa using q
theorem op_ltZ : OpR X (compareOp .Lt) (r2 G (cmpF .lt)) := by
  refine cmp_of fun pins s σ H x y v u Q φ h d e b I rx ry rh r1 r2 e1 q => ?_
  simp only [cmpB] at e1
  unfold ordF at e1
  split at e1 <;> first | (exfalso; simp_all; done) | skip
  · cases e1; cases r1; cases r2; exact op_lt pins s σ H _ _ v u Q I rx ry ⟨_, _, rfl, rfl, q⟩
  · cases e1; cases r1; cases r2; exact op_lt_str pins s σ H _ _ v u Q I rx ry ⟨_, _, rfl, rfl, q⟩
theorem op_leZ : OpR X (compareOp .LtE) (r2 G (cmpF .le)) := by
  refine cmp_of fun pins s σ H x y v u Q φ h d e b I rx ry rh r1 r2 e1 q => ?_
  simp only [cmpB] at e1
  unfold ordF at e1
  split at e1 <;> first | (exfalso; simp_all; done) | skip
  · cases e1; cases r1; cases r2; exact op_le pins s σ H _ _ v u Q I rx ry ⟨_, _, rfl, rfl, q⟩
  · cases e1; cases r1; cases r2; exact op_le_str pins s σ H _ _ v u Q I rx ry ⟨_, _, rfl, rfl, q⟩
theorem op_gtZ : OpR X (compareOp .Gt) (r2 G (cmpF .gt)) := by
  refine cmp_of fun pins s σ H x y v u Q φ h d e b I rx ry rh r1 r2 e1 q => ?_
  simp only [cmpB] at e1
  unfold ordF at e1
  split at e1 <;> first | (exfalso; simp_all; done) | skip
  · cases e1; cases r1; cases r2; exact op_gt pins s σ H _ _ v u Q I rx ry ⟨_, _, rfl, rfl, q⟩
theorem op_geZ : OpR X (compareOp .GtE) (r2 G (cmpF .ge)) := by
  refine cmp_of fun pins s σ H x y v u Q φ h d e b I rx ry rh r1 r2 e1 q => ?_
  simp only [cmpB] at e1
  unfold ordF at e1
  split at e1 <;> first | (exfalso; simp_all; done) | skip
  · cases e1; cases r1; cases r2; exact op_ge pins s σ H _ _ v u Q I rx ry ⟨_, _, rfl, rfl, q⟩
end
end Zed
end
section
set_option Elab.async false
set_option linter.all false
set_option maxRecDepth 100000
namespace Zed
open PySem L2
section
variable {X : Cx} {G : Gc} {φ φ' : List Addr} {h h' : PHeap} {H H' : Hp} {a p : Addr} {d : PV} {v : V} {pins : List (Addr × Obj)} {s : Shared} {σ : St} {kvs : List (PV × PV)}
/-! ### keys -/
theorem nkOfs_cons {d : PV} {ds : List PV} {ks : List NestedKey} (e : nkOfs (d :: ds) = some ks) : ∃ k r, nkOf d = some k ∧ nkOfs ds = some r ∧ ks = k :: r := by
  simp only [nkOfs] at e
  split at e
  · rename_i k r h1 h2; cases e; exact ⟨k, r, h1, h2, rfl⟩
  · cases e
mutual
theorem nk_is (hK : G.K = X.K) (I : Inv X pins σ H s) : ∀ (d : PV) {v : V} {u : Value} {k : NestedKey}, RepV G φ H d v → RelV v u → nkOf d = some k → NestedIs s.heap k u
  | .non, _, _, _, q, r, e => by cases q; simp only [nkOf] at e; cases e; cases r; exact .none
  | .bl b, _, _, _, q, r, e => by cases q; simp only [nkOf] at e; cases e; cases r; exact .bool rfl
  | .int i, _, _, _, q, r, e => by cases q; simp only [nkOf] at e; cases e; obtain ⟨t, rfl⟩ := r; exact .int _ _
  | .str x, _, _, _, q, r, e => by cases q; simp only [nkOf] at e; cases e; obtain ⟨t, rfl⟩ := r; exact .text _ _
  | .ty n, _, _, _, _, r, e => by simp only [nkOf] at e; cases e
  | .fz _, _, _, _, _, r, e => by simp only [nkOf] at e; cases e
  | .ref _, _, _, _, _, r, e => by simp only [nkOf] at e; cases e
  | .gl _, _, _, _, _, r, e => by simp only [nkOf] at e; cases e
  | .scr _, _, _, _, _, r, e => by simp only [nkOf] at e; cases e
  | .tup ds, _, _, _, q, r, e => by
    cases q with
    | tup sq q =>
      simp only [nkOf] at e
      cases e1 : nkOfs ds with
      | none => rw [e1] at e; cases e
      | some ks =>
        rw [e1] at e
        cases e
        cases r
        obtain ⟨its, r1, ⟨o, h1, h2, n, h3⟩, _⟩ := Inv.tuple I (hK ▸ sq)
        exact .tup h1 h2 h3 (by simpa using nks_is hK I ds q r1 e1)
theorem nks_is (hK : G.K = X.K) (I : Inv X pins σ H s) : ∀ (ds : List PV) {vs : List V} {us : List Value} {ks : List NestedKey}, RepVs G φ H ds vs → Vals vs us → nkOfs ds = some ks → NestedAll s.heap ks us
  | [], _, _, _, q, r, e => by cases q; simp only [nkOfs] at e; cases e; cases r; exact .nil
  | d :: ds, _, _, _, q, r, e => by
    cases q with
    | cons a b =>
      obtain ⟨k, ks, e1, e2, rfl⟩ := nkOfs_cons e
      cases r with
      | cons r1 r2 => exact .cons (nk_is hK I d a r1 e1) (nks_is hK I ds b r2 e2)
end
theorem nk_flat {d : PV} {k : Key} (e : keyOf d = some k) : nkOf d = some (match k with | .inl i => .num i | .inr x => .text x) := by
  cases d <;> simp only [keyOf] at e <;> first | (cases e; done) | (cases e; rfl)
theorem same_flat {p d : PV} {k q : Key} {nk : NestedKey} (e1 : keyOf p = some q) (e2 : keyOf d = some k) (e3 : nkOf d = some nk) : sameK p nk = decide (q = k) := by
  have n1 := nk_flat e1
  have n2 := nk_flat e2
  rw [e3] at n2
  cases n2
  unfold sameK
  rw [n1]
  cases q <;> cases k <;> simp [NestedKey.beq]
theorem find_flat {k : Key} {nk : NestedKey} {d : PV} (e2 : keyOf d = some k) (e3 : nkOf d = some nk) : ∀ {kvs : List (PV × PV)} {ks : List (Key × V)}, Paired (RepK G φ H) kvs ks → (∀ z, dFind kvs nk = some z → ∃ w, valV ks k = some w ∧ RepV G φ H z w) ∧ (dFind kvs nk = none → valV ks k = none)
  | _, _, .nil => ⟨(fun z h => by simp [dFind] at h), (fun _ => rfl)⟩
  | _, _, .cons (a := p) (b := q) r t => by
    have ih := find_flat (k := k) (nk := nk) e2 e3 t
    have sm := same_flat r.1 e2 e3
    unfold dFind valV at *
    rw [List.find?_cons, List.find?_cons]
    by_cases z : q.1 = k
    · have s1 : sameK p.1 nk = true := by rw [sm]; exact decide_eq_true z
      rw [s1]
      simp only [z, decide_true]
      exact ⟨fun w hw => by cases hw; exact ⟨_, rfl, r.2⟩, fun hw => by cases hw⟩
    · have s1 : sameK p.1 nk = false := by rw [sm]; exact decide_eq_false z
      rw [s1]
      simp only [z, decide_false]
      exact ih
theorem any_find {ks : List (Key × V)} {k : Key} : (ks.any fun kv => decide (kv.1 = k)) = (valV ks k).isSome := by
  unfold valV
  induction ks with
  | nil => rfl
  | cons q t ih =>
    rw [List.any_cons, List.find?_cons]
    by_cases z : q.1 = k
    · simp [z]
    · simp only [z, decide_false, Bool.false_or]
      exact ih
theorem store_flat {k : Key} {nk : NestedKey} {d z : PV} {w : V} (e2 : keyOf d = some k) (e3 : nkOf d = some nk) (rz : RepV G φ H z w) {kvs : List (PV × PV)} {ks : List (Key × V)} (r : Paired (RepK G φ H) kvs ks) : Paired (RepK G φ H) (dStore kvs nk d z) (putK ks k w) := by
  have f := find_flat e2 e3 r
  unfold dStore putK
  rw [any_find]
  cases e : dFind kvs nk with
  | none =>
    rw [f.2 e]
    exact Paired.snoc r ⟨e2, rz⟩
  | some z' =>
    obtain ⟨w', e4, _⟩ := f.1 z' e
    rw [e4]
    simp only [Option.isSome_some, if_true]
    clear f e e4
    induction r with
    | nil => exact .nil
    | cons h t ih =>
      refine .cons ?_ ih
      rename_i p0 q0 _ _
      have sm := same_flat h.1 e2 e3
      show RepK G φ H (if sameK p0.1 nk = true then (p0.1, z) else p0) (if q0.1 = k then (q0.1, w) else q0)
      rw [sm]
      by_cases c : q0.1 = k
      · rw [if_pos (decide_eq_true c), if_pos c]; exact ⟨h.1, rz⟩
      · rw [if_neg (by rw [decide_eq_false c]; exact Bool.false_ne_true), if_neg c]; exact h
theorem same_tup {p d : PV} {q nk : NestedKey} (e1 : nkOf p = some q) : sameK p nk = decide (q = nk) := by
  unfold sameK
  rw [e1, NestedKey.decide_eq]
theorem find_tup {nk : NestedKey} : ∀ {kvs : List (PV × PV)} {xs : List (NestedKey × Addr × Value)}, Paired (RepE G φ H) kvs xs → (∀ z, dFind kvs nk = some z → ∃ p w, atKey xs nk = some p ∧ RelV w p.2 ∧ RepV G φ H z w) ∧ (dFind kvs nk = none → atKey xs nk = none)
  | _, _, .nil => ⟨(fun z h => by simp [dFind] at h), (fun _ => rfl)⟩
  | _, _, .cons (a := p) (b := q) r t => by
    have ih := find_tup (nk := nk) t
    have sm := same_tup (d := p.1) (nk := nk) r.1
    unfold dFind atKey at *
    rw [List.find?_cons, List.find?_cons]
    by_cases z : q.1 = nk
    · have s1 : sameK p.1 nk = true := by rw [sm]; exact decide_eq_true z
      rw [s1]
      simp only [z, decide_true]
      obtain ⟨w, r1, r2⟩ := r.2.2.2
      exact ⟨fun z' hw => by cases hw; exact ⟨_, w, rfl, r1, r2⟩, fun hw => by cases hw⟩
    · have s1 : sameK p.1 nk = false := by rw [sm]; exact decide_eq_false z
      rw [s1]
      simp only [z, decide_false]
      exact ih
theorem store_tup {nk : NestedKey} {d z : PV} {w : V} {b : Addr} {u : Value} (e3 : nkOf d = some nk) (hd : nk.depth ≤ 8) (rd : RepV G φ H d (.ref b)) (rw' : RelV w u) (rz : RepV G φ H z w) {kvs : List (PV × PV)} {xs : List (NestedKey × Addr × Value)} (r : Paired (RepE G φ H) kvs xs) :
    Paired (RepE G φ H) (dStore kvs nk d z) (storedH xs nk b u) := by
  have f := find_tup (nk := nk) r
  unfold dStore storedH
  cases e : dFind kvs nk with
  | none =>
    rw [f.2 e]
    exact Paired.snoc r ⟨e3, hd, rd, w, rw', rz⟩
  | some z' =>
    obtain ⟨p, w', e4, _⟩ := f.1 z' e
    rw [e4]
    simp only [Option.isSome_some, if_true]
    clear f e e4
    induction r with
    | nil => exact .nil
    | cons h t ih =>
      refine .cons ?_ ih
      rename_i p0 q0 _ _
      have sm := same_tup (d := p0.1) (nk := nk) h.1
      show RepE G φ H (if sameK p0.1 nk = true then (p0.1, z) else p0) (if q0.1 = nk then (q0.1, q0.2.1, u) else q0)
      rw [sm]
      by_cases c : q0.1 = nk
      · rw [if_pos (decide_eq_true c), if_pos c]; exact ⟨h.1, h.2.1, h.2.2.1, w, rw', rz⟩
      · rw [if_neg (by rw [decide_eq_false c]; exact Bool.false_ne_true), if_neg c]; exact h
/-- the dict in the model's heap -/
theorem dict_at (hK : G.K = X.K) (hP : G.P = X.prog) (hw : G.w = X.w) (I : Inv X pins σ H s) {xs : List (NestedKey × Addr × Value)} (e : Rd H a (NdO G.P G.w a xs)) (nd : (xs.map (·.1)).Nodup) (r : Paired (RepE G φ H) kvs xs) : s.heap.DictOfH (nestedKind X.prog X.w) a xs := by
  have ok := e.ok I.hok
  obtain ⟨⟨o, es, ep, h1, h2, h3, h4⟩, _, _⟩ := ok
  rw [hP, hw] at h4
  refine ⟨o, es, ep, h1, h2, h3, h4, fun x hx => ?_, nd⟩
  have all : ∀ {l : List (PV × PV)} {m : List (NestedKey × Addr × Value)}, Paired (RepE G φ H) l m → ∀ x ∈ m, (nestedKind X.prog X.w).is s.heap x.1 x.2.1 := by
    intro l m q
    induction q with
    | nil => intro x hx; exact nomatch hx
    | cons hq t ih =>
      intro x hx
      rcases List.mem_cons.mp hx with e | hx
      · subst e
        exact ⟨nk_is hK I _ hq.2.2.1 rfl hq.1, hq.2.1⟩
      · exact ih x hx
  exact all r x hx
theorem tup_ref {d : PV} (h : isTupP d = true) (r : RepV G φ H d v) : ∃ b, v = .ref b := by
  cases r <;> first | (cases h; done) | exact ⟨_, rfl⟩
theorem flat_not_tup {k : PV} (h1 : isTupP k = true) : keyOf k = none := by cases k <;> first | rfl | cases h1
theorem not_flat_ref {k : PV} {b : Addr} {kk : Key} (r : RepV G φ H k (.ref b)) (e : keyOf k = some kk) : False := by
  cases r <;> simp [keyOf] at e
/-- a dict that can be read -/
def RdD (G : Gc) (φ : List Addr) (H : Hp) (a : Addr) (kvs : List (PV × PV)) : Prop := kvs.length ≤ sizeLine ∧ ((∃ ks, Rd H a (.dK ks) ∧ Paired (RepK G φ H) kvs ks) ∨
      ∃ xs, kvs ≠ [] ∧ Rd H a (NdO G.P G.w a xs) ∧ (a == sysModules) = false ∧ (xs.map (·.1)).Nodup ∧ Paired (RepE G φ H) kvs xs)
theorem RdD.of (r : RepO G φ H a (.dic kvs)) : RdD G φ H a kvs := by
  obtain ⟨z, ⟨ks, e, q⟩ | ⟨xs, ne, e, q⟩⟩ := r
  · exact ⟨z, .inl ⟨ks, .inl e, q⟩⟩
  · exact ⟨z, .inr ⟨xs, ne, .inl e, q⟩⟩
theorem rep_dic (r : RelH G φ h H) (rv : RepV G φ H d v) (e : objOf h d = some (.dic kvs)) : ∃ a, v = .ref a ∧ RdD G φ H a kvs := by
  cases rv with
  | fdK z e1 q => simp only [objOf] at e; cases e; exact ⟨_, rfl, z, .inl ⟨_, .inr ⟨_, e1⟩, q.pd⟩⟩
  | fdN z ne e1 m nd q => simp only [objOf] at e; cases e; exact ⟨_, rfl, z, .inr ⟨_, ne, .inr ⟨_, e1⟩, m, nd, q.pd⟩⟩
  | ref hi => exact ⟨_, rfl, .of (r.obj _ _ _ e hi)⟩
  | _ => simp only [objOf] at e; cases e
/-- d[k], there -/
theorem dic_get (hK : G.K = X.K) (hP : G.P = X.prog) (hw : G.w = X.w) (hu : X.A.units + 64 < cLine) (I : Inv X pins σ H s) (ro : RdD G φ H a kvs) {k z : PV} {y : V} {u : Value} (rk : RepV G φ H k y) (ry : RelV y u) (e : dGetF kvs k = some z)
    {Q : VK} (q : ∀ w, RepV G φ H z w → Q w H) : s.TypeIs (.ref a) "dict" ∧ wpAny (model X.prog X.w) X.A (getItem (.ref a) u) (EP X pins σ Q) X.xe s := by
  unfold dGetF at e
  split at e
  · rename_i nk e3
    split at e
    · rename_i fit
      unfold fitsK at fit
      rw [Bool.or_eq_true] at fit
      obtain ⟨_, ⟨ks, e1, r⟩ | ⟨xs, ne, e1, sm, nd, r⟩⟩ := ro
      · -- numbers, texts
        have kf : ∃ kk, keyOf k = some kk := by
          rcases fit with f | f
          · rw [Bool.and_eq_true] at f
            exact Option.isSome_iff_exists.mp f.1
          · exfalso
            rw [Bool.and_eq_true, Bool.and_eq_true] at f
            cases r with
            | nil => cases e
            | cons h t =>
              have f2 := f.2
              rw [List.all_cons, Bool.and_eq_true] at f2
              have := flat_not_tup f2.1
              rw [h.1] at this; cases this
        obtain ⟨kk, ek⟩ := kf
        obtain ⟨w, e4, rw'⟩ := (find_flat ek e3 r).1 z e
        have yk : y = kV kk := by
          cases rk <;> simp only [keyOf] at ek <;> first | (cases ek; done) | (cases ek; rfl)
        subst yk
        have g : DGet H a (kV kk) (some w) := by rw [← e4]; exact .inl ⟨ks, kk, e1, rfl, rfl⟩
        exact ⟨dict_typeIs I g, d_getItem (by omega) I g ry fun w' s' I' rv => ⟨w, H, I', rv, q w rw'⟩⟩
      · have kt : isTupP k = true ∧ nk.depth ≤ 8 := by
          rcases fit with f | f
          · exfalso
            rw [Bool.and_eq_true] at f
            cases r with
            | nil => exact ne rfl
            | cons h t =>
              have f2 := f.2
              rw [List.all_cons, Bool.and_eq_true] at f2
              obtain ⟨kk, ek⟩ := Option.isSome_iff_exists.mp f2.1
              have h2 := h.2.2.1
              exact not_flat_ref h2 ek
          · rw [Bool.and_eq_true, Bool.and_eq_true] at f
            exact ⟨f.1.1, of_decide_eq_true f.1.2⟩
        obtain ⟨b, rfl⟩ := tup_ref kt.1 rk
        cases ry
        have dd := dict_at hK hP hw I e1 nd r
        obtain ⟨p, w, e4, r1, r2⟩ := (find_tup r).1 z e
        refine ⟨dd.typeIs, wpAny_getItem_heap (knd := nestedKind X.prog X.w) (by show X.A.in1.units + 8 < cLine; show X.A.units + 1 + 8 < cLine; omega) ⟨nk_is hK I _ rk rfl e3, kt.2⟩ dd e4 ⟨w, H, I.tok _, r1, q w r2⟩⟩
    · cases e
  · cases e
theorem dStore_len {nk : NestedKey} {k z : PV} : (dStore kvs nk k z).length ≤ kvs.length + 1 := by
  unfold dStore
  split
  · rw [List.length_map]; omega
  · rw [List.length_append]; simp
theorem dStore_ne {nk : NestedKey} {k z : PV} : dStore kvs nk k z ≠ [] := by
  unfold dStore
  split
  · rename_i h
    intro e
    cases kvs with
    | nil => simp [dFind] at h
    | cons p r => simp at e
  · intro e; simp at e
/-- d[k] = v -/
theorem dic_put (hK : G.K = X.K) (hP : G.P = X.prog) (hw : G.w = X.w) (hu : X.A.units + 64 < cLine) (I : Inv X pins σ H s) (rh : RelH G φ h H) {i : Nat} (hi : φ[i]? = some a) (hd0 : h[i]? = some (.dic kvs)) {k z : PV} {y w : V} {u r : Value} (rk : RepV G φ H k y) (ry : RelV y u) (rz : RepV G φ H z w) (rw' : RelV w r)
    {kvs' : List (PV × PV)} (e : dPutF kvs k z = some kvs') {Q : Hp → Prop} (q : ∀ φ' H', Ext φ H φ' H' → RelH G φ' (h.set i (.dic kvs')) H' → Q H') :
    wpAny (model X.prog X.w) X.A (setItem (.ref a) u r) (fun _ s' => ∃ H', Inv X pins σ H' s' ∧ Q H') X.xe s := by
  have ro := rh.obj i _ a hd0 hi
  unfold dPutF at e
  split at e
  · rename_i nk e3
    split at e
    · rename_i fit
      cases e
      rw [Bool.and_eq_true] at fit
      have hlen : kvs.length < sizeLine := of_decide_eq_true fit.2
      have fit := fit.1
      unfold fitsK at fit
      rw [Bool.or_eq_true] at fit
      -- a dict of tuples, from the dict as it lies
      have tupW : ∀ {xs : List (NestedKey × Addr × Value)}, isTupP k = true → nk.depth ≤ 8 → Mut (H a) → (a == sysModules) = false → s.heap.DictOfH (nestedKind X.prog X.w) a xs → Paired (RepE G φ H) kvs xs →
          wpAny (model X.prog X.w) X.A (setItem (.ref a) u r) (fun _ s' => ∃ H', Inv X pins σ H' s' ∧ Q H') X.xe s := by
        intro xs kt kd mu sm dd pr
        obtain ⟨b, rfl⟩ := tup_ref kt rk
        cases ry
        have hz : xs.length ≤ sizeLine := by rw [← Paired.length pr]; omega
        refine wpAny_setItem_heap (knd := nestedKind X.prog X.w) (hsz := hz) (by show X.A.units + 1 + 8 < cLine; omega) ⟨nk_is hK I _ rk rfl e3, kd⟩ dd fun h' dd' hs => ?_
        obtain ⟨o, es, ep, h1, h2, h3, h4, _, h5⟩ := dd'
        have new : ObjOk X.prog X.w (upd H a (NdO G.P G.w a (storedH xs nk b r))) h' a (NdO G.P G.w a (storedH xs nk b r)) := by
          refine ⟨⟨o, es, ep, h1, h2, h3, by rw [hP, hw]; exact h4⟩, ⟨o, h1⟩, fun g1 g2 ⟨o', es', ep', k1, k2, k3, k4⟩ kk => ⟨o', es', ep', kk o' k1, k2, k3, k4⟩⟩
        refine ⟨_, d_write I mu hs ⟨o, h1⟩ new, q φ _ (ext_put hi) (rh.put hi ⟨by have := dStore_len (kvs := kvs) (nk := nk) (k := k) (z := z); omega, .inr ⟨_, dStore_ne, upd_same, sm, h5, ?_⟩⟩)⟩
        exact paired_map (store_tup e3 kd rk rw' rz pr) fun p x hh => ⟨hh.1, hh.2.1, repV_ext rh (ext_put hi) hh.2.2.1, let ⟨v, r1, r2⟩ := hh.2.2.2; ⟨v, r1, repV_ext rh (ext_put hi) r2⟩⟩
      obtain ⟨_, ⟨ks, e1, pr⟩ | ⟨xs, ne, e1, sm, nd, pr⟩⟩ := ro
      · obtain ⟨hz, hsm, vs, kv, dd⟩ := dk_of I.hok e1
        by_cases kt : isTupP k = true
        · have kd : nk.depth ≤ 8 ∧ kvs = [] := by
            rcases fit with f | f
            · rw [Bool.and_eq_true] at f
              have := flat_not_tup kt
              rw [this] at f; exact absurd f.1 (by simp)
            · rw [Bool.and_eq_true, Bool.and_eq_true] at f
              refine ⟨of_decide_eq_true f.1.2, ?_⟩
              cases pr with
              | nil => rfl
              | cons hh t =>
                have f2 := f.2
                rw [List.all_cons, Bool.and_eq_true] at f2
                have := flat_not_tup f2.1
                rw [hh.1] at this; cases this
          obtain ⟨kd, rfl⟩ := kd
          cases pr
          cases kv
          obtain ⟨o, es, ep, h1, h2, h3, h4, h5, h6⟩ := dd
          have he : es.toList = [] := by
            cases hq : es.toList with
            | nil => rfl
            | cons x r => rw [hq] at h5; cases h5
          refine tupW (xs := []) kt kd (by rw [e1]; exact True.intro) hsm ⟨o, es, ep, h1, h2, h3, he, (fun x hx => nomatch hx), List.nodup_nil⟩ .nil
        · have kf : ∃ kk, keyOf k = some kk := by
            rcases fit with f | f
            · rw [Bool.and_eq_true] at f
              exact Option.isSome_iff_exists.mp f.1
            · rw [Bool.and_eq_true, Bool.and_eq_true] at f
              exact absurd f.1.1 kt
          obtain ⟨kk, ek⟩ := kf
          have yk : y = kV kk := by
            cases rk <;> simp only [keyOf] at ek <;> first | (cases ek; done) | (cases ek; rfl)
          subst yk
          have hl : ks.length < sizeLine := by rw [← Paired.length pr]; exact hlen
          refine d_setItem (by omega) I (DPut.k e1 hl) ry rw' fun s' I' => ⟨_, I', q φ _ (ext_put hi) (rh.put hi ⟨by have := dStore_len (kvs := kvs) (nk := nk) (k := k) (z := z); omega, .inl ⟨_, upd_same, ?_⟩⟩)⟩
          exact paired_map (store_flat ek e3 rz pr) fun p x hh => ⟨hh.1, repV_ext rh (ext_put hi) hh.2⟩
      · have kt : isTupP k = true ∧ nk.depth ≤ 8 := by
          rcases fit with f | f
          · exfalso
            rw [Bool.and_eq_true] at f
            cases pr with
            | nil => exact ne rfl
            | cons hh t =>
              have f2 := f.2
              rw [List.all_cons, Bool.and_eq_true] at f2
              obtain ⟨kk, ek⟩ := Option.isSome_iff_exists.mp f2.1
              exact not_flat_ref hh.2.2.1 ek
          · rw [Bool.and_eq_true, Bool.and_eq_true] at f
            exact ⟨f.1.1, of_decide_eq_true f.1.2⟩
        exact tupW kt.1 kt.2 (by rw [e1]; exact True.intro) sm (dict_at hK hP hw I (.inl e1) nd pr) pr
    · cases e
  · cases e
theorem new_fd {Q : VK} (r : RelH G φ h H) (q : ∀ φ' H' v, Ext φ H φ' H' → RelH G φ' h H' → RepV G φ' H' (.fz (.dic [])) v → Q v H') :
    ∀ p, H p = none → ∀ od, Q (.ref p) (upd (upd H p (.dK [])) p (.frz od (.dK []))) := fun p hp od => new_fz r (.fdK (Nat.zero_le _) upd_same .nil) hp q
theorem new_dic {Q : VK} (r : RelH G φ h H) (q : ∀ φ' H' v, Ext φ H φ' H' → RelH G φ' (h ++ [PObj.dic []]) H' → RepV G φ' H' (.ref h.length) v → Q v H') :
    ∀ p, H p = none → Q (.ref p) (upd H p (.dK [])) := fun p hp => by
  have x := ext_alloc (u := HO.dK []) r hp
  refine q (φ ++ [p]) _ _ x (r.alloc hp ⟨Nat.zero_le _, .inl ⟨[], upd_same, .nil⟩⟩) (.ref ?_)
  rw [← r.len, List.getElem?_append_right (Nat.le_refl _)]; simp
end
end Zed
end
section
set_option Elab.async false
set_option linter.all false
set_option maxRecDepth 100000
namespace Zed
open PySem L2
section
variable {X : Cx} {G : Gc} {φ φ' : List Addr} {h h' : PHeap} {H H' : Hp} {a p : Addr} {d : PV} {v : V} {ds : List PV} {vs : List V} {l : Loc} {σ : St} {o : PObj} {u : HO} {i : Nat}
theorem RepVs.atI {i : Int} (q : RepVs G φ H ds vs) (e : L2.atI ds i = some d) : ∃ v, L2.atI vs i = some v ∧ RepV G φ H d v := by
  unfold L2.atI at e ⊢
  rw [← q.length]
  cases z : ixN ds.length i with
  | none => rw [z] at e; cases e
  | some j => rw [z] at e; exact q.get e
theorem ix_subZ (hK : G.K = X.K) (hP : G.P = X.prog) (hw : G.w = X.w) (hu : X.A.units + 64 < cLine) : IxR X (r2 G subF) := by
  intro value slice pins s σ H x y v u Q I rx ry q hs
  obtain ⟨φ, h, ds, z, h', rh, rv, e, q⟩ := q
  cases rv with
  | cons r1 rv =>
    cases rv with
    | cons r2 rv =>
      cases rv
      simp only [subF] at e
      cases z0 : getF _ _ h with
      | none => rw [z0] at e; cases e
      | some c0 =>
        rw [z0] at e
        obtain ⟨rfl, rfl⟩ := some2 e
        unfold getF at z0
        split at z0
        · rename_i x
          split at z0
          · rename_i i
            split at z0
            · rename_i hz
              cases z1 : L2.atI x.cps.toList i with
              | none => rw [z1] at z0; cases z0
              | some c =>
                rw [z1] at z0
                cases z0
                cases r1; cases r2
                exact ix_str value slice pins s σ H _ _ v u Q I rx ry ⟨_, _, c, rfl, rfl, hz, z1, q φ H _ .refl rh (.str _)⟩ hs
            · cases z0
          · cases z0
        · split at z0
          · cases r1 with
            | tup s1 q1 =>
              cases r2
              obtain ⟨w, e2, rw⟩ := q1.atI z0
              exact ix_tup value slice pins s σ H _ _ v u Q I rx ry ⟨_, _, _, w, rfl, rfl, hK ▸ s1, e2, q φ H _ .refl rh rw⟩ hs
          · cases z0
        · split at z0
          · cases r1 with
            | scr s1 =>
              cases r2
              obtain ⟨w, e2, rw⟩ := (ints_repVs (G := G) (φ := φ) (H := H) _).atI z0
              exact ix_list value slice pins s σ H _ _ v u Q I rx ry ⟨_, _, _, w, rfl, rfl, hK ▸ s1.sq, e2, q φ H _ .refl rh rw⟩ hs
          · cases z0
        · split at z0
          · rename_i kvs hx
            obtain ⟨a, rfl, rd⟩ := rep_dic rh r1 hx
            cases rx
            obtain ⟨ty, wp⟩ := dic_get hK hP hw hu I rd r2 ry z0 (Q := Q) fun w rw => q φ H w .refl rh rw
            exact PyProof.Rows.tail_any ty PySem.F.slot_dict_getitem.lookup wp hs
          · rename_i es hx
            split at z0
            · obtain ⟨a, vs, rfl, sq, q1⟩ := rep_lst rh r1 (by unfold lstOf; rw [hx])
              cases r2
              obtain ⟨w, e2, rw⟩ := q1.atI z0
              exact ix_list value slice pins s σ H _ _ v u Q I rx ry ⟨_, _, _, w, rfl, rfl, hK ▸ sq, e2, q φ H _ .refl rh rw⟩ hs
            · cases z0
          · cases z0
/-- slices -/
theorem RepVs.take : ∀ {ds : List PV} {vs : List V} (n : Nat), RepVs G φ H ds vs → RepVs G φ H (ds.take n) (vs.take n)
  | _, _, 0, _ => .nil
  | _, _, _ + 1, .nil => .nil
  | _, _, n + 1, .cons a b => .cons a (RepVs.take n b)
theorem RepVs.drop : ∀ {ds : List PV} {vs : List V} (n : Nat), RepVs G φ H ds vs → RepVs G φ H (ds.drop n) (vs.drop n)
  | _, _, 0, q => q
  | _, _, _ + 1, .nil => .nil
  | _, _, n + 1, .cons a b => RepVs.drop n b
theorem RepVs.cut (q : RepVs G φ H ds vs) (lo hi : Option Int) : RepVs G φ H (cutP ds lo hi) (cutV vs lo hi) := by
  unfold cutP cutV
  rw [q.length]
  exact RepVs.take _ (RepVs.drop _ q)
def rSlZ (G : Gc) : V → Option Int → Option Int → Hp → VK → Prop := fun x lo hi H Q =>
  ∃ φ h d z h', RelH G φ h H ∧ RepV G φ H d x ∧ slcF d lo hi h = some (z, h') ∧ ∀ φ' H' v, Ext φ H φ' H' → RelH G φ' h' H' → RepV G φ' H' z v → Q v H'
theorem sl_Z (hK : G.K = X.K) : SlR X (rSlZ G) := by
  intro pins s σ H x v vl vu lo hi sl Q I rx hs pl pu q
  obtain ⟨φ, h, d, z, h', rh, rv, e, q⟩ := q
  unfold slcF at e
  split at e
  · split at e
    · rename_i hz
      obtain ⟨rfl, rfl⟩ := some2 e
      cases rv with
      | tup s1 q1 =>
        rw [q1.length] at hz
        exact sl_tupA pins s σ H _ v vl vu lo hi sl Q I rx hs pl pu ⟨_, _, rfl, hK ▸ s1, fun _ => q φ H _ .refl rh (.tup s1 q1), fun nz => absurd hz nz⟩
    · rename_i hz
      obtain ⟨rfl, rfl⟩ := some2 e
      cases rv with
      | tup s1 q1 =>
        rw [q1.length] at hz
        exact sl_tup pins s σ H _ v vl vu lo hi sl Q I rx hs pl pu ⟨_, _, rfl, hK ▸ s1, hz, new_tup rh (q1.cut lo hi) q⟩
  · split at e
    · rename_i ds e1
      obtain ⟨rfl, rfl⟩ := some2 e
      obtain ⟨a, vs, rfl, sq, q1⟩ := rep_lst rh rv e1
      obtain ⟨T, id, t1, t2, t3⟩ := sl_list pins s σ H _ v vl vu lo hi sl (fun v H' => ∃ d u, v = .ref d ∧ H' d = some u ∧ Mut (some u) ∧ ∀ od, Q v (upd H' d (.frz od u))) I rx hs pl pu ⟨_, _, rfl, hK ▸ sq, fun p np => ⟨p, _, rfl, upd_same, trivial, new_fl rh (q1.cut lo hi) q p np⟩⟩
      exact ⟨T, id, t1, t2, wp_lock t3⟩
    · cases e
/-- truth -/
theorem truth_Z (rh : RelH G φ h H) (rv : RepV G φ H d v) {b : Bool} (e : truthF h d = some b) : TruV G.K v H b := by
  have sq : ∀ {ds : List PV}, (seqOf h d).map (fun ds => !ds.isEmpty) = some b → TruV G.K v H b := by
    intro _ e
    cases z : seqOf h d with
    | none => rw [z] at e; cases e
    | some es =>
      rw [z] at e
      obtain ⟨a, vs, rfl, sq, q⟩ := rep_seq rh rv z
      have hl : es.isEmpty = vs.isEmpty := by
        have := q.length
        cases es <;> cases vs <;> first | rfl | (simp at this)
      cases e
      rcases sq with sq | sq
      · exact .inl ⟨vs, sq, by show (!es.isEmpty) = _; rw [hl]⟩
      · exact .inr (.inl ⟨vs, sq, by show (!es.isEmpty) = _; rw [hl]⟩)
  unfold truthF at e
  split at e
  · cases e; cases rv; rfl
  · cases e; cases rv; rfl
  · cases e; cases rv; rfl
  · split at e
    · rename_i hz
      cases e; cases rv
      refine ⟨hz, ?_⟩
      rename_i x
      cases hx : x.length with
      | zero => rfl
      | succ n => show (n + 1 != 0) = (((n + 1 : Nat) : Int) != 0); simp; omega
    · cases e
  · exact sq (ds := []) e
/-- calls of built-ins -/
theorem bools_map : ∀ {ds : List PV} {vs : List V} {bs : List Bool}, RepVs G φ H ds vs → bools ds = some bs → vs = bs.map V.bl
  | _, _, _, .nil, e => by simp only [bools] at e; cases e; rfl
  | _, _, _, .cons a b, e => by
    cases a <;> simp only [bools] at e <;> first | (cases e; done) | skip
    rename_i c
    revert e
    cases z : bools _ with
    | none => intro e; cases e
    | some cs => intro e; cases e; rw [bools_map b z]; rfl
def biV : Bi → Value
  | .len => .builtin "len"
  | .isinstance => .builtin "isinstance"
  | .all => .builtin "all"
  | .abs => .builtin "abs"
  | .int => .type "int"
  | .max => .builtin "max"
  | .min => .builtin "min"
  | .tuple => .type "tuple"
  | .list => .type "list"
  | .listm => .type "list"
  | .sorted => .builtin "sorted"
  | .set => .type "set"
  | .repr => .builtin "repr"
  | .reprc => .builtin "repr"
theorem callr_of {f : Value} {F : Pf}
    (k : ∀ (pins : List (Addr × Obj)) (s : Shared) (σ : St) (H : Hp) (xs : List V) (us : List Value) (Q : VK) (φ : List Addr) (h : PHeap) (ds : List PV) (z : PV) (h' : PHeap), Inv X pins σ H s → Vals xs us → RelH G φ h H → RepVs G φ H ds xs →
      F ds h = some (z, h') → (∀ φ' H' v, Ext φ H φ' H' → RelH G φ' h' H' → RepV G φ' H' z v → Q v H') → wpAny (model X.prog X.w) X.A (call f us) (EP X pins σ Q) X.xe s) : CallR X f (rP G F) := by
  intro pins s σ H xs us Q I rx ⟨φ, h, ds, z, h', rh, rv, e, q⟩
  exact k pins s σ H xs us Q φ h ds z h' I rx rh rv e q
theorem omap {α β : Type} {o : Option α} {f : α → β} {b : β} (e : o.map f = some b) : ∃ a, o = some a ∧ f a = b := by
  cases o with
  | none => cases e
  | some a => cases e; exact ⟨a, rfl, rfl⟩
theorem repVs_one (q : RepVs G φ H [d] vs) : ∃ v, vs = [v] ∧ RepV G φ H d v := by
  cases q with
  | cons a b => cases b; exact ⟨_, rfl, a⟩
theorem repVs_two {e : PV} (q : RepVs G φ H [d, e] vs) : ∃ v w, vs = [v, w] ∧ RepV G φ H d v ∧ RepV G φ H e w := by
  cases q with
  | cons a b =>
    obtain ⟨w, rfl, r⟩ := repVs_one b
    exact ⟨_, _, rfl, a, r⟩
theorem noKey {d : PV} {a : Addr} (z : (keyOf d).isSome = true) (r : RepV G φ H d (.ref a)) : False := by
  cases r <;> cases z
theorem ty_Z (rh : RelH G φ h H) (rv : RepV G φ H d v) {t : String} (e : tyName h d = some t) : TyX G.K H v (.type t) := by
  cases rv with
  | non => cases e; exact .base .non
  | bl b => cases e; exact .base (.bl b)
  | int b => cases e; exact .base (.int b)
  | str b => cases e; exact .base (.str b)
  | ty => cases e
  | gl => cases e
  | scr => simp only [tyName, objOf] at e; cases e
  | tup s q =>
    cases e
    rcases s with (s | ⟨o, s⟩) | ⟨o, its, n, s, c, _⟩
    · exact .base (.tup s)
    · exact .fTuple s
    · exact .kTuple s c
  | fl s q =>
    simp only [tyName, objOf] at e
    cases e
    obtain ⟨o, s⟩ := s
    exact .base (.frz s)
  | fdK z s q =>
    simp only [tyName, objOf] at e
    split at e
    · cases e; exact .fDict s
    · cases e
  | fdN z ne s m nd q =>
    simp only [tyName, objOf] at e
    split at e
    · rename_i hk
      cases q with
      | nil => exact absurd rfl ne
      | cons a b c =>
        rw [List.all_cons, Bool.and_eq_true] at hk
        exact (noKey hk.1 c).elim
    · cases e
  | fset => simp only [tyName, objOf] at e; cases e
  | fiP => simp only [tyName, objOf] at e; cases e
  | fiS => simp only [tyName, objOf] at e; cases e
  | ref hi =>
    simp only [tyName, objOf] at e
    split at e
    · rename_i ds hx
      cases e
      obtain ⟨vs, e1, _⟩ := rh.obj _ _ _ hx hi
      exact .base (.lst e1)
    · rename_i kvs hx
      split at e
      · rename_i hk
        cases e
        obtain ⟨_, ⟨ks, e1, _⟩ | ⟨xs, ne, e1, _, _, q⟩⟩ := rh.obj _ _ _ hx hi
        · exact .base (.dK e1)
        · cases q with
          | nil => exact absurd rfl ne
          | cons a b =>
            rw [List.all_cons, Bool.and_eq_true] at hk
            have z := hk.1
            have r := a.2.2.1
            exact (noKey z r).elim
      · cases e
    · cases e
theorem strsP_ok : ∀ {ds : List PV} {xs : List Str}, strsP ds = some xs → ds = xs.map PV.str
  | [], _, e => by cases e; rfl
  | d :: ds, xs, e => by
    cases d <;> simp only [strsP] at e <;> first | (cases e; done) | skip
    obtain ⟨ys, e1, e2⟩ := omap e
    cases e2
    rw [strsP_ok e1]; rfl
theorem strsP_map : ∀ (xs : List Str), strsP (xs.map PV.str) = some xs
  | [] => rfl
  | x :: r => by
    show (strsP (r.map PV.str)).map (x :: ·) = _
    rw [strsP_map r]; rfl
theorem repVs_strs : ∀ {xs : List Str} {vs : List V}, RepVs G φ H (xs.map PV.str) vs → vs = xs.map V.str
  | [], _, .nil => rfl
  | x :: r, _, .cons a b => by
    cases a
    rw [repVs_strs b]; rfl
theorem strs_repVs : ∀ (xs : List Str), RepVs G φ H (xs.map PV.str) (xs.map V.str)
  | [] => .nil
  | x :: r => .cons (.str x) (strs_repVs r)
theorem new_set {Q : VK} {w : World} (hw : G.w = w) {xs : List Str} (hl : xs.length < 64) (r : RelH G φ h H) (q : ∀ φ' H' v, Ext φ H φ' H' → RelH G φ' h H' → RepV G φ' H' (.fz (.set (xs.map PV.str))) v → Q v H') :
    ∀ ks p, ks.Perm xs → H p = none → ∀ od, Q (.ref p) (upd (upd H p (TxO w p ks)) p (.frz od (TxO w p ks))) := fun ks p pk hp od => by
  subst hw
  exact new_fz r (.fset rfl upd_same pk hl) hp q
theorem rep_set (r : RelH G φ h H) (rv : RepV G φ H d v) (e : objOf h d = some (.set ds)) : ∃ (a : Addr) (xs ks : List Str), v = .ref a ∧ ds = xs.map PV.str ∧ Rd H a (TxO G.w a ks) ∧ ks.Perm xs ∧ xs.length < 64 := by
  cases rv with
  | fset z e1 p l => simp only [objOf] at e; cases e; exact ⟨_, _, _, rfl, z, .inr ⟨_, e1⟩, p, l⟩
  | ref hi =>
    obtain ⟨xs, ks, z0, z1, z2, z3⟩ := r.obj _ _ _ e hi
    exact ⟨_, xs, ks, rfl, z0, .inl z1, z2, z3⟩
  | _ => simp only [objOf] at e; cases e
theorem repr_Z {x : Str} (e : reprP d = some x) (rv : RepV G φ H d v) {pins : List (Addr × Obj)} {σ : St} {s : Shared} {u : Value} {Q : VK} (I : Inv X pins σ H s) (r : RelV v u) (q : Q (.str x) H) :
    wpAny (model X.prog X.w) X.A (call (.builtin "repr") [u]) (EP X pins σ Q) X.xe s := by
  cases rv with
  | non =>
    cases e; cases r
    exact P.repr_of_none ⟨.str _, H, I.tok _, ⟨_, rfl⟩, q⟩
  | bl b =>
    cases e; cases r
    exact P.repr_of_bool ⟨.str _, H, I.tok _, ⟨_, rfl⟩, q⟩
  | int i =>
    obtain ⟨t, rfl⟩ := r
    unfold reprP at e
    dsimp only at e
    split at e
    · rename_i hb
      cases e
      exact P.repr_of_int hb ⟨.str _, H, I.tok _, ⟨_, rfl⟩, q⟩
    · cases e
  | _ => cases e
theorem reprC_Z (hK : G.K = X.K) (rh : RelH G φ h H) (hg : X.A.guards = some []) (hu : X.A.units + 64 < cLine) {x : Str} (e : reprC h d = some x) (rv : RepV G φ H d v) {pins : List (Addr × Obj)} {σ : St} {s : Shared} {u : Value} {Q : VK} (I : Inv X pins σ H s) (r : RelV v u) (q : Q (.str x) H) :
    wpAny (model X.prog X.w) X.A (call (.builtin "repr") [u]) (EP X pins σ Q) X.xe s := by
  unfold reprC at e
  split at e
  · rename_i y e1
    cases e
    exact repr_Z e1 rv I r q
  · rename_i e0
    split at e
    · cases e
    · rename_i ns e1
      split at e
      · rename_i hz
        cases e
        have dp := rep_data rh _ rv e1
        rw [hK] at dp
        obtain ⟨as, rd⟩ := Dp.reads I _ _ _ dp r
        have isr : ∃ a, v = .ref a := by
          cases rv with
          | tup => exact ⟨_, rfl⟩
          | fl => exact ⟨_, rfl⟩
          | fdK => exact ⟨_, rfl⟩
          | fdN => exact ⟨_, rfl⟩
          | fset => exact ⟨_, rfl⟩
          | fiP => exact ⟨_, rfl⟩
          | fiS => exact ⟨_, rfl⟩
          | ref => exact ⟨_, rfl⟩
          | gl => exact ⟨_, rfl⟩
          | scr => exact ⟨_, rfl⟩
          | str => exact (ns _ rfl).elim
          | non => cases e0
          | bl => cases e0
          | int =>
            exfalso
            simp only [toD] at e1
            cases e1
            simp only [reprP] at e0
            split at e0
            · cases e0
            · rename_i n1
              exact n1 (by simpa [PyData.showable] using hz.1)
          | ty => simp [toD] at e1
        obtain ⟨a, rfl⟩ := isr
        cases r
        refine PySem.repr_of_reads' rd hz.1 (fun z => by rw [hz.2.1] at z; cases z) hg (by have := hz.2.2.1; omega) (fun _ _ e => e) (fun h' u tk k => ⟨.str _, H, I.kept k, ⟨_, rfl⟩, q⟩) hz.2.2.2
      · cases e
    · cases e
theorem call_Z (hK : G.K = X.K) (hw : G.w = X.w) (hc : X.calm = true) (hu : X.A.units + 64 < cLine) (b : Bi) (hg : b = .reprc → X.A.guards = some []) : CallR X (biV b) (rP G (bltF b)) := by
  refine callr_of fun pins s σ H xs us Q φ h ds z h' I rx rh rv e q => ?_
  unfold bltF at e
  split at e
  · -- len str
    split at e
    · rename_i hz
      obtain ⟨rfl, rfl⟩ := some2 e
      obtain ⟨v, rfl, r⟩ := repVs_one rv
      cases r
      exact call_len pins s σ H _ us Q I rx ⟨_, _, rfl, ⟨hz, rfl⟩, q φ H _ .refl rh (.int _)⟩
    · cases e
  · obtain ⟨es, e1, e2⟩ := omap e
    cases e2
    obtain ⟨v, rfl, r⟩ := repVs_one rv
    obtain ⟨a, vs, rfl, sq, q1⟩ := rep_seq rh r e1
    refine call_len_seq pins s σ H _ us Q I rx ⟨_, vs, rfl, hK ▸ sq, ?_⟩
    rw [← q1.length]
    exact q φ H _ .refl rh (.int _)
  · split at e
    · rename_i t e1
      obtain ⟨b, e2, e3⟩ := omap e
      cases e3
      obtain ⟨v, w, rfl, r, r'⟩ := repVs_two rv
      cases r'
      exact call_isi pins s σ H _ us Q I rx ⟨_, _, _, _, _, rfl, .ty _, hK ▸ ty_Z rh r e1, kit_ty e2, q φ H _ .refl rh (.bl _)⟩
    · cases e
  · split at e
    · rename_i es e1
      obtain ⟨bs, e2, e3⟩ := omap e
      cases e3
      obtain ⟨v, rfl, r⟩ := repVs_one rv
      obtain ⟨a, vs, rfl, sq, q1⟩ := rep_lst rh r e1
      have := bools_map q1 e2
      subst this
      exact cr_all hc pins s σ H _ us Q I rx ⟨_, _, rfl, hK ▸ sq, q φ H _ .refl rh (.bl _)⟩
    · cases e
  · cases e
    obtain ⟨v, rfl, r⟩ := repVs_one rv
    cases r
    exact call_abs pins s σ H _ us Q I rx ⟨_, rfl, q φ H _ .refl rh (.int _)⟩
  · cases e
    obtain ⟨v, rfl, r⟩ := repVs_one rv
    cases r
    exact call_int1 pins s σ H _ us Q I rx (.inl ⟨_, rfl, q φ H _ .refl rh (.int _)⟩)
  · cases e
    obtain ⟨v, rfl, r⟩ := repVs_one rv
    cases r
    exact call_int1 pins s σ H _ us Q I rx (.inr ⟨_, rfl, q φ H _ .refl rh (.int _)⟩)
  · cases e
    obtain ⟨v, w, rfl, r, r'⟩ := repVs_two rv
    cases r; cases r'
    exact call_max2 hc pins s σ H _ us Q I rx ⟨_, _, rfl, q φ H _ .refl rh (.int _)⟩
  · cases e
    obtain ⟨v, w, rfl, r, r'⟩ := repVs_two rv
    cases r; cases r'
    exact call_min2 hc pins s σ H _ us Q I rx ⟨_, _, rfl, q φ H _ .refl rh (.int _)⟩
  · cases e
    obtain ⟨v, rfl, r⟩ := repVs_one rv
    cases r with
    | tup s1 q1 => exact call_tuple_of pins s σ H _ us Q I rx ⟨_, _, rfl, .inr ⟨hK ▸ s1, q φ H _ .refl rh (.tup s1 q1)⟩⟩
  · obtain ⟨es, e1, e2⟩ := omap e
    cases e2
    obtain ⟨v, rfl, r⟩ := repVs_one rv
    obtain ⟨a, vs, rfl, sq, q1⟩ := rep_lst rh r e1
    exact call_tuple_of pins s σ H _ us Q I rx ⟨_, _, rfl, .inl ⟨hK ▸ sq, new_tup rh q1 q⟩⟩
  · obtain ⟨es, e1, e2⟩ := omap e
    cases e2
    obtain ⟨v, rfl, r⟩ := repVs_one rv
    obtain ⟨a, vs, rfl, sq, q1⟩ := rep_seq rh r e1
    exact wp_lock (call_list_of pins s σ H _ us _ I rx ⟨_, _, rfl, hK ▸ sq, fun p np => ⟨p, _, rfl, upd_same, trivial, new_fl rh q1 q p np⟩⟩)
  · obtain ⟨es, e1, e2⟩ := omap e
    cases e2
    obtain ⟨v, rfl, r⟩ := repVs_one rv
    obtain ⟨a, vs, rfl, sq, q1⟩ := rep_seq rh r e1
    exact call_list_of pins s σ H _ us Q I rx ⟨_, _, rfl, hK ▸ sq, new_lst rh q1 q⟩
  · unfold setP at e
    split at e
    · rename_i es e1
      split at e
      · rename_i ss e2
        split at e
        · rename_i hl
          obtain ⟨rfl, rfl⟩ := some2 e
          obtain ⟨v, rfl, r⟩ := repVs_one rv
          obtain ⟨a, vs, rfl, sq, q1⟩ := rep_lst rh r e1
          rw [strsP_ok e2] at q1
          have := repVs_strs q1
          subst this
          exact wp_lock (cr_txSet hc pins s σ H _ us _ I rx ⟨_, _, rfl, hK ▸ sq, hl, fun ks p pk hp => ⟨p, _, rfl, upd_same, trivial, new_set hw (Nat.lt_of_le_of_lt (dedS_len ss) hl) rh q ks p pk hp⟩⟩)
        · cases e
      · cases e
    · cases e
  · unfold sortP at e
    split at e
    · rename_i es e1
      obtain ⟨ss, e2, e3⟩ := omap e
      cases e3
      obtain ⟨v, rfl, r⟩ := repVs_one rv
      obtain ⟨a, xs0, ks, rfl, z0, z1, z2, z3⟩ := rep_set rh r e1
      subst z0
      rw [strsP_map] at e2
      cases e2
      refine wp_lock (cr_txSort hc pins s σ H _ us _ I rx ⟨_, ks, rfl, hw ▸ z1, by rw [z2.length_eq]; exact z3, fun ys p y1 y2 hp => ?_⟩)
      rw [sortS_one (y1.trans z2) y2]
      exact ⟨p, _, rfl, upd_same, trivial, new_fl rh (strs_repVs (sortS ss)) q p hp⟩
    · rename_i es e1
      split at e
      · rename_i ss e2
        split at e
        · rename_i hl
          obtain ⟨rfl, rfl⟩ := some2 e
          obtain ⟨v, rfl, r⟩ := repVs_one rv
          obtain ⟨a, vs, rfl, sq, q1⟩ := rep_lst rh r (by unfold lstOf; rw [e1])
          rw [strsP_ok e2] at q1
          have := repVs_strs q1
          subst this
          refine wp_lock (cr_sortedS pins s σ H _ us _ I rx ⟨_, ss, rfl, hK ▸ sq, hl, fun ys p y1 y2 hp => ?_⟩)
          rw [sortS_one y1 y2]
          exact ⟨p, _, rfl, upd_same, trivial, new_fl rh (strs_repVs (sortS ss)) q p hp⟩
        · cases e
      · cases e
    · cases e
  · obtain ⟨x, e1, e2⟩ := omap e
    cases e2
    obtain ⟨v, rfl, r⟩ := repVs_one rv
    cases rx with
    | cons ry rt =>
      cases rt
      exact repr_Z e1 r I ry (q φ H _ .refl rh (.str _))
  · obtain ⟨x, e1, e2⟩ := omap e
    cases e2
    obtain ⟨v, rfl, r⟩ := repVs_one rv
    cases rx with
    | cons ry rt =>
      cases rt
      exact reprC_Z hK rh (hg rfl) hu e1 r I ry (q φ H _ .refl rh (.str _))
  · cases e
end
end Zed
end
section
set_option Elab.async false
set_option linter.all false
set_option maxRecDepth 100000
set_option maxHeartbeats 4000000
namespace Zed
open PySem L2 PySem.Spec PyProof.Rows
/-! ### try with several clauses, with and without a name; what no clause takes is not wished for -/
/-- a clause: the class, the slot of its name, the suite's reading -/
structure Cl where
  cls : Value
  slot : Option Nat
  ts : Addr → Value → Option Addr → TS
/-- where a suite ends, the clause's name goes -/
def endsAt (D : Ends) : Option Nat → Ends
  | none => D
  | some i => { nx := fun σ' H' => D.nx (σ'.set i none) H', rt := D.rt, bk := fun σ' H' => D.bk (σ'.set i none) H', ct := fun σ' H' => D.ct (σ'.set i none) H' }
def slotsAt (σ : L2.St) (a : Addr) : Option Nat → L2.St
  | none => σ
  | some i => σ.set i (some (.ref a))
def wCl (K : PySem.W.Frag) (D : Ends) : List Cl → WX
  | [] => fun _ _ _ _ => False
  | c :: r => fun cls d σ H => ∃ b, PySem.W.exmOne K cls c.cls = some b ∧ (b = true → ∀ a, H a = none → c.ts a cls d (endsAt D c.slot) (slotsAt σ a c.slot) H) ∧ (b = false → wCl K D r cls d σ H)
inductive ClsOk (X : Cx) : List ExceptHandler → List Cl → Prop
  | cut {hds : List ExceptHandler} : ClsOk X hds []
  | bare {x : Str} {c : Value} {ts : Addr → Value → Option Addr → TS} {st : Stmt} {sts : List Stmt} {p1 p2 : Pos} {hds : List ExceptHandler} {l : List Cl} (nm : Names X x c)
      (su : ∀ (a : Addr) (ob : Obj) (cls : Value) (d : Option Addr) (pn : List (Addr × Obj)), Zc cls d ob → (∃ fs, ob.data = .fields fs) → PSs (X.suite a ((a, ob) :: pn)) (st :: sts) (ts a cls d)) (r : ClsOk X hds l) :
      ClsOk X (.ExceptHandler (some (.Name x p1)) none (st :: sts) p2 :: hds) (⟨c, none, ts⟩ :: l)
  | name {x n : Str} {c : Value} {i : Nat} {ts : Addr → Value → Option Addr → TS} {st : Stmt} {sts : List Stmt} {p1 p2 : Pos} {hds : List ExceptHandler} {l : List Cl} (nm : Names X x c) (hi : X.N[i]? = some n) (hl : X.env.kindOf n = some .local)
      (su : ∀ (a : Addr) (ob : Obj) (cls : Value) (d : Option Addr) (pn : List (Addr × Obj)), Zc cls d ob → (∃ fs, ob.data = .fields fs) → PSs (X.suite a ((a, ob) :: pn)) (st :: sts) (ts a cls d)) (r : ClsOk X hds l) :
      ClsOk X (.ExceptHandler (some (.Name x p1)) (some n) (st :: sts) p2 :: hds) (⟨c, some i, ts⟩ :: l)
theorem ps_tryZ {X : Cx} {body : List Stmt} {hd : ExceptHandler} {hds : List ExceptHandler} {l : List Cl} {pos : Pos} {tb : WX → TS} (hs : X.stack = X.env :: X.outer) (hfr : X.env.frame = some X.env.locals) (nd : X.N.Nodup)
    (hb : ∀ (W : WX) (pn : List (Addr × Obj)) (xe : Value → Shared → Prop), Takes (X.tr pn xe) W → PassesOwn (model X.prog X.w) X.A X.env xe → PSs (X.tr pn xe) body (tb W))
    (hc : ClsOk X (hd :: hds) l) : PS X (.Try body (hd :: hds) [] [] pos) (fun D σ H => tb (wCl X.K D l) D σ H) := by
  constructor
  intro pins s σ H D I h
  have ok := I.ok
  have frm : X.A.frames = some (X.env :: X.outer) := by rw [ok.frames, hs]
  refine wpAny_Try_except ?_
  have run := (hb (wCl X.K D l) (X.pn ++ pins) (fun e t1 => wpAny (model X.prog X.w) X.A (noteFrame e X.env) (fun _ t2 => wpAny (model X.prog X.w) X.A (setFlight e none)
    (fun _ t3 => wpAny (model X.prog X.w) X.A (handleBy e X.env (hd :: hds)) (SP X pins D) X.xe t3) X.xe t2) X.xe t1) ?take PassesOwn.looking).run [] s σ H D (I.toTry _) h
  case take =>
    rintro u0 t ⟨a, B, sI, pins1, σ1, H1, cls, d, rfl, J0, nb, up, sky, na, os, ag, w⟩
    have J : Inv X pins σ1 H1 sI := J0.ofTry ok
    have sk : Sky B (X.env :: X.outer) a (Zc cls d) X.env.locals t.heap := hs ▸ sky
    show wpAny (model X.prog X.w) X.A (noteFrame (.ref a) X.env) _ _ _
    refine Sky.land Zc.steady frm hfr sk ?_
    intro g fl upg
    have Jg : Inv X pins σ1 H1 { t with heap := g } := J.landed nb fl.1 (up.trans upg) os ag
    obtain ⟨ob, fs, hob, hz, hfs⟩ := fl.there
    have out : a ∉ frs (X.env :: X.outer) := fun hm => by
      obtain ⟨_, o1, e1, no⟩ := fl.2.2.1.mem hm
      rw [hob] at e1
      cases e1
      exact no _ hfs
    have nL : a ≠ X.env.locals := fun z => out (List.mem_filterMap.mpr ⟨X.env, List.mem_cons_self, by rw [hfr, z]⟩)
    have nF : a ∉ X.fs := fun hm => by
      obtain ⟨e, he, q⟩ := List.mem_filterMap.mp hm
      exact out (List.mem_filterMap.mpr ⟨e, .tail _ he, q⟩)
    have Sg := Jg.suite hob hfs na nL nF
    have go : ∀ (hds : List ExceptHandler) (l : List Cl), ClsOk X hds l → wCl X.K D l cls d σ1 H1 → wpAny (model X.prog X.w) X.A (handleBy (.ref a) X.env hds) (SP X pins D) X.xe { t with heap := g } := by
      intro hds l k
      induction k with
      | cut => exact fun z => z.elim
      | @bare x c ts st sts p1 p2 hds l nm su r ih =>
        rintro ⟨b, eb, yes, no⟩
        refine wpAny_handleBy_cons (codeAny_handlers_test ?_) (by intro z; cases z)
        have ty : PySem.W.Looks (model X.prog X.w) g (typeOf (.ref a)) cls := fun A Q E s k q => wpAny_typeOf_ref (k _ _ hob) (by rw [hz.1]; exact q)
        have look := PySem.W.exm_one (M := model X.prog X.w) Jg.kIn ty eb
        have nam : ∀ {Q E : Value → Shared → Prop}, Q c { t with heap := g } → wpAny (model X.prog X.w) (X.A.mark (some (.ref a))) (eval (.Name x p1) X.env) Q E { t with heap := g } := fun {Q E} q => by
          rcases nm with ⟨n1, n2, n3 | ⟨n3, n4, n5⟩⟩
          · exact ld_glob (X := X.suite a ((a, ob) :: (X.pn ++ pins))) Sg n1 n3 q n2
          · exact ld_blt (X := X.suite a ((a, ob) :: (X.pn ++ pins))) Sg n1 n3 n4 q n5 n2
        refine nam (look.here ?_)
        cases b with
        | false => exact ih (no rfl)
        | true =>
          refine codeAny_handlers_suite (HandSPX.lands_againZ fl fun g2 fl2 up2 => ?_)
          have J2 : Inv X pins σ1 H1 { t with heap := g2 } := J.landed nb fl2.1 ((up.trans upg).trans up2) os ag
          obtain ⟨ob2, fs2, hob2, hz2, hfs2⟩ := fl2.there
          have S2 := J2.suite hob2 hfs2 na nL nF
          refine wpAny_mono ((su a ob2 cls d (X.pn ++ pins) hz2 ⟨_, hfs2⟩).run [] _ _ H1 _ S2 (yes rfl a na)) (fun f s6 z => ?_) (fun _ _ z => z.elim)
          cases f with
          | ret u => obtain ⟨v6, σ6, H6, S6, r6, q6⟩ := z; exact ⟨_, _, _, S6.unsuite ok, r6, q6⟩
          | next => obtain ⟨σ6, H6, S6, q6⟩ := z; exact ⟨_, _, S6.unsuite ok, q6⟩
          | brk => obtain ⟨σ6, H6, S6, q6⟩ := z; exact ⟨_, _, S6.unsuite ok, q6⟩
          | cont => obtain ⟨σ6, H6, S6, q6⟩ := z; exact ⟨_, _, S6.unsuite ok, q6⟩
      | @name x n c i ts st sts p1 p2 hds l nm hi hl su r ih =>
        rintro ⟨b, eb, yes, no⟩
        refine wpAny_handleBy_cons (codeAny_handlers_test ?_) (by intro z; cases z)
        have ty : PySem.W.Looks (model X.prog X.w) g (typeOf (.ref a)) cls := fun A Q E s k q => wpAny_typeOf_ref (k _ _ hob) (by rw [hz.1]; exact q)
        have look := PySem.W.exm_one (M := model X.prog X.w) Jg.kIn ty eb
        have nam : ∀ {Q E : Value → Shared → Prop}, Q c { t with heap := g } → wpAny (model X.prog X.w) (X.A.mark (some (.ref a))) (eval (.Name x p1) X.env) Q E { t with heap := g } := fun {Q E} q => by
          rcases nm with ⟨n1, n2, n3 | ⟨n3, n4, n5⟩⟩
          · exact ld_glob (X := X.suite a ((a, ob) :: (X.pn ++ pins))) Sg n1 n3 q n2
          · exact ld_blt (X := X.suite a ((a, ob) :: (X.pn ++ pins))) Sg n1 n3 n4 q n5 n2
        refine nam (look.here ?_)
        cases b with
        | false => exact ih (no rfl)
        | true =>
          refine codeAny_handlers_suite_as (HandSPX.lands_againZ fl fun g2 fl2 up2 => ?_)
          have J2 : Inv X pins σ1 H1 { t with heap := g2 } := J.landed nb fl2.1 ((up.trans upg).trans up2) os ag
          obtain ⟨ob2, fs2, hob2, hz2, hfs2⟩ := fl2.there
          have S2 := J2.suite hob2 hfs2 na nL nF
          refine store_ok (X := X.suite a ((a, ob2) :: (X.pn ++ pins))) (v := .ref a) S2 nd hi (.inl hl) rfl (fun s5 S5 => ?_) (.inr hl)
          refine wpAny_mono ((su a ob2 cls d (X.pn ++ pins) hz2 ⟨_, hfs2⟩).run [] s5 _ H1 _ S5 (yes rfl a na)) (fun f s6 z => ?_) (fun _ _ z => z.elim)
          cases f with
          | ret u => obtain ⟨v6, σ6, H6, S6, r6, q6⟩ := z; exact gone_ok (S6.unsuite ok) nd hi hl fun s7 J7 => ⟨_, _, _, J7, r6, q6⟩
          | next => obtain ⟨σ6, H6, S6, q6⟩ := z; exact gone_ok (S6.unsuite ok) nd hi hl fun s7 J7 => ⟨_, _, J7, q6⟩
          | brk => obtain ⟨σ6, H6, S6, q6⟩ := z; exact gone_ok (S6.unsuite ok) nd hi hl fun s7 J7 => ⟨_, _, J7, q6⟩
          | cont => obtain ⟨σ6, H6, S6, q6⟩ := z; exact gone_ok (S6.unsuite ok) nd hi hl fun s7 J7 => ⟨_, _, J7, q6⟩
    exact go _ _ hc w
  refine wpAny_mono run (fun f s1 z => ?_) (fun e s1 z => z)
  cases f with
  | ret u => obtain ⟨v, σ6, H6, J6, r6, q6⟩ := z; exact ⟨v, σ6, H6, J6.ofTry ok, r6, q6⟩
  | next => obtain ⟨σ6, H6, J6, q6⟩ := z; exact wpAny_execs_nil ⟨σ6, H6, J6.ofTry ok, q6⟩
  | brk => obtain ⟨σ6, H6, J6, q6⟩ := z; exact ⟨σ6, H6, J6.ofTry ok, q6⟩
  | cont => obtain ⟨σ6, H6, J6, q6⟩ := z; exact ⟨σ6, H6, J6.ofTry ok, q6⟩
end Zed
end
section
set_option Elab.async false
set_option linter.all false
set_option maxRecDepth 100000
namespace Zed
open PySem L2

/-! ### what a law's text has: names by number, defs, constants -/
structure Sg where
  nm : Nat → Str
  fn : Nat → Option (List Str × Fd)
  /-- a def of the module -/
  glo : Nat → Bool
  /-- a class's __init__ -/
  init : Nat → Option Nat
  cst : List (Str × PV)
  blts : List Str
  /-- the def wants to know that no repr is under way -/
  rp : Nat → Bool
  /-- own errors, made with a text -/
  exc : Nat → Bool
  /-- defs that call a lambda -/
  met : Nat → Bool
  /-- the def makes lambdas -/
  lam : Nat → Bool
  /-- here: no repr is under way; lambdas may be made -/
  gdH : Bool
  lamH : Bool
/-- in a lambda's body -/
def Sg.low (S : Sg) : Sg := { S with gdH := false, lamH := false }
abbrev Nms := List (Str × NameKind)
def isK (ns : Nms) (x : Str) (k : NameKind) : Bool := ns.lookup x == some k
def isVis (ns : Nms) (x : Str) : Bool := isK ns x .local || isK ns x .cell || isK ns x .free
def okNm (x : Str) : Bool := !(x == ("__debug__" : Str)) && !(x == ("__classdict__" : Str)) && !(x == ("__name__" : Str))
def biName : Bi → Str
  | .len => "len" | .isinstance => "isinstance" | .all => "all" | .abs => "abs" | .int => "int" | .max => "max" | .min => "min" | .tuple => "tuple" | .list => "list" | .listm => "list" | .sorted => "sorted" | .set => "set" | .repr => "repr" | .reprc => "repr"
def conIs : PV → Const → Bool
  | .non, .none => true
  | .bl a, .bool b => a == b
  | .int a, .int b => a == b
  | .str a, .str b => a == b
  | _, _ => false
def bopIs : Bop → Operator → Bool
  | .add, .Add | .sub, .Sub | .mul, .Mult | .fdiv, .FloorDiv | .mod, .Mod | .pow, .Pow => true
  | _, _ => false
def copIs : Cop → CmpOp → Bool
  | .lt, .Lt | .le, .LtE | .gt, .Gt | .ge, .GtE | .eq, .Eq | .ne, .NotEq | .isin, .In | .notin, .NotIn | .is, .Is | .isnot, .IsNot => true
  | _, _ => false
def noStar : Expr → Bool
  | .Starred .. => false
  | _ => true
def noSlice : Expr → Bool
  | .Slice .. => false
  | _ => true
def noSuper : Expr → Bool
  | .Call (.Name ..) [] [] _ => false
  | _ => true
def noComp : Expr → Bool
  | .ListComp .. => false
  | .SetComp .. => false
  | .DictComp .. => false
  | _ => true
def noSet : Expr → Bool
  | .Set .. => false
  | _ => true
def tyB : List String := ["int", "bool", "str", "tuple", "list", "dict"]
def miIs : Mi → Str → Bool
  | .append, x => x == ("append" : Str)
  | .extend, x => x == ("extend" : Str)
mutual
def chkG (N : List Str) (ns : Nms) : Tg → Expr → Bool
  | .nm i, .Name x _ => (N[i]? == some x) && (isK ns x .local || isK ns x .cell)
  | .tp ts, .Tuple es _ _ => chkGs N ns ts es
  | _, _ => false
def chkGs (N : List Str) (ns : Nms) : Tgs → List Expr → Bool
  | .nil, [] => true
  | .cons t ts, e :: es => noStar e && chkG N ns t e && chkGs N ns ts es
  | _, _ => false
end
mutual
def slotsT : Tg → List Nat
  | .nm i => [i]
  | .tp ts => slotsTs ts
def slotsTs : Tgs → List Nat
  | .nil => []
  | .cons t ts => slotsT t ++ slotsTs ts
end
/-- the block of a comprehension: its own names are at the slots own -/
def ownOf (N : List Str) (own : List Nat) : List (Str × Nat) := own.filterMap fun i => N[i]?.map fun x => (x, i)
def plainX : Exs → Bool
  | .nil => true
  | .cons _ es => plainX es
  | .star _ _ => false
mutual
def chkE (S : Sg) (N : List Str) (sc : Scope) : Ex → Expr → Bool
  | .loc i, e => match e with
    | .Name x _ => (N[i]? == some x) && isVis sc.names x && okNm x
    | _ => false
  | .con d, e => match e with
    | .Constant c _ _ => conIs d c
    | .Name x _ => isK sc.names x .globalImplicit && okNm x && (match S.cst.lookup x with
      | some e => PV.same d e
      | none => match d with
        | .ty n => tyB.contains n && (x == Str.ofString n) && S.blts.contains x
        | _ => false)
    | _ => false
  | .bin op a b, e => match e with
    | .BinOp a' op' b' _ => bopIs op op' && chkE S N sc a a' && chkE S N sc b b'
    | _ => false
  | .neg a, e => match e with
    | .UnaryOp .USub a' _ => chkE S N sc a a'
    | _ => false
  | .not a, e => match e with
    | .UnaryOp .Not a' _ => chkE S N sc a a'
    | _ => false
  | .cmp op a b, e => match e with
    | .Compare a' [op'] [b'] _ => copIs op op' && !behindInMarks op' b' && chkE S N sc a a' && chkE S N sc b b'
    | _ => false
  | .chn op p a b c, e => match e with
    | .Compare a' [op', p'] [b', c'] _ => copIs op op' && copIs p p' && !lastMarks [op', p'] [b', c'] && chkE S N sc a a' && chkE S N sc b b' && chkE S N sc c c'
    | _ => false
  | .and a b, e => match e with
    | .BoolOp .And [a', b'] _ => chkE S N sc a a' && chkE S N sc b b'
    | .BoolOp .And (a' :: b' :: c' :: r) pos => chkE S N sc a a' && chkE S N sc b (.BoolOp .And (b' :: c' :: r) pos)
    | _ => false
  | .or a b, e => match e with
    | .BoolOp .Or [a', b'] _ => chkE S N sc a a' && chkE S N sc b b'
    | .BoolOp .Or (a' :: b' :: c' :: r) pos => chkE S N sc a a' && chkE S N sc b (.BoolOp .Or (b' :: c' :: r) pos)
    | _ => false
  | .ite c a b, e => match e with
    | .IfExp c' a' b' _ => chkE S N sc c c' && chkE S N sc a a' && chkE S N sc b b'
    | _ => false
  | .tup es, e => match e with
    | .Tuple es' _ _ => chkA S N sc es es'
    | _ => false
  | .lst _ es, e => match e with
    | .List es' _ => chkA S N sc es es'
    | _ => false
  | .call f es, e => match e with
    | .Call (.Name x _) (a' :: es') [] _ => isK sc.names x .globalImplicit && okNm x && (x == S.nm f) && S.glo f && (!S.rp f || S.gdH) && (S.fn f).isSome && plainX es && chkA S N sc es (a' :: es')
    | _ => false
  | .make c f es, e => match e with
    | .Call (.Name x _) (a' :: es') [] _ => isK sc.names x .globalImplicit && okNm x && (x == S.nm c) && (S.init c == some f) && !S.rp f && (S.fn f).isSome && plainX es && chkA S N sc es (a' :: es')
    | _ => false
  | .blt b es, e => match e with
    | .Call (.Name x _) (a' :: es') [] _ => isK sc.names x .globalImplicit && (x == biName b) && (decide (b ≠ .reprc) || S.gdH) && S.blts.contains x && plainX es && chkA S N sc es (a' :: es')
    | _ => false
  | .meth m o es, e => match e with
    | .Call (.Attribute o' x ap) (a' :: es') [] cp => miIs m x && noSuper o' && (ap.endLine == cp.line) && decide ((a' :: es').length < 30) && chkE S N sc o o' && plainX es && chkA S N sc es (a' :: es')
    | _ => false
  | .sub o i, e => match e with
    | .Subscript o' i' _ => noSlice i' && chkE S N sc o o' && chkE S N sc i i'
    | _ => false
  | .slc o lo hi, e => match e with
    | .Subscript o' (.Slice lo' hi' none _) _ => chkE S N sc o o' && chkOp S N sc lo lo' && chkOp S N sc hi hi'
    | _ => false
  | .attr o f, e => match e with
    | .Attribute o' x _ => (x == S.nm f) && noSuper o' && chkE S N sc o o'
    | _ => false
  | .lc _ elt tg it ifs own, e => match e with
    | .ListComp elt' [⟨tg', it', ifs', 0⟩] sc' _ =>
      chkI S N sc it tg' it' && blkC N sc sc' (ownOf N own) && ((ownOf N own).map (·.2) == own) && chkG N sc'.names tg tg' && (slotsT tg).all own.contains && noSet it' &&
      (match ifs' with
        | [] => match ifs with | .no => true | _ => false
        | [c'] => (match ifs with | .no => false | _ => true) && chkOp S N sc' ifs (some c')
        | _ => false) && chkE S N sc' elt elt'
    | _ => false
  | .dic0 _, e => match e with
    | .Dict [] [] _ => true
    | _ => false
  | .met m b, e => match e with
    | .Call (.Name x _) [.Lambda ⟨[], [], none, [], [], none, []⟩ b' sc' _] [] _ => isK sc.names x .globalImplicit && okNm x && (x == S.nm m) && S.met m && S.lamH && LamX.lamSB sc sc' && chkE S.low N sc' b b'
    | _ => false
def chkA (S : Sg) (N : List Str) (sc : Scope) : Exs → List Expr → Bool
  | .nil, es => match es with
    | [] => true
    | _ => false
  | .cons e es, l => match l with
    | e' :: es' => noStar e' && chkE S N sc e e' && chkA S N sc es es'
    | _ => false
  | .star e es, l => match l with
    | .Starred e' _ :: es' => chkE S N sc e e' && chkA S N sc es es'
    | _ => false
def chkOp (S : Sg) (N : List Str) (sc : Scope) : Op → Option Expr → Bool
  | .no, o => o.isNone
  | .yes e, o => match o with
    | some e' => chkE S N sc e e'
    | none => false
def chkI (S : Sg) (N : List Str) (sc : Scope) : Itr → Expr → Expr → Bool
  | .val e, _, e' => chkE S N sc e e'
  | .rng1 e, _, c => match c with
    | .Call (.Name x _) [a'] [] _ => isK sc.names x .globalImplicit && (x == ("range" : Str)) && S.blts.contains x && noStar a' && chkE S N sc e a'
    | _ => false
  | .rng2 a b, _, c => match c with
    | .Call (.Name x _) [a', b'] [] _ => isK sc.names x .globalImplicit && (x == ("range" : Str)) && S.blts.contains x && noStar a' && noStar b' && chkE S N sc a a' && chkE S N sc b b'
    | _ => false
  | .enm _, _, _ => false
  | .zp _ _, _, _ => false
end

/-! ### where the text stands -/
theorem lookup_mem0 {l : Nms} {x : Str} {d : NameKind} (h : l.lookup x = some d) : (x, d) ∈ l := by
  induction l with
  | nil => cases h
  | cons p r ih =>
    obtain ⟨y, e⟩ := p
    rw [List.lookup_cons] at h
    cases z : x == y with
    | true => rw [z] at h; cases h; rw [beq_iff_eq.mp z]; exact List.mem_cons_self
    | false => rw [z] at h; exact List.mem_cons_of_mem _ (ih h)
def chkH (nm : Nat → Str) (ns : Nms) : List (Nat × Str) → List ExceptHandler → Bool
  | [], _ => true
  | (d, t) :: r, .ExceptHandler (some (.Name x _)) none [.Return (some (.Constant (.str t') _ _)) _] _ :: hds => (x == nm d) && isK ns x .globalImplicit && okNm x && (t == t') && chkH nm ns r hds
  | _, _ => false
/-- a def that calls what it got, and tells how that ended -/
def metB (nm : Nat → Str) (ns : Nms) (a : Str) (hs : List (Nat × Str)) (last : Str) : List Stmt → Bool
  | [.Try [.Expr (.Call (.Name x _) [] [] _) _] (hd :: hds) [] [] _, .Return (some (.Constant (.str t) _ _)) _] => (x == a) && okNm a && (t == last) && chkH nm ns hs (hd :: hds)
  | _ => false
/-- a def's promise; g: no repr is under way -/
structure FnOkZ (g : Bool) (P : Program) (w : World) (K : PySem.W.Frag) (mg : Str → Option Value) (base : Heap) (CX : CXT) (k : Nat) (f : Addr) (fd : FuncData) (ps : List Str) (sp : Sp) : Prop where
  len : ∀ vs H Q E, sp vs H Q E → vs.length = ps.length
  run : ∀ (A : Around) (outer : List Env) (s : Shared) (H : Hp) (args : Args) (us : List Value) (vs : List V) (Q : VK) (E : XK), (g = true → A.guards = some []) → Room k A → Env0 P w K mg base A outer s H → BindsTo s fd args (ps.zip us) → Vals vs us → sp vs H Q E →
    codeAny (model P w) A (.call (.ref f) args) (CR CX outer P w H s Q E) s
theorem FnOkZ.fnOk {P : Program} {w : World} {K : PySem.W.Frag} {mg : Str → Option Value} {base : Heap} {CX : CXT} {k : Nat} {f : Addr} {fd : FuncData} {ps : List Str} {sp : Sp} {g : Bool} (F : FnOkZ g P w K mg base CX k f fd ps sp) (h : g = false) : FnOk P w K mg base CX k f fd ps sp :=
  ⟨F.len, fun A outer s H args us vs Q E => F.run A outer s H args us vs Q E (fun z => by rw [h] at z; cases z)⟩
def spF (G : Gc) (F : List PV → PHeap → R PV) : Sp := fun vs H Q E => ∃ φ h ds, RelH G φ h H ∧ RepVs G φ H ds vs ∧ Post G φ H (F ds h) Q E
structure Scp (ns : Nms) (X : Cx) : Prop where
  loc : ∀ x, isK ns x .local = true → X.env.scope.names.lookup x = some .local
  cel : ∀ x, isK ns x .cell = true → X.env.scope.names.lookup x = some .cell ∧ X.fn x = true
  vis : ∀ x, isVis ns x = true → Vis X.env.scope x
  gl : ∀ x, isK ns x .globalImplicit = true → Gl X x
  cf : ∀ x, ns.lookup x = some .cell ∨ ns.lookup x = some .free → X.env.scope.names.lookup x = some .cell ∨ X.env.scope.names.lookup x = some .free
structure Glob (S : Sg) (G : Gc) (C : Orc) (k : Nat) (X : Cx) : Prop where
  K : G.K = X.K
  mg : G.mg = X.mg
  nm : G.nm = S.nm
  P : G.P = X.prog
  w : G.w = X.w
  sl : G.isSl = C.ct.isSl
  slo : G.slot = C.ct.slot
  fdl : G.fld = C.ct.fld
  nd : X.N.Nodup
  calm : X.calm = true
  room : Room (k + 1) X.A
  gd : S.gdH = true → X.A.guards = some []
  kind : X.env.scope.kind = .function
  fns : ∀ f ps fd, S.fn f = some (ps, fd) → S.glo f = true → ∃ a fdt, X.mg (S.nm f) = some (.ref a) ∧ PySem.W.keepIn X.K (.ref a) = true ∧ Binds X.K fdt ps [] ∧ FnOkZ (S.rp f) X.prog X.w X.K X.mg X.base (L2.CX X.prog X.w) k a fdt ps (spF G (C.call f))
  mks : ∀ c f ps fd, S.fn f = some (ps, fd) → S.init c = some f → ∃ D a fdt, X.mg (S.nm c) = some (.ref D) ∧ Mk X.K D a ∧ Binds X.K fdt ps [] ∧ FnOkZ (S.rp f) X.prog X.w X.K X.mg X.base (L2.CX X.prog X.w) k a fdt ps (spF G (C.call f))
  scl : ∀ c D, C.ct.isSl c = true → X.mg (S.nm c) = some (.ref D) → SlX.SCls X.K D
  sls : ∀ c f i D, C.ct.slot c f = some i → X.mg (S.nm c) = some (.ref D) → ∃ p, SlX.Slot1 X.K D (S.nm f) p i
  pcl : ∀ c f D, C.ct.isSl c = false → C.ct.fld c f = true → X.mg (S.nm c) = some (.ref D) → Cls X.K D ∧ NoAttr X.K D (S.nm f)
  inj : ∀ c f g i, C.ct.slot c f = some i → C.ct.slot c g = some i → f = g
  inn : ∀ c f g, C.ct.fld c f = true → C.ct.fld c g = true → S.nm f = S.nm g → f = g
  cst : ∀ x d, S.cst.lookup x = some d → ∃ u v, X.mg x = some u ∧ RelV v u ∧ ∀ φ H, RepV G φ H d v
  blt : ∀ x, S.blts.contains x = true → X.mg x = none
  exc : ∀ c, S.exc c = true → ∃ D, X.mg (S.nm c) = some (.ref D) ∧ PySem.W.keepIn X.K (.ref D) = true ∧ PySem.W.excIn X.K D [.type "ValueError", .type "Exception", .type "BaseException", .type "object"] "ValueError.__new__" = true ∧
    PySem.W.subIn X.K (.ref D) (.type "BaseException") = some true ∧ PySem.W.typeIn X.K (.ref D) = some (.type "type")
  exm : ∀ c d b, C.ct.exm c d = some b → ∃ D E, X.mg (S.nm c) = some (.ref D) ∧ X.mg (S.nm d) = some (.ref E) ∧ PySem.W.exmOne X.K (.ref D) (.ref E) = some b
  met : ∀ m, S.met m = true → ∃ hs last g fdt st a Ng, C.ct.met m = some (hs, last) ∧ X.mg (S.nm m) = some (.ref g) ∧ FunD X.K (S.nm m) (S.nm m) (defArgs st) (defBody st) (defScope st) [] [] g fdt ∧ Binds X.K fdt [a] [] ∧ FnScope Ng [a] (defScope st) ∧
    metB S.nm (defScope st).names a hs last (defBody st) = true ∧ ∀ p ∈ hs, ∃ E, X.mg (S.nm p.1) = some (.ref E)
  lam : S.lamH = true → Room (k + 3) X.A ∧ ∃ c P, X.env.code = .ref c ∧ LamX.TabB X.base X.mg c P ∧ (P, X.env.qual ++ "<lambda>") ∈ G.T ∧ ∀ p ∈ G.T, p.1 = P → p.2 = X.env.qual ++ "<lambda>"
section
variable {S : Sg} {G : Gc} {C : Orc} {k : Nat} {X : Cx}
/-- the context of a lambda's body -/
theorem Glob.lamC (g : Glob S G C k X) {A : Around} {outer : List Env} {s : Shared} {H : Hp} {E : XK} {sc : Scope} {f c' : Addr} (hk : sc.kind = .function) (hr : Room (k + 1) (A.deeper (LamX.lamEnv X sc s.heap.objs.size f c'))) : Glob S.low G C k (LamX.lamCx X A outer s H E sc f c') :=
  ⟨g.K, g.mg, g.nm, g.P, g.w, g.sl, g.slo, g.fdl, g.nd, rfl, hr, (fun z => nomatch z), hk, g.fns, g.mks, g.scl, g.sls, g.pcl, g.inj, g.inn, g.cst, g.blt, g.exc, g.exm, g.met, fun z => nomatch z⟩
theorem Scp.lamC {A : Around} {outer : List Env} {s : Shared} {H : Hp} {E : XK} {sc : Scope} {f c' : Addr} (L : LamX.LamS X.env.scope sc) : Scp sc.names (LamX.lamCx X A outer s H E sc f c') where
  loc := fun x h => by
    have h : sc.names.lookup x = some .local := by simpa [isK] using h
    exact h
  cel := fun x h => by
    have h : sc.names.lookup x = some .cell := by simpa [isK] using h
    exact absurd rfl (L.own (x, .cell) (lookup_mem0 h)).2
  vis := fun x h => by
    simp only [isVis, isK, Bool.or_eq_true, beq_iff_eq] at h
    rcases h with (h | h) | h
    · exact .inl h
    · exact .inr (.inl h)
    · exact .inr (.inr h)
  gl := fun x h => by
    have z : sc.names.lookup x = some .globalImplicit := by simpa [isK] using h
    exact z
  cf := fun x h => h
theorem Glob.blk (g : Glob S G C k X) {s : Shared} {H : Hp} {sc : Scope} {cl : List (Str × Addr)} {A : Addr} {fp : List Addr} (hk : sc.kind = .function) : Glob S G C k (X.blk s H sc (compEnvC sc cl A X.env) fp) :=
  ⟨g.K, g.mg, g.nm, g.P, g.w, g.sl, g.slo, g.fdl, g.nd, g.calm, g.room, g.gd, hk, g.fns, g.mks, g.scl, g.sls, g.pcl, g.inj, g.inn, g.cst, g.blt, g.exc, g.exm, g.met, g.lam⟩
theorem lookup_rel {env : Env} : ∀ {names : Nms} {x : Str} {kd : NameKind}, names.lookup x = some kd →
    (names.map fun (n, k) => if (k == NameKind.free && env.scope.kind == .function && env.kindOf n == some .cell) then (n, NameKind.cell) else (n, k)).lookup x = some kd ∨
    (kd = .free ∧ (names.map fun (n, k) => if (k == NameKind.free && env.scope.kind == .function && env.kindOf n == some .cell) then (n, NameKind.cell) else (n, k)).lookup x = some .cell)
  | [], _, _, h => by simp at h
  | (n, k) :: r, x, kd, h => by
    have ih := @lookup_rel env r x kd
    rw [List.map_cons, List.lookup_cons] at *
    by_cases e : x == n
    · rw [e] at h
      cases h
      by_cases c : (k == NameKind.free && env.scope.kind == .function && env.kindOf n == some .cell) = true
      · right
        simp only [c, if_true, e]
        simp only [Bool.and_eq_true, beq_iff_eq] at c
        exact ⟨c.1.1, trivial⟩
      · left
        simp only [c, Bool.false_eq_true, if_false, e]
    · have e' : (x == n) = false := by simpa using e
      rw [e'] at h
      have z : ∀ (q : Bool), (x == (if q = true then (n, NameKind.cell) else (n, k)).1) = false := fun q => by cases q <;> exact e'
      rw [z]
      exact ih h
theorem Scp.blk {s : Shared} {H : Hp} {sc : Scope} {cl : List (Str × Addr)} {A : Addr} {fp : List Addr} : Scp sc.names (X.blk s H sc (compEnvC sc cl A X.env) fp) where
  loc := fun x h => by
    have h : sc.names.lookup x = some .local := by simpa [isK] using h
    rcases lookup_rel (env := X.env) h with z | ⟨z, _⟩
    · exact z
    · cases z
  cel := fun x h => by
    have h : sc.names.lookup x = some .cell := by simpa [isK] using h
    refine ⟨?_, by show (sc.names.lookup x == some .cell) = true; rw [h]; rfl⟩
    rcases lookup_rel (env := X.env) h with z | ⟨z, _⟩
    · exact z
    · cases z
  gl := fun x h => by
    have h : sc.names.lookup x = some .globalImplicit := by simpa [isK] using h
    rcases lookup_rel (env := X.env) h with z | ⟨z, _⟩
    · exact z
    · cases z
  cf := fun x h => by
    rcases h with h | h
    · rcases lookup_rel (env := X.env) h with z | ⟨z, _⟩
      · exact .inl z
      · cases z
    · rcases lookup_rel (env := X.env) h with z | ⟨_, z⟩
      · exact .inr z
      · exact .inl z
  vis := fun x h => by
    simp only [isVis, isK, Bool.or_eq_true, beq_iff_eq] at h
    rcases h with (h | h) | h
    · rcases lookup_rel (env := X.env) h with z | ⟨z, _⟩
      · exact .inl z
      · cases z
    · rcases lookup_rel (env := X.env) h with z | ⟨z, _⟩
      · exact .inr (.inl z)
      · cases z
    · rcases lookup_rel (env := X.env) h with z | ⟨_, z⟩
      · exact .inr (.inr z)
      · exact .inr (.inl z)
end
end Zed
end
section
set_option Elab.async false
set_option linter.all false
set_option maxRecDepth 100000
namespace Zed
open PySem L2
section
variable {G : Gc} {W : WX} {X : Cx}
/-! ### syntax: small facts -/
theorem starEach_cons {e : Expr} {es : List Expr} {env : Env} (h : noStar e = true) : starEach (e :: es) env = (false, eval e env) :: starEach es env := by
  cases e <;> first | rfl | (cases h)
theorem isTrue_pl {e : Expr} {env : Env} (h1 : ∀ x p, e ≠ .UnaryOp .Not x p) (h2 : ∀ o v p, e ≠ .BoolOp o v p) (h3 : ∀ a b c p, e ≠ .IfExp a b c p) (h4 : ∀ a b c p, e ≠ .Compare a b c p) (whole : Sem Value) :
    PySem.isTrue e env whole = (do let v ← whole; standAt e.pos; holding [v] (truthy v)) := by
  cases e with
  | UnaryOp op x p => cases op <;> first | rfl | exact absurd rfl (h1 _ _)
  | BoolOp o v p => exact absurd rfl (h2 _ _ _)
  | IfExp a b c p => exact absurd rfl (h3 _ _ _ _)
  | Compare a b c p => exact absurd rfl (h4 _ _ _ _)
  | _ => rfl
theorem pw_of_pt {op : BoolOp} {vs : List Expr} {pos : Pos} {t : TT} (h : PT X (.BoolOp op vs pos) t) : PW X (.BoolOp op vs pos) t := ⟨fun whole pins s σ H Q I q => h.run pins s σ H Q I q⟩
theorem noSlice_plain {i : Expr} (h : noSlice i = true) : PlainIx i := by
  intro o j
  cases i <;> first | rfl | (cases h)
/-! ### from readings by functions to the layer's readings -/
theorem tVar_ev {C : Orc} {i : Nat} (σ : St) (H : Hp) (Q : VK) (t : tEv G W (evE C (.loc i)) σ H Q) : tVar i σ H Q := by
  obtain ⟨φ, l, h, rh, rl, p⟩ := t
  unfold evE at p
  split at p
  · rename_i d e
    obtain ⟨v, e1, e2⟩ := rl.2 i d e
    exact ⟨v, e1, p φ H v .refl rh e2⟩
  · exact p.elim
theorem tC_ev {C : Orc} {d : PV} {v : V} (r : ∀ φ H, RepV G φ H d v) (σ : St) (H : Hp) (Q : VK) (t : tEv G W (evE C (.con d)) σ H Q) : tC v σ H Q := by
  obtain ⟨φ, l, h, rh, rl, p⟩ := t
  unfold evE at p
  exact p φ H v .refl rh (r φ H)
theorem tNeg_ev {C : Orc} {a : Ex} (σ : St) (H : Hp) (Q : VK) (t : tEv G W (evE C (.neg a)) σ H Q) : tUn (rU fun i => V.int (-i)) (tEv G W (evE C a)) σ H Q := by
  obtain ⟨φ, l, h, rh, rl, p⟩ := t
  unfold evE at p
  refine ⟨φ, l, h, rh, rl, Post.mono (Post.bind p) fun v H1 ⟨φ1, h1, d1, x1, rh1, rv1, p1⟩ => ?_⟩
  cases rv1 <;> simp only at p1 <;> first | exact p1.elim | skip
  exact ⟨_, rfl, (Post.ext x1 p1) φ1 H1 _ .refl rh1 (.int _)⟩
theorem truthR_post {r : R PV} {φ : List Addr} {H : Hp} {Q : Bool → Hp → Prop} {E : XK} (p : PostT G φ H (truthR r) Q E) :
    Post G φ H r (fun v H1 => ∃ φ1 h1 d1 b, Ext φ H φ1 H1 ∧ RelH G φ1 h1 H1 ∧ RepV G φ1 H1 d1 v ∧ truthF h1 d1 = some b ∧ Q b H1) E := by
  refine Post.mono (Post.bindT p) fun v H1 ⟨φ1, h1, d1, x1, rh1, rv1, p1⟩ => ?_
  cases z : truthF h1 d1 with
  | none => simp only [z] at p1; exact p1.elim
  | some b => simp only [z] at p1; exact ⟨φ1, h1, d1, b, x1, rh1, rv1, z, p1 φ1 H1 x1 rh1⟩
/-- an expression as a test -/
theorem tTru_ev {f : Loc → PHeap → R PV} (σ : St) (H : Hp) (Q : Bool → Hp → Prop) (t : tEvT G W (fun l h => truthR (f l h)) σ H Q) : tEv G W f σ H fun x H' => ∃ k, TruV G.K x H' k ∧ Q k H' := by
  obtain ⟨φ, l, h, rh, rl, p⟩ := t
  exact ⟨φ, l, h, rh, rl, Post.mono (truthR_post p) fun v H1 ⟨φ1, h1, d1, b, x1, rh1, rv1, z, q⟩ => ⟨b, truth_Z rh1 rv1 z, q⟩⟩
theorem tTest_ev {f : Loc → PHeap → R PV} (hb : ∀ l h d h', f l h = .ok d h' → ∃ b, d = .bl b) (σ : St) (H : Hp) (Q : Bool → Hp → Prop) (t : tEvT G W (fun l h => truthR (f l h)) σ H Q) : tTest (tEv G W f) σ H Q := by
  obtain ⟨φ, l, h, rh, rl, p⟩ := t
  refine ⟨φ, l, h, rh, rl, ?_⟩
  have p : PostT G φ H (truthR (f l h)) Q (fun c d H' => W c d σ H') := p
  cases e : f l h with
  | ok d h' =>
    obtain ⟨b, rfl⟩ := hb _ _ _ _ e
    rw [e] at p
    intro φ' H' v x rh' rv
    cases rv
    exact ⟨b, rfl, p φ' H' x rh'⟩
  | exc c fs h' => rw [e] at p; exact p
  | stuck => rw [e] at p; exact p
theorem cmp_bl {fa fb : Loc → PHeap → R PV} {op : Cop} (l : Loc) (h : PHeap) (d : PV) (h' : PHeap) (e : ev2 fa fb (cmpF op) l h = .ok d h') : ∃ b, d = .bl b := by
  unfold ev2 at e
  cases e1 : fa l h with
  | ok x h1 =>
    rw [e1] at e
    simp only [R.bind_ok] at e
    cases e2 : fb l h1 with
    | ok y h2 =>
      rw [e2] at e
      simp only [R.bind_ok, cmpF] at e
      cases z : cmpB op h2 x y with
      | none => rw [z] at e; cases e
      | some b => rw [z] at e; cases e; exact ⟨b, rfl⟩
    | exc c fs h' => rw [e2] at e; cases e
    | stuck => rw [e2] at e; cases e
  | exc c fs h' => rw [e1] at e; cases e
  | stuck => rw [e1] at e; cases e
theorem tNot_ev {C : Orc} {a : Ex} (σ : St) (H : Hp) (Q : VK) (t : tEv G W (evE C (.not a)) σ H Q) : tNotT G.K (tEv G W (evE C a)) σ H Q := by
  obtain ⟨φ, l, h, rh, rl, p⟩ := t
  unfold evE at p
  have p2 : PostT G φ H (truthR (evE C a l h)) (fun b H1 => Q (.bl !b) H1) (fun c d H' => W c d σ H') := PostT.mono (PostT.bind p) fun b H1 ⟨φ1, h1, x1, rh1, p1⟩ => (Post.ext x1 p1) φ1 H1 _ .refl rh1 (.bl _)
  exact tTru_ev (f := evE C a) σ H (fun b H1 => Q (.bl !b) H1) ⟨φ, l, h, rh, rl, p2⟩
theorem tAnd_ev {C : Orc} {a b : Ex} (σ : St) (H : Hp) (Q : VK) (t : tEv G W (evE C (.and a b)) σ H Q) : tAndT G.K (tEv G W (evE C a)) (tEv G W (evE C b)) σ H Q := by
  obtain ⟨φ, l, h, rh, rl, p⟩ := t
  unfold evE at p
  refine ⟨φ, l, h, rh, rl, Post.mono (Post.bind p) fun v H1 ⟨φ1, h1, d1, x1, rh1, rv1, p1⟩ => ?_⟩
  split at p1
  · rename_i z
    exact ⟨true, truth_Z rh1 rv1 z, by rw [if_pos rfl]; exact ⟨φ1, l, h1, rh1, repL_ext rh x1 rl, Post.ext x1 p1⟩⟩
  · rename_i z
    refine ⟨false, truth_Z rh1 rv1 z, ?_⟩
    rw [if_neg Bool.false_ne_true]
    exact (Post.ext x1 p1) φ1 H1 _ .refl rh1 rv1
  · exact p1.elim
theorem tOr_ev {C : Orc} {a b : Ex} (σ : St) (H : Hp) (Q : VK) (t : tEv G W (evE C (.or a b)) σ H Q) : tOrT G.K (tEv G W (evE C a)) (tEv G W (evE C b)) σ H Q := by
  obtain ⟨φ, l, h, rh, rl, p⟩ := t
  unfold evE at p
  refine ⟨φ, l, h, rh, rl, Post.mono (Post.bind p) fun v H1 ⟨φ1, h1, d1, x1, rh1, rv1, p1⟩ => ?_⟩
  split at p1
  · rename_i z
    refine ⟨true, truth_Z rh1 rv1 z, ?_⟩
    rw [if_pos rfl]
    exact (Post.ext x1 p1) φ1 H1 _ .refl rh1 rv1
  · rename_i z
    refine ⟨false, truth_Z rh1 rv1 z, ?_⟩
    rw [if_neg Bool.false_ne_true]
    exact ⟨φ1, l, h1, rh1, repL_ext rh x1 rl, Post.ext x1 p1⟩
  · exact p1.elim
theorem tIte_ev {C : Orc} {c a b : Ex} (σ : St) (H : Hp) (Q : VK) (t : tEv G W (evE C (.ite c a b)) σ H Q) : tIf (tEvT G W (fun l h => truthR (evE C c l h))) (tEv G W (evE C a)) (tEv G W (evE C b)) σ H Q := by
  obtain ⟨φ, l, h, rh, rl, p⟩ := t
  unfold evE at p
  refine ⟨φ, l, h, rh, rl, PostT.mono (PostT.bind p) fun k H1 ⟨φ1, h1, x1, rh1, p1⟩ => ?_⟩
  cases k with
  | true => rw [if_pos rfl]; exact ⟨φ1, l, h1, rh1, repL_ext rh x1 rl, Post.ext x1 p1⟩
  | false => rw [if_neg Bool.false_ne_true]; exact ⟨φ1, l, h1, rh1, repL_ext rh x1 rl, Post.ext x1 p1⟩
theorem tChn_ev {C : Orc} {op op' : Cop} {a b c : Ex} (σ : St) (H : Hp) (Q : VK) (t : tEv G W (evE C (.chn op op' a b c)) σ H Q) :
    tChain (r2 G (cmpF op)) (r2 G (cmpF op')) (tEv G W (evE C a)) (tEv G W (evE C b)) (tEv G W (evE C c)) σ H Q := by
  obtain ⟨φ, l, h, rh, rl, p⟩ := t
  unfold evE at p
  refine ⟨φ, l, h, rh, rl, Post.mono (Post.bind p) fun v H1 ⟨φ1, h1, d1, x1, rh1, rv1, p1⟩ => ?_⟩
  refine ⟨φ1, l, h1, rh1, repL_ext rh x1 rl, Post.mono (Post.bind (Post.ext x1 p1)) fun w H2 ⟨φ2, h2, d2, x2, rh2, rv2, p2⟩ => ?_⟩
  have p3 := Post.bind (Post.ext x2 p2)
  obtain ⟨d3, h3, e3, q3⟩ := Post.lift p3
  refine ⟨φ2, h2, [d1, d2], d3, h3, rh2, .cons (repV_ext rh1 x2 rv1) (.cons rv2 .nil), e3, fun φ' H' z x rh' rz => ?_⟩
  obtain ⟨φ4, h4, d4, x4, rh4, rv4, p4⟩ := q3 φ' H' z x rh' rz
  clear q3
  split at p4
  · cases rv4
    refine ⟨true, rfl, ?_⟩
    rw [if_pos rfl]
    refine ⟨φ4, l, h4, rh4, repL_ext rh2 x4 (repL_ext rh1 x2 (repL_ext rh x1 rl)), Post.mono (Post.bind (Post.ext x4 p4)) fun y H5 ⟨φ5, h5, d5, x5, rh5, rv5, p5⟩ => ?_⟩
    obtain ⟨d6, h6, e6, q6⟩ := Post.lift (Post.ext x5 p5)
    exact ⟨φ5, h5, [d2, d5], d6, h6, rh5, .cons (repV_ext rh4 x5 (repV_ext rh2 x4 rv2)) (.cons rv5 .nil), e6, q6⟩
  · cases rv4
    refine ⟨false, rfl, ?_⟩
    rw [if_neg Bool.false_ne_true]
    exact (Post.ext x4 p4) φ4 H' _ .refl rh4 (.bl _)
  · exact p4.elim
theorem tTup_ev {C : Orc} {es : Exs} (σ : St) (H : Hp) (Q : VK) (t : tEv G W (evE C (.tup es)) σ H Q) : tTup (tEvA G W (evA C es)) σ H Q := by
  obtain ⟨φ, l, h, rh, rl, p⟩ := t
  unfold evE at p
  refine ⟨φ, l, h, rh, rl, PostA.mono (PostA.bind p) fun vs H1 ⟨φ1, h1, ds, x1, rh1, rv1, p1⟩ => ?_⟩
  split at p1
  · rename_i hz
    refine ⟨by rw [← rv1.length]; exact hz, ?_⟩
    exact new_tup rh1 rv1 (Post.ext x1 p1)
  · exact p1.elim
/-- .. and what is new is locked -/
def lkQ (Q : VK) : VK := fun v H' => ∃ d u, v = .ref d ∧ H' d = some u ∧ Mut (some u) ∧ ∀ od, Q v (upd H' d (.frz od u))
theorem lk_fl {Q : VK} {φ : List Addr} {h : PHeap} {H : Hp} {ds : List PV} {vs : List V} (r : RelH G φ h H) (rv : RepVs G φ H ds vs) (q : ∀ φ' H' v, Ext φ H φ' H' → RelH G φ' h H' → RepV G φ' H' (.fl ds) v → Q v H') :
    ∀ p, H p = none → lkQ Q (.ref p) (upd H p (.lst vs)) := fun p np => ⟨p, _, rfl, upd_same, trivial, new_fl r rv q p np⟩
theorem tLst_ev {C : Orc} {es : Exs} (σ : St) (H : Hp) (Q : VK) (t : tEv G W (evE C (.lst false es)) σ H Q) : tLst (tEvA G W (evA C es)) σ H Q := by
  obtain ⟨φ, l, h, rh, rl, p⟩ := t
  unfold evE at p
  refine ⟨φ, l, h, rh, rl, PostA.mono (PostA.bind p) fun vs H1 ⟨φ1, h1, ds, x1, rh1, rv1, p1⟩ => ?_⟩
  split at p1
  · rename_i hz
    refine ⟨by rw [← rv1.length]; exact hz, ?_⟩
    exact new_lst rh1 rv1 (Post.ext x1 p1)
  · exact p1.elim
theorem tLstF_ev {C : Orc} {es : Exs} (σ : St) (H : Hp) (Q : VK) (t : tEv G W (evE C (.lst true es)) σ H Q) : tLst (tEvA G W (evA C es)) σ H (lkQ Q) := by
  obtain ⟨φ, l, h, rh, rl, p⟩ := t
  unfold evE at p
  refine ⟨φ, l, h, rh, rl, PostA.mono (PostA.bind p) fun vs H1 ⟨φ1, h1, ds, x1, rh1, rv1, p1⟩ => ?_⟩
  split at p1
  · rename_i hz
    refine ⟨by rw [← rv1.length]; exact hz, ?_⟩
    exact lk_fl rh1 rv1 (Post.ext x1 p1)
  · exact p1.elim
theorem tCall_ev {C : Orc} {f : Nat} {es : Exs} (σ : St) (H : Hp) (Q : VK) (t : tEv G W (evE C (.call f es)) σ H Q) : tCallS (spF G (C.call f)) (WE W) (tEvA G W (evA C es)) σ H Q := by
  obtain ⟨φ, l, h, rh, rl, p⟩ := t
  unfold evE at p
  refine ⟨φ, l, h, rh, rl, PostA.mono (PostA.bind p) fun vs H1 ⟨φ1, h1, ds, x1, rh1, rv1, p1⟩ => ?_⟩
  exact ⟨φ1, h1, ds, rh1, rv1, Post.ext x1 p1⟩
theorem tBlt_ev {C : Orc} {b : Bi} {es : Exs} (σ : St) (H : Hp) (Q : VK) (t : tEv G W (evE C (.blt b es)) σ H Q) : tCB (rP G (bltF b)) (tEvA G W (evA C es)) σ H Q := tCB_ev (fa := evA C es) (F := bltF b) σ H Q t
def PostO (G : Gc) (φ : List Addr) (H : Hp) (r : R (Option Int)) (Q : Option Int → Hp → Prop) (E : XK) : Prop :=
  match r with
  | .ok d h' => ∀ φ' H', Ext φ H φ' H' → RelH G φ' h' H' → Q d H'
  | .exc c fs h' => ∀ φ' H' cls dd, Ext φ H φ' H' → RelH G φ' h' H' → RepX G φ' H' c fs cls dd → E cls dd H'
  | .stuck => False
def tEvO (G : Gc) (W : WX) (f : Loc → PHeap → R (Option Int)) : TO := fun σ H Q =>
  ∃ φ l h, RelH G φ h H ∧ RepL G φ H l σ ∧ PostO G φ H (f l h) Q (fun c d H' => W c d σ H')
theorem PostO.bind {φ : List Addr} {H : Hp} {r : R (Option Int)} {k : Option Int → PHeap → R PV} {Q : VK} {E : XK} (p : Post G φ H (r.bind k) Q E) :
    PostO G φ H r (fun b H1 => ∃ φ1 h1, Ext φ H φ1 H1 ∧ RelH G φ1 h1 H1 ∧ Post G φ H (k b h1) Q E) E := by
  cases r with
  | ok d h' => exact fun φ' H' x rh => ⟨φ', h', x, rh, p⟩
  | exc c fs h' => exact p
  | stuck => exact p
theorem PostO.mono {φ : List Addr} {H : Hp} {r : R (Option Int)} {Q Q' : Option Int → Hp → Prop} {E : XK} (p : PostO G φ H r Q E) (hq : ∀ v H', Q v H' → Q' v H') : PostO G φ H r Q' E := by
  cases r with
  | ok d h' => exact fun φ' H' x1 rh => hq _ _ (p φ' H' x1 rh)
  | exc c fs h' => exact p
  | stuck => exact p
theorem tNoPart_ev {C : Orc} (σ : St) (H : Hp) (Q : Option Int → Hp → Prop) (t : tEvO G W (evOp C .no) σ H Q) : tNoPart σ H Q := by
  obtain ⟨φ, l, h, rh, rl, p⟩ := t
  unfold evOp at p
  exact p φ H .refl rh
theorem tPart_ev {C : Orc} {e : Ex} (σ : St) (H : Hp) (Q : Option Int → Hp → Prop) (t : tEvO G W (evOp C (.yes e)) σ H Q) : tPart (tEv G W (evE C e)) σ H Q := by
  obtain ⟨φ, l, h, rh, rl, p⟩ := t
  unfold evOp at p
  refine ⟨φ, l, h, rh, rl, ?_⟩
  cases z : evE C e l h with
  | ok d h' =>
    rw [z] at p
    intro φ' H' v x rh' rv
    cases rv <;> simp only [optI] at p <;> first | exact p.elim | skip
    exact ⟨_, rfl, p φ' H' x rh'⟩
  | exc c fs h' => rw [z] at p; exact p
  | stuck => rw [z] at p; exact p
theorem tSlc_ev {C : Orc} {o : Ex} {lo hi : Op} (σ : St) (H : Hp) (Q : VK) (t : tEv G W (evE C (.slc o lo hi)) σ H Q) : tSl (rSlZ G) (tEv G W (evE C o)) (tEvO G W (evOp C lo)) (tEvO G W (evOp C hi)) σ H Q := by
  obtain ⟨φ, l, h, rh, rl, p⟩ := t
  unfold evE at p
  refine ⟨φ, l, h, rh, rl, Post.mono (Post.bind p) fun v H1 ⟨φ1, h1, d1, x1, rh1, rv1, p1⟩ => ?_⟩
  have rl1 := repL_ext rh x1 rl
  refine ⟨φ1, l, h1, rh1, rl1, PostO.mono (PostO.bind (Post.ext x1 p1)) fun a H2 ⟨φ2, h2, x2, rh2, p2⟩ => ?_⟩
  have rl2 := repL_ext rh1 x2 rl1
  refine ⟨φ2, l, h2, rh2, rl2, PostO.mono (PostO.bind (Post.ext x2 p2)) fun b H3 ⟨φ3, h3, x3, rh3, p3⟩ => ?_⟩
  obtain ⟨d4, h4, e4, q4⟩ := Post.lift (Post.ext x3 p3)
  exact ⟨φ3, h3, d1, d4, h4, rh3, repV_ext rh2 x3 (repV_ext rh1 x2 rv1), e4, q4⟩
end
end Zed
end
section
set_option Elab.async false
set_option linter.all false
set_option maxRecDepth 100000
namespace Zed
open PySem L2
section
variable {G : Gc} {W : WX} {X : Cx} {φ φ' : List Addr} {h h' : PHeap} {H H' : Hp} {l : Loc} {σ : St} {D : Addr}
/-! ### targets -/
def Upd (is : List Nat) (σ σ' : St) : Prop := σ'.length = σ.length ∧ ∀ i, i ∉ is → σ'[i]? = σ[i]?
theorem wipe_upd {is : List Nat} {σ σ' : St} (u : Upd is σ σ') : ∀ {vs : List Nat}, (∀ i, i ∈ is → i ∈ vs) → wipe σ' vs = wipe σ vs := by
  have get : ∀ (vs : List Nat) (τ : St) (i : Nat), (wipe τ vs)[i]? = if i ∈ vs then (if i < τ.length then some none else none) else τ[i]? := by
    intro vs τ
    induction vs with
    | nil => intro i; simp [wipe]
    | cons v vs ih =>
      intro i
      show ((wipe τ vs).set v none)[i]? = _
      by_cases e : v = i
      · subst e
        rw [if_pos List.mem_cons_self, List.getElem?_set_self', ih]
        by_cases hm : v ∈ vs
        · rw [if_pos hm]; split <;> rfl
        · rw [if_neg hm]
          by_cases hv : v < τ.length
          · rw [if_pos hv, List.getElem?_eq_getElem hv]; rfl
          · rw [if_neg hv, List.getElem?_eq_none (by omega)]; rfl
      · rw [List.getElem?_set_ne e, ih]
        by_cases hm : i ∈ vs
        · rw [if_pos hm, if_pos (List.mem_cons_of_mem _ hm)]
        · rw [if_neg hm, if_neg (by simp only [List.mem_cons, not_or]; exact ⟨fun q => e q.symm, hm⟩)]
  intro vs hs
  apply List.ext_getElem?
  intro i
  rw [get, get]
  by_cases hm : i ∈ vs
  · rw [if_pos hm, if_pos hm, u.1]
  · rw [if_neg hm, if_neg hm]
    exact u.2 i fun q => hm (hs i q)
def gEv (G : Gc) (t : Tg) : TG := fun v σ H Q => ∃ φ h l d l', RelH G φ h H ∧ RepL G φ H l σ ∧ RepV G φ H d v ∧ bindT t d l = some l' ∧ ∀ σ', RepL G φ H l' σ' → Upd (slotsT t) σ σ' → Q σ' H
def gEvs (G : Gc) (t : Tgs) : TGs := fun vs σ H Q => ∃ φ h l ds l', RelH G φ h H ∧ RepL G φ H l σ ∧ RepVs G φ H ds vs ∧ bindTs t ds l = some l' ∧ ∀ σ', RepL G φ H l' σ' → Upd (slotsTs t) σ σ' → Q σ' H
theorem assignEach_cons {e : Expr} {es : List Expr} {env : Env} (h : noStar e = true) : assignEach (e :: es) env = (false, assign e env) :: assignEach es env := by
  cases e <;> first | rfl | (cases h)
theorem assignEach_noStar {ns : Nms} {N : List Str} : ∀ {ts : Tgs} {es : List Expr} {env : Env}, chkGs N ns ts es = true → (assignEach es env).findIdx? (fun x => x.1) = none ∧ (assignEach es env).length = es.length
  | .nil, [], env, _ => ⟨rfl, rfl⟩
  | .nil, _ :: _, _, c => by simp [chkGs] at c
  | .cons _ _, [], _, c => by simp [chkGs] at c
  | .cons t ts, e :: es, env, c => by
    simp only [chkGs, Bool.and_eq_true] at c
    obtain ⟨i1, i2⟩ := assignEach_noStar (env := env) c.2
    rw [assignEach_cons c.1.1]
    refine ⟨?_, by simp [i2]⟩
    rw [List.findIdx?_cons]
    simp [i1]
theorem Upd.trans {is js : List Nat} {σ σ1 σ2 : St} (a : Upd is σ σ1) (b : Upd js σ1 σ2) : Upd (is ++ js) σ σ2 :=
  ⟨b.1.trans a.1, fun i hi => by
    rw [List.mem_append, not_or] at hi
    exact (b.2 i hi.2).trans (a.2 i hi.1)⟩
theorem lenT : ∀ {ts : Tgs} {ds : List PV} {l l' : Loc}, bindTs ts ds l = some l' → ∀ {N : List Str} {ns : Nms} {es : List Expr}, chkGs N ns ts es = true → ds.length = es.length
  | .nil, [], _, _, _, _, _, [], _ => rfl
  | .nil, [], _, _, _, _, _, _ :: _, c => by simp [chkGs] at c
  | .nil, _ :: _, _, _, e, _, _, _, _ => by simp [bindTs] at e
  | .cons _ _, [], _, _, e, _, _, _, _ => by simp [bindTs] at e
  | .cons _ _, _ :: _, _, _, _, _, _, [], c => by simp [chkGs] at c
  | .cons t ts, d :: ds, l, l', e, N, ns, x :: es, c => by
    simp only [bindTs] at e
    simp only [chkGs, Bool.and_eq_true] at c
    split at e
    · rename_i l1 h1
      have := lenT e c.2
      simp [this]
    · cases e
mutual
theorem soundG : ∀ (t : Tg) {X : Cx} {ns : Nms} {e : Expr}, G.K = X.K → X.N.Nodup → X.calm = true → Scp ns X → chkG X.N ns t e = true → PG X e (gEv G t)
  | .nm i, X, ns, e, hK, nd, hc, sp, c => by
    unfold chkG at c
    split at c
    · rename_i i' x pos hh
      cases hh
      simp only [Bool.and_eq_true, beq_iff_eq] at c
      have lc : L2.Loc X.env.scope x ∧ (X.fn x = true ∨ X.env.scope.names.lookup x = some .local) := by
        rcases Bool.or_eq_true _ _ ▸ c.2 with z | z
        · exact ⟨.inl (sp.loc x z), .inr (sp.loc x z)⟩
        · exact ⟨.inr (sp.cel x z).1, .inl (sp.cel x z).2⟩
      have g := pg_name (pos := pos) nd c.1 lc.1 lc.2
      refine ⟨fun pins s σ H v u Q I rv q => g.run pins s σ H v u Q I rv ?_⟩
      obtain ⟨φ, h, l, d, l', rh, rl, rd, eb, q⟩ := q
      simp only [bindT] at eb
      split at eb
      · cases eb
        refine q _ (rl.set rd) ⟨by simp, fun j hj => ?_⟩
        have : i ≠ j := fun z => hj (by simp [slotsT, z])
        exact List.getElem?_set_ne this
      · cases eb
    · rename_i hh; cases hh
    · cases c
  | .tp ts, X, ns, e, hK, nd, hc, sp, c => by
    unfold chkG at c
    split at c
    · rename_i hh; cases hh
    · rename_i ts' es kk pos hh
      cases hh
      obtain ⟨i1, i2⟩ := assignEach_noStar (env := X.env) c
      have g := pg_tup (pos := pos) (k := kk) (n := es.length) hc (soundGs ts hK nd hc sp c) i2 i1
      refine ⟨fun pins s σ H v u Q I rv q => g.run pins s σ H v u Q I rv ?_⟩
      obtain ⟨φ, h, l, d, l', rh, rl, rd, eb, q⟩ := q
      cases rd <;> simp only [bindT] at eb <;> first | (cases eb; done) | skip
      rename_i a vs ds s1 q1
      refine ⟨a, vs, rfl, hK ▸ s1, ?_, φ, h, l, ds, l', rh, rl, q1, eb, q⟩
      rw [← q1.length]
      exact lenT eb c
    · cases c
theorem soundGs : ∀ (t : Tgs) {X : Cx} {ns : Nms} {es : List Expr}, G.K = X.K → X.N.Nodup → X.calm = true → Scp ns X → chkGs X.N ns t es = true → PGs X es (gEvs G t)
  | .nil, X, ns, es, hK, nd, hc, sp, c => by
    cases es with
    | cons _ _ => simp [chkGs] at c
    | nil =>
      have g := pgs_nil (X := X)
      refine ⟨fun pins s σ H v u Q I rv q => g.run pins s σ H v u Q I rv ?_⟩
      obtain ⟨φ, h, l, ds, l', rh, rl, rd, eb, q⟩ := q
      cases ds with
      | cons _ _ => simp [bindTs] at eb
      | nil =>
        simp only [bindTs] at eb
        cases eb
        cases rd
        exact ⟨rfl, q σ rl ⟨rfl, fun _ _ => rfl⟩⟩
  | .cons t ts, X, ns, es, hK, nd, hc, sp, c => by
    cases es with
    | nil => simp [chkGs] at c
    | cons e es =>
      simp only [chkGs, Bool.and_eq_true] at c
      have g := pgs_cons (soundG t hK nd hc sp c.1.2) (soundGs ts hK nd hc sp c.2) (by rw [assignEach_cons c.1.1]; rfl)
      refine ⟨fun pins s σ H v u Q I rv q => g.run pins s σ H v u Q I rv ?_⟩
      obtain ⟨φ, h, l, ds, l', rh, rl, rd, eb, q⟩ := q
      cases ds with
      | nil => simp [bindTs] at eb
      | cons d ds =>
        cases rd with
        | cons r1 r2 =>
          simp only [bindTs] at eb
          split at eb
          · rename_i l1 e1
            refine ⟨_, _, rfl, φ, h, l, d, l1, rh, rl, r1, e1, fun σ1 rl1 u1 => ?_⟩
            exact ⟨φ, h, l1, ds, l', rh, rl1, r2, eb, fun σ2 rl2 u2 => q σ2 rl2 (u1.trans u2)⟩
          · cases eb
end
end
end Zed
end
section
set_option Elab.async false
set_option linter.all false
set_option maxRecDepth 100000
namespace Zed
open PySem L2
section
variable {G : Gc} {W : WX} {X : Cx} {φ φ' : List Addr} {h h' : PHeap} {H H' : Hp} {l : Loc} {σ : St} {D : Addr}
/-! ### what is walked -/
def ItOk (G : Gc) (φ0 : List Addr) (H0 : Hp) (src : Src) (J : It) : Prop :=
  ∀ φ h H, Ext φ0 H0 φ H → RelH G φ h H → ∀ i, (srcAt h i src = some none → J.stop i H) ∧ ∀ d, srcAt h i src = some (some d) → J.go i H ∧ ∀ x H', J.yld i H x H' → Ext φ H φ H' ∧ RelH G φ h H' ∧ RepV G φ H' d x
def PostI (G : Gc) (φ : List Addr) (H : Hp) (r : R Src) (Q : It → Hp → Prop) (E : XK) : Prop :=
  match r with
  | .ok src h' => ∀ φ' H' J, Ext φ H φ' H' → RelH G φ' h' H' → ItOk G φ' H' src J → Q J H'
  | .exc c fs h' => ∀ φ' H' cls dd, Ext φ H φ' H' → RelH G φ' h' H' → RepX G φ' H' c fs cls dd → E cls dd H'
  | .stuck => False
def iEv (G : Gc) (W : WX) (f : Loc → PHeap → R Src) : TI := fun σ H R =>
  ∃ φ l h, RelH G φ h H ∧ RepL G φ H l σ ∧ PostI G φ H (f l h) R (fun c d H' => W c d σ H')
theorem PostI.ext {φ1 : List Addr} {H1 : Hp} {r : R Src} {Q : It → Hp → Prop} {E : XK} (x : Ext φ H φ1 H1) (p : PostI G φ H r Q E) : PostI G φ1 H1 r Q E := by
  cases r with
  | ok d h' => exact fun φ' H' v x1 rh rv => p φ' H' v (x.trans x1) rh rv
  | exc c fs h' => exact fun φ' H' cls dd x1 rh rx => p φ' H' cls dd (x.trans x1) rh rx
  | stuck => exact p
theorem it_tup {a : Addr} {ds : List PV} {vs : List V} (rh : RelH G φ h H) (s : SqT G.K H a vs) (q : RepVs G φ H ds vs) : ItOk G φ H (.seq ds) (Itt G.K a) := by
  intro φ1 h1 H1 x rh1 i
  have s1 := sqT_ext rh x s
  have q1 := repVs_ext rh x q
  refine ⟨fun e => ?_, fun d e => ?_⟩
  · simp only [srcAt, Option.some.injEq] at e
    exact ⟨vs, s1, by rw [← q1.length]; exact List.getElem?_eq_none_iff.mp e⟩
  · simp only [srcAt, Option.some.injEq] at e
    obtain ⟨v, e1, r⟩ := q1.get e
    refine ⟨⟨vs, v, s1, e1⟩, fun y H' ⟨hh, f⟩ => ?_⟩
    subst hh
    have := f vs s1
    rw [e1] at this
    cases this
    exact ⟨.refl, rh1, r⟩
theorem it_fl {a : Addr} {ds : List PV} {vs : List V} (rh : RelH G φ h H) (s : FzL G.K H a vs) (q : RepVs G φ H ds vs) : ItOk G φ H (.seq ds) (Itl G.K a) := by
  intro φ1 h1 H1 x rh1 i
  have s1 := (fzL_ext rh x s).sq
  have q1 := repVs_ext rh x q
  refine ⟨fun e => ?_, fun d e => ?_⟩
  · simp only [srcAt, Option.some.injEq] at e
    exact ⟨vs, s1, by rw [← q1.length]; exact List.getElem?_eq_none_iff.mp e⟩
  · simp only [srcAt, Option.some.injEq] at e
    obtain ⟨v, e1, r⟩ := q1.get e
    refine ⟨⟨vs, v, s1, e1⟩, fun y H' ⟨hh, f⟩ => ?_⟩
    subst hh
    have := f vs s1
    rw [e1] at this
    cases this
    exact ⟨.refl, rh1, r⟩
theorem it_lst {a : Addr} {r : Nat} (hr : φ[r]? = some a) : ItOk G φ H (.lst r) (Itl G.K a) := by
  intro φ1 h1 H1 x rh1 i
  have hr1 := pre_get x.pre hr
  refine ⟨fun e => ?_, fun d e => ?_⟩
  · simp only [srcAt] at e
    split at e
    · rename_i ds hx
      obtain ⟨vs, e1, q⟩ := rh1.obj r _ a hx hr1
      simp only [Option.some.injEq] at e
      exact ⟨vs, SqL.of e1, by rw [← q.length]; exact List.getElem?_eq_none_iff.mp e⟩
    · cases e
  · simp only [srcAt] at e
    split at e
    · rename_i ds hx
      obtain ⟨vs, e1, q⟩ := rh1.obj r _ a hx hr1
      simp only [Option.some.injEq] at e
      obtain ⟨v, e2, r⟩ := q.get e
      refine ⟨⟨vs, v, SqL.of e1, e2⟩, fun y H' ⟨hh, f⟩ => ?_⟩
      subst hh
      have := f vs (SqL.of e1)
      rw [e2] at this
      cases this
      exact ⟨.refl, rh1, r⟩
    · cases e
theorem it_str {x : Str} : ItOk G φ H (.seq (x.cps.toList.map fun c => .str ⟨#[c]⟩)) (Its x) := by
  intro φ1 h1 H1 x1 rh1 i
  have g : ∀ i : Nat, (x.cps.toList.map fun c => PV.str ⟨#[c]⟩)[i]? = x.cps[i]?.map fun c => PV.str ⟨#[c]⟩ := fun i => by
    rw [List.getElem?_map, Array.getElem?_toList]
  refine ⟨fun e => ?_, fun d e => ?_⟩
  · simp only [srcAt, Option.some.injEq] at e
    rw [g] at e
    cases z : x.cps[i]? with
    | none => exact Array.getElem?_eq_none_iff.mp z
    | some c => rw [z] at e; cases e
  · simp only [srcAt, Option.some.injEq] at e
    rw [g] at e
    cases z : x.cps[i]? with
    | none => rw [z] at e; cases e
    | some c =>
      rw [z] at e
      cases e
      refine ⟨(Array.getElem?_eq_some_iff.mp z).1, fun y H' ⟨hh, c', e2, e3⟩ => ?_⟩
      subst hh
      rw [z] at e2
      cases e2
      rw [e3]
      exact ⟨.refl, rh1, .str _⟩
theorem it_rng {lo : Int} {n : Nat} : ItOk G φ H (.seq ((List.range n).map fun (i : Nat) => .int (lo + i))) (L2.Itr lo n) := by
  intro φ1 h1 H1 x1 rh1 i
  have g : ∀ i : Nat, ((List.range n).map fun (i : Nat) => PV.int (lo + i))[i]? = if i < n then some (PV.int (lo + i)) else none := fun i => by
    rw [List.getElem?_map]
    by_cases z : i < n
    · rw [if_pos z, List.getElem?_range z]; rfl
    · rw [if_neg z, List.getElem?_eq_none (by simp; omega)]; rfl
  refine ⟨fun e => ?_, fun d e => ?_⟩
  · simp only [srcAt, Option.some.injEq] at e
    rw [g] at e
    split at e
    · cases e
    · show n ≤ i; omega
  · simp only [srcAt, Option.some.injEq] at e
    rw [g] at e
    split at e
    · rename_i hz
      cases e
      refine ⟨hz, fun y H' ⟨hh, e3⟩ => ?_⟩
      subst hh
      rw [e3]
      exact ⟨.refl, rh1, .int _⟩
    · cases e
theorem postI_val {f : Loc → PHeap → R PV} {R' : It → Hp → Prop} {E : XK} (p : PostI G φ H ((f l h).bind fun d h1 => srcR (srcOf h1 d) h1) R' E) :
    Post G φ H (f l h) (fun v H1 => ∃ φ1 h1 d1 src, Ext φ H φ1 H1 ∧ RelH G φ1 h1 H1 ∧ RepV G φ1 H1 d1 v ∧ f l h = .ok d1 h1 ∧ srcOf h1 d1 = some src ∧ ∀ J, ItOk G φ1 H1 src J → R' J H1) E := by
  cases e : f l h with
  | ok d h' =>
    rw [e] at p
    simp only [R.bind_ok] at p
    intro φ' H' v x rh rv
    cases z : srcOf h' d with
    | none => rw [z] at p; exact p.elim
    | some src => rw [z] at p; exact ⟨φ', h', d, src, x, rh, rv, rfl, z, fun J hj => p φ' H' J x rh hj⟩
  | exc c fs h' => rw [e] at p; exact p
  | stuck => rw [e] at p; exact p
/-- a walked value: by what it is -/
theorem pi_valZ {tg e : Expr} {f : Loc → PHeap → R PV} (hK : G.K = X.K) (he : PE X e (tEv G W f)) : PI X tg e (iEv G W fun l h => (f l h).bind fun d h1 => srcR (srcOf h1 d) h1) := by
  refine ⟨fun pins s σ H R' I q => ?_⟩
  obtain ⟨φ, l, h, rh, rl, p⟩ := q
  have p2 := postI_val p
  -- by the value's kind
  cases ev : f l h with
  | stuck => rw [ev] at p2; exact p2.elim
  | exc c fs h' =>
    rw [ev] at p2
    refine (pi_tup he).run pins s σ H R' I ⟨φ, l, h, rh, rl, ?_⟩
    rw [ev]; exact p2
  | ok d h1 =>
    cases z : srcOf h1 d with
    | none =>
      have p : PostI G φ H ((f l h).bind fun d h1 => srcR (srcOf h1 d) h1) R' (fun c d H' => W c d σ H') := p
      rw [ev] at p
      simp only [R.bind_ok] at p
      rw [z] at p
      exact p.elim
    | some src =>
      cases d with
      | tup ds =>
        refine (pi_tup he).run pins s σ H R' I ⟨φ, l, h, rh, rl, ?_⟩
        refine Post.mono p2 fun v H1 ⟨φ1, h2, d1, src1, x, rh1, rv, e1, e2, k⟩ => ?_
        rw [ev] at e1; cases e1
        simp only [srcOf] at e2; cases e2
        cases rv with
        | tup s1 q1 => exact ⟨_, rfl, ⟨_, hK ▸ s1⟩, hK ▸ k _ (it_tup rh1 s1 q1)⟩
      | fz ob =>
        cases ob <;> first | (simp only [srcOf] at z; cases z; done) | skip
        refine (pi_list he).run pins s σ H R' I ⟨φ, l, h, rh, rl, ?_⟩
        refine Post.mono p2 fun v H1 ⟨φ1, h2, d1, src1, x, rh1, rv, e1, e2, k⟩ => ?_
        rw [ev] at e1; cases e1
        simp only [srcOf] at e2; cases e2
        cases rv with
        | fl s1 q1 => exact ⟨_, rfl, ⟨_, hK ▸ s1.sq⟩, hK ▸ k _ (it_fl rh1 s1 q1)⟩
      | str y =>
        refine (pi_str he).run pins s σ H R' I ⟨φ, l, h, rh, rl, ?_⟩
        refine Post.mono p2 fun v H1 ⟨φ1, h2, d1, src1, x, rh1, rv, e1, e2, k⟩ => ?_
        rw [ev] at e1; cases e1
        simp only [srcOf] at e2; cases e2
        cases rv
        exact ⟨_, rfl, k _ it_str⟩
      | ref r =>
        refine (pi_list he).run pins s σ H R' I ⟨φ, l, h, rh, rl, ?_⟩
        refine Post.mono p2 fun v H1 ⟨φ1, h2, d1, src1, x, rh1, rv, e1, e2, k⟩ => ?_
        rw [ev] at e1; cases e1
        simp only [srcOf] at e2
        split at e2
        · rename_i ds hx
          cases e2
          cases rv with
          | ref hr =>
            obtain ⟨vs, e3, q3⟩ := rh1.obj r _ _ hx hr
            exact ⟨_, rfl, ⟨vs, SqL.of e3⟩, hK ▸ k _ (it_lst hr)⟩
        · cases e2
      | _ => simp only [srcOf] at z; cases z
theorem iRng1_ev {C : Orc} {e : Ex} (σ : St) (H : Hp) (R' : It → Hp → Prop) (t : iEv G W (evI C (.rng1 e)) σ H R') : iRng1 (tEvA G W (evCons (evE C e) evNil)) σ H R' := by
  obtain ⟨φ, l, h, rh, rl, p⟩ := t
  unfold evI at p
  refine ⟨φ, l, h, rh, rl, ?_⟩
  unfold evCons evNil
  cases z : evE C e l h with
  | ok d h1 =>
    rw [z] at p
    simp only [R.bind_ok] at p ⊢
    intro φ' H' vs x rh' rv
    obtain ⟨v, rfl, r⟩ := repVs_one rv
    split at p
    · rename_i j
      cases r
      unfold rngOf srcR at p
      split at p
      · rename_i s1 hs
        split at hs
        · rename_i hz
          cases hs
          refine ⟨j, rfl, hz.2.2.1, hz.2.2.2, p φ' H' _ x rh' ?_⟩
          have := it_rng (G := G) (φ := φ') (H := H') (lo := 0) (n := j.toNat)
          simpa using this
        · cases hs
      · exact p.elim
    · exact p.elim
  | exc c fs h' => rw [z] at p; exact p
  | stuck => rw [z] at p; exact p
theorem iRng2_ev {C : Orc} {a b : Ex} (σ : St) (H : Hp) (R' : It → Hp → Prop) (t : iEv G W (evI C (.rng2 a b)) σ H R') : iRng2 (tEvA G W (evCons (evE C a) (evCons (evE C b) evNil))) σ H R' := by
  obtain ⟨φ, l, h, rh, rl, p⟩ := t
  unfold evI at p
  refine ⟨φ, l, h, rh, rl, ?_⟩
  unfold evCons evNil
  cases z : evE C a l h with
  | ok d h1 =>
    rw [z] at p
    simp only [R.bind_ok] at p ⊢
    cases z2 : evE C b l h1 with
    | ok e h2 =>
      rw [z2] at p
      simp only [R.bind_ok] at p ⊢
      intro φ' H' vs x rh' rv
      obtain ⟨v, w, rfl, r, r'⟩ := repVs_two rv
      split at p
      · rename_i i j
        cases r; cases r'
        unfold rngOf srcR at p
        split at p
        · rename_i s1 hs
          split at hs
          · rename_i hz
            cases hs
            exact ⟨i, j, rfl, hz, p φ' H' _ x rh' it_rng⟩
          · cases hs
        · exact p.elim
      · exact p.elim
    | exc c fs h' => rw [z2] at p; exact p
    | stuck => rw [z2] at p; exact p
  | exc c fs h' => rw [z] at p; exact p
  | stuck => rw [z] at p; exact p
/-! ### comprehensions -/
mutual
theorem repV_pre (pr : φ <+: φ') (hn : ∀ b, b ∈ φ' → b ∉ φ → ∃ xs, H b = some (.lst xs)) : ∀ {d : PV} {v : V}, RepV G φ H d v → RepV G φ' H d v
  | _, _, .non => .non
  | _, _, .bl b => .bl b
  | _, _, .int i => .int i
  | _, _, .str s => .str s
  | _, _, .ty n => .ty n
  | _, _, .tup s q => .tup s (repVs_pre pr hn q)
  | _, _, .fl s q => .fl s (repVs_pre pr hn q)
  | _, _, .fdK (ob := _) z e q => .fdK z e (repKs_pre pr hn q)
  | _, _, .fdN (ob := _) z ne e m nd q => .fdN z ne e m nd (repEs_pre pr hn q)
  | _, _, .fset (ob := _) z e p l => .fset z e p l
  | _, _, .fiP vs u n c s e l k q w => .fiP vs u (fun hm => by obtain ⟨xs, z⟩ := hn _ hm n; rw [e] at z; cases z) c s e l k (fun f d hf => repV_pre pr hn (q f d hf)) w
  | _, _, .fiS vs u n c s e l k q => .fiS vs u (fun hm => by
      obtain ⟨xs, z⟩ := hn _ hm n
      rcases e with ⟨e, _⟩ | ⟨e, _⟩ <;> (rw [e] at z; cases z)) c s e l k (fun f d hf => repV_pre pr hn (q f d hf))
  | _, _, .scr e => .scr e
  | _, _, .ref e => .ref (pre_get pr e)
  | _, _, .gl e => .gl e
theorem repVs_pre (pr : φ <+: φ') (hn : ∀ b, b ∈ φ' → b ∉ φ → ∃ xs, H b = some (.lst xs)) : ∀ {ds : List PV} {vs : List V}, RepVs G φ H ds vs → RepVs G φ' H ds vs
  | _, _, .nil => .nil
  | _, _, .cons a b => .cons (repV_pre pr hn a) (repVs_pre pr hn b)
theorem repKs_pre (pr : φ <+: φ') (hn : ∀ b, b ∈ φ' → b ∉ φ → ∃ xs, H b = some (.lst xs)) : ∀ {l : List (PV × PV)} {m : List (Key × V)}, RepKs G φ H l m → RepKs G φ' H l m
  | _, _, .nil => .nil
  | _, _, .cons a b c => .cons a (repV_pre pr hn b) (repKs_pre pr hn c)
theorem repEs_pre (pr : φ <+: φ') (hn : ∀ b, b ∈ φ' → b ∉ φ → ∃ xs, H b = some (.lst xs)) : ∀ {l : List (PV × PV)} {m : List (NestedKey × Addr × Value)}, RepEs G φ H l m → RepEs G φ' H l m
  | _, _, .nil => .nil
  | _, _, .cons a b c d e f => .cons a b (repV_pre pr hn c) d (repV_pre pr hn e) (repEs_pre pr hn f)
end
theorem repO_pre (pr : φ <+: φ') (hn : ∀ b, b ∈ φ' → b ∉ φ → ∃ xs, H b = some (.lst xs)) {a : Addr} {o : PObj} (ro : RepO G φ H a o) : RepO G φ' H a o := repO_imp (repV_pre pr hn) (repVs_pre pr hn) (fun _ _ q => q) (fun _ _ q => .inl q) rfl ro
/-- all but lists stay -/
def Stay (H H' : Hp) : Prop := ∀ a o, H a = some o → (∀ xs, o ≠ .lst xs) → (∀ ps, o ≠ .tbl ps) → H' a = some o
theorem Slt.stay {a : Addr} (k : Stay H H') {C dx : Addr} {ws : List (Option V)} (s : SlX.Slt H a C dx ws) : SlX.Slt H' a C dx ws := by
  rcases s with ⟨h1, h2⟩ | ⟨h1, h2⟩
  · exact .inl ⟨k _ _ h1 (fun _ z => nomatch z) (fun _ z => nomatch z), h2⟩
  · exact .inr ⟨k _ _ h1 (fun _ z => nomatch z) (fun _ z => nomatch z), k _ _ h2 (fun _ z => nomatch z) (fun _ z => nomatch z)⟩
theorem SlW.stay {a : Addr} (k : Stay H H') {dx : Addr} (s : SlW H a dx) : SlW H' a dx := ⟨s.1, s.2.imp (fun q => k _ _ q (fun _ z => nomatch z) (fun _ z => nomatch z)) (fun q => k _ _ q (fun _ z => nomatch z) (fun _ z => nomatch z))⟩
mutual
theorem repV_stay (k : Stay H H') : ∀ {d : PV} {v : V}, RepV G φ H d v → RepV G φ H' d v
  | _, _, .non => .non
  | _, _, .bl b => .bl b
  | _, _, .int i => .int i
  | _, _, .str s => .str s
  | _, _, .ty n => .ty n
  | _, _, .tup s q => .tup (match s with | .inl (.inl s) => .inl (.inl (k _ _ s (fun _ z => nomatch z) (fun _ z => nomatch z))) | .inl (.inr ⟨o, s⟩) => .inl (.inr ⟨o, k _ _ s (fun _ z => nomatch z) (fun _ z => nomatch z)⟩) | .inr s => .inr s) (repVs_stay k q)
  | _, _, .fl s q => .fl (let ⟨o, s⟩ := s; ⟨o, k _ _ s (fun _ z => nomatch z) (fun _ z => nomatch z)⟩) (repVs_stay k q)
  | _, _, .fdK (ob := _) z e q => .fdK z (k _ _ e (fun _ z => nomatch z) (fun _ z => nomatch z)) (repKs_stay k q)
  | _, _, .fdN (ob := _) z ne e m nd q => .fdN z ne (k _ _ e (fun _ z => nomatch z) (fun _ z => nomatch z)) m nd (repEs_stay k q)
  | _, _, .fset (ob := _) z e p l => .fset z (k _ _ e (fun _ z => nomatch z) (fun _ z => nomatch z)) p l
  | _, _, .fiP vs u n c s e l k' q w => .fiP vs u n c s (k _ _ e (fun _ z => nomatch z) (fun _ z => nomatch z)) l k' (fun f d hf => repV_stay k (q f d hf)) w
  | _, _, .fiS vs u n c s e l k' q => .fiS vs u n c s (Slt.stay k e) (SlW.stay k l) k' (fun f d hf => repV_stay k (q f d hf))
  | _, _, .scr e => .scr (e.imp (fun ⟨o, s⟩ => ⟨o, k _ _ s (fun _ z => nomatch z) (fun _ z => nomatch z)⟩) id)
  | _, _, .ref e => .ref e
  | _, _, .gl e => .gl e
theorem repVs_stay (k : Stay H H') : ∀ {ds : List PV} {vs : List V}, RepVs G φ H ds vs → RepVs G φ H' ds vs
  | _, _, .nil => .nil
  | _, _, .cons a b => .cons (repV_stay k a) (repVs_stay k b)
theorem repKs_stay (k : Stay H H') : ∀ {l : List (PV × PV)} {m : List (Key × V)}, RepKs G φ H l m → RepKs G φ H' l m
  | _, _, .nil => .nil
  | _, _, .cons a b c => .cons a (repV_stay k b) (repKs_stay k c)
theorem repEs_stay (k : Stay H H') : ∀ {l : List (PV × PV)} {m : List (NestedKey × Addr × Value)}, RepEs G φ H l m → RepEs G φ H' l m
  | _, _, .nil => .nil
  | _, _, .cons a b c d e f => .cons a b (repV_stay k c) d (repV_stay k e) (repEs_stay k f)
end
theorem repO_stay (k : Stay H H') {a : Addr} {o : PObj} (e : H' a = H a) (ro : RepO G φ H a o) : RepO G φ H' a o := repO_imp (repV_stay k) (repVs_stay k) (fun b fs q => k _ _ q (fun _ z => nomatch z) (fun _ z => nomatch z)) (fun b x q => .inl (k _ _ q (fun _ z => nomatch z) (fun _ z => nomatch z))) e ro
theorem stay_lst {a : Addr} {xs : List V} {u : HO} (e : H a = some (.lst xs)) : Stay H (upd H a u) := fun b o q n _ => by rw [upd_ne (ne_of q e (n xs))]; exact q
/-- a tracked list outside changes -/
theorem RelH.out (r : RelH G φ h H) {a : Addr} {xs : List V} {u : HO} (e : H a = some (.lst xs)) (na : a ∉ φ) : RelH G φ h (upd H a u) where
  tab := r.tabs (fun b hb nb => absurd hb nb) fun b o q _ _ nl => by rw [upd_ne fun z => nl xs (by rw [z, e] at q; cases q; rfl)]; exact q
  len := r.len
  nd := r.nd
  obj := fun j o b e1 e2 => repO_stay (stay_lst e) (upd_ne fun z => na (by rw [← z]; exact List.mem_of_getElem? e2)) (r.obj j o b e1 e2)
/-- a tracked thing comes into the heap -/
theorem RelH.adopt (r : RelH G φ h H) {o : PObj} {zs : List V} (eZ : H D = some (.lst zs)) (hD : D ∉ φ) (ro : RepO G (φ ++ [D]) H D o) : RelH G (φ ++ [D]) (h ++ [o]) H where
  tab := fun p hp => by
    obtain ⟨ps, e, k, f⟩ := r.tab p hp
    refine ⟨ps, e, k, fun pos cv hc => ?_⟩
    obtain ⟨c, e1, n, e2⟩ := f pos cv hc
    refine ⟨c, e1, fun hm => ?_, e2⟩
    rcases List.mem_append.mp hm with z | z
    · exact n z
    · rw [List.mem_singleton.mp z, eZ] at e2; cases e2
  len := by simp [r.len]
  nd := by
    refine List.nodup_append.mpr ⟨r.nd, by simp, fun b hb c hc => ?_⟩
    rw [List.mem_singleton.mp hc]
    intro e
    rw [e] at hb
    exact hD hb
  obj := fun j o' b e1 e2 => by
    have hl := r.len
    by_cases hj : j < h.length
    · rw [List.getElem?_append_left hj] at e1
      rw [List.getElem?_append_left (by omega)] at e2
      exact repO_pre (List.prefix_append _ _) (fun c hc nc => ⟨zs, by rcases List.mem_append.mp hc with z | z; exact absurd z nc; rw [List.mem_singleton.mp z]; exact eZ⟩) (r.obj j o' b e1 e2)
    · rw [List.getElem?_append_right (by omega)] at e1 e2
      have z1 : j - h.length = 0 := by
        have := (List.getElem?_eq_some_iff.mp e1).1
        simp at this; omega
      have z2 : j - φ.length = 0 := by omega
      rw [z1] at e1; rw [z2] at e2
      simp at e1 e2
      subst e1; subst e2
      exact ro
theorem wipeP_len (l : Loc) : ∀ vs, (wipeP l vs).length = l.length
  | [] => rfl
  | v :: vs => by unfold wipeP; rw [List.length_set, wipeP_len l vs]
theorem repL_wipe (rl : RepL G φ H l σ) : ∀ vs, RepL G φ H (wipeP l vs) (wipe σ vs)
  | [] => rl
  | v :: vs => by
    have ih := repL_wipe rl vs
    unfold wipeP wipe
    refine ⟨by simpa using ih.1, fun i d e => ?_⟩
    by_cases z : v = i
    · subst z
      by_cases hl : v < (wipeP l vs).length
      · rw [List.getElem?_set_self hl] at e; cases e
      · rw [List.getElem?_eq_none (by simpa using hl)] at e; cases e
    · rw [List.getElem?_set_ne z] at e ⊢
      exact ih.2 i d e
abbrev W0 : WX := fun _ _ _ _ => False
/-- a list's end: in the heap, or locked -/
def zQ (z : Bool) (Q : VK) : VK := match z with
  | true => lkQ Q
  | false => Q
/-- one for; the ifs' test tt, the element el: functions -/
theorem tLc_ev {z : Bool} {tg : Tg} {fi : Loc → PHeap → R Src} {tt : Loc → PHeap → R Bool} {el : Loc → PHeap → R PV} {own : List Nat} (hs : ∀ i, i ∈ slotsT tg → i ∈ own) (σ : St) (H : Hp) (Q Q' : VK) (hQ : ∀ v H', zQ z Q v H' → Q' v H')
    (t : tEv G W (fun l h => (fi l h).bind fun src h1 => (lcLoop tg src tt el (wipeP l own) (srcLen h1 src + 1) 0 [] h1).bind fun ds h2 => liftP (some (mkL z ds h2))) σ H Q) :
    tLc (iEv G W fi) (gEv G tg) (tEvT G W0 tt) (tEv G W0 el) own σ H Q' := by
  obtain ⟨φ, l, h, rh, rl, p⟩ := t
  refine ⟨φ, l, h, rh, rl, ?_⟩
  have p : Post G φ H ((fi l h).bind fun src h1 => (lcLoop tg src tt el (wipeP l own) (srcLen h1 src + 1) 0 [] h1).bind fun ds h2 => liftP (some (mkL z ds h2))) Q (fun c d H' => W c d σ H') := p
  cases e0 : fi l h with
  | exc c fs h' => rw [e0] at p; exact p
  | stuck => rw [e0] at p; exact p
  | ok src h1 =>
    rw [e0] at p
    simp only [R.bind_ok] at p
    intro φ1 H1 J x1 rh1 hj D hD
    -- the loop ends well
    cases e1 : lcLoop tg src tt el (wipeP l own) (srcLen h1 src + 1) 0 [] h1 with
    | stuck => rw [e1] at p; exact p.elim
    | exc c fs h' =>
      exfalso
      have no : ∀ n i acc h, lcLoop tg src tt el (wipeP l own) n i acc h ≠ .exc c fs h' := by
        intro n
        induction n with
        | zero => intro i acc h q; simp [lcLoop] at q
        | succ n ih =>
          intro i acc h q
          unfold lcLoop at q
          split at q
          · cases q
          · cases q
          · split at q
            · cases q
            · split at q
              · exact ih _ _ _ q
              · split at q
                · split at q
                  · exact ih _ _ _ q
                  · cases q
                · cases q
              · cases q
      exact no _ _ _ _ e1
    | ok ds h2 =>
      rw [e1] at p
      simp only [R.bind_ok, liftP] at p
      refine ⟨fun i m H' => ∃ φ' h' accP accV, Ext φ1 H1 φ' H' ∧ RelH G φ' h' H' ∧ D ∉ φ' ∧ H' D = some (.lst accV) ∧ RepVs G φ' H' accP accV ∧ lcLoop tg src tt el (wipeP l own) m i accP h' = .ok ds h2,
        ⟨srcLen h1 src + 1, φ1, h1, [], [], ext_tup hD, rh1.tup hD, rh1.free hD, upd_same, .nil, e1⟩, ?_⟩
      rintro i m H2 ⟨φ2, h', accP, accV, x2, rh2, nD, eD, racc, ev⟩
      cases m with
      | zero => simp [lcLoop] at ev
      | succ m =>
        unfold lcLoop at ev
        have J2 := hj φ2 h' H2 x2 rh2 i
        cases es : srcAt h' i src with
        | none => rw [es] at ev; cases ev
        | some so =>
          rw [es] at ev
          cases so with
          | none =>
            simp only [R.ok.injEq] at ev
            obtain ⟨rfl, rfl⟩ := ev
            refine .inl ⟨J2.1 es, hQ _ _ ?_⟩
            cases z with
            | false =>
              have hn : ∀ c, c ∈ φ2 ++ [D] → c ∉ φ2 → ∃ xs, H2 c = some (.lst xs) := fun c hc nc => ⟨accV, by rcases List.mem_append.mp hc with z | z; exact absurd z nc; rw [List.mem_singleton.mp z]; exact eD⟩
              have ad := rh2.adopt (o := .lst accP) eD nD ⟨accV, eD, repVs_pre (List.prefix_append _ _) hn racc⟩
              refine p (φ2 ++ [D]) H2 (.ref D) (x1.trans ⟨x2.pre.trans (List.prefix_append _ _), fun a ha na o eo nt => ?_, x2.keep, x2.own⟩) ad (.ref ?_)
              · rcases List.mem_append.mp ha with z | z
                · exact x2.new a z na o eo nt
                · rw [List.mem_singleton.mp z, hD] at eo; cases eo
              · rw [← rh2.len, List.getElem?_append_right (Nat.le_refl _)]; simp
            | true =>
              refine ⟨D, _, rfl, eD, trivial, fun od => ?_⟩
              refine p φ2 _ (.ref D) (x1.trans ⟨x2.pre, x2.new, fun a o ea na no => ?_, fun a o ea na => ?_⟩) (rh2.out eD nD) (.fl ⟨od, upd_same⟩ (repVs_stay (stay_lst eD) racc))
              · rw [upd_ne (ne_of_none ea hD)]; exact x2.keep a o ea na no
              · rw [upd_ne (ne_of_none ea hD)]; exact x2.own a o ea na
          | some d =>
            refine .inr ⟨(J2.2 d es).1, _, fun H' hn => ⟨m, Nat.lt_succ_self _, hn⟩, fun x H3 hy => ?_⟩
            obtain ⟨x3, rh3, rx⟩ := (J2.2 d es).2 x H3 hy
            have eD3 : H3 D = some (.lst accV) := x3.keep D _ eD nD trivial
            simp only at ev
            cases eb : bindT tg d (wipeP l own) with
            | none => rw [eb] at ev; cases ev
            | some l1 =>
              rw [eb] at ev
              simp only at ev
              have rlw : RepL G φ2 H3 (wipeP l own) (wipe σ own) := repL_ext rh2 x3 (repL_ext rh1 x2 (repL_ext rh x1 (repL_wipe rl own)))
              refine ⟨φ2, h', wipeP l own, d, l1, rh3, rlw, rx, eb, fun σ2 rl2 u2 => ⟨?_, ?_⟩⟩
              · have := wipe_upd u2 hs
                rw [this]
                exact wipe_upd (is := own) ⟨by rw [wipe_length], fun i hi => by
                  have get : ∀ (vs : List Nat), i ∉ vs → (wipe σ vs)[i]? = σ[i]? := by
                    intro vs
                    induction vs with
                    | nil => intro _; rfl
                    | cons v vs ih =>
                      intro hv
                      rw [List.mem_cons, not_or] at hv
                      show ((wipe σ vs).set v none)[i]? = _
                      rw [List.getElem?_set_ne (fun q => hv.1 q.symm)]
                      exact ih hv.2
                  exact get own hi⟩ (fun i hi => hi)
              · refine ⟨φ2, l1, h', rh3, rl2, ?_⟩
                cases et : tt l1 h' with
                | stuck => rw [et] at ev; cases ev
                | exc c fs h'' => rw [et] at ev; cases ev
                | ok b h3 =>
                  rw [et] at ev
                  intro φ4 H4 x4 rh4
                  have nD4 : D ∉ φ4 := fun hm => by
                    exact x4.new D hm nD _ eD3 fun _ z => nomatch z
                  have eD4 : H4 D = some (.lst accV) := x4.keep D _ eD3 nD trivial
                  have racc4 : RepVs G φ4 H4 accP accV := repVs_ext rh3 x4 (repVs_ext rh2 x3 racc)
                  have x14 : Ext φ1 H1 φ4 H4 := x2.trans (x3.trans x4)
                  cases b with
                  | false =>
                    rw [if_neg Bool.false_ne_true]
                    exact ⟨φ4, h3, accP, accV, x14, rh4, nD4, eD4, racc4, ev⟩
                  | true =>
                    rw [if_pos rfl]
                    refine ⟨φ4, l1, h3, rh4, repL_ext rh3 x4 rl2, ?_⟩
                    simp only at ev
                    cases ee : el l1 h3 with
                    | stuck => rw [ee] at ev; cases ev
                    | exc c fs h'' => rw [ee] at ev; cases ev
                    | ok y h4 =>
                      rw [ee] at ev
                      simp only at ev
                      intro φ5 H5 v x5 rh5 rv5
                      have nD5 : D ∉ φ5 := fun hm => by
                        exact x5.new D hm nD4 _ eD4 fun _ z => nomatch z
                      have eD5 : H5 D = some (.lst accV) := x5.keep D _ eD4 nD4 trivial
                      have racc5 := repVs_ext rh4 x5 racc4
                      split at ev
                      · rename_i hz
                        refine ⟨accV, eD5, by rw [← racc5.length]; exact hz, ?_⟩
                        -- the list under construction grows
                        have x15 : Ext φ1 H1 φ5 H5 := x14.trans x5
                        refine ⟨φ5, h4, accP ++ [y], accV ++ [v], ⟨x15.pre, x15.new, fun a o ea na no => ?_, fun a o ea na => ?_⟩, rh5.out eD5 nD5, nD5, upd_same, repVs_stay (stay_lst eD5) (racc5.append (.cons rv5 .nil)), ev⟩
                        · rw [upd_ne (ne_of_none ea hD)]
                          exact x15.keep a o ea na no
                        · rw [upd_ne (ne_of_none ea hD)]
                          exact x15.own a o ea na
                      · cases ev
end
end Zed
end
section
set_option Elab.async false
set_option linter.all false
set_option maxRecDepth 100000
set_option maxHeartbeats 1000000
namespace Zed
open PySem L2
/-! ### lambdas: tables of code objects turn, all else stays -/
def heapOf (c : Addr) (o : Obj) : Heap := { objs := Array.replicate (c + 1) o }
theorem heapOf_get {c : Addr} {o : Obj} (h : o.data ≠ .freed) : (heapOf c o).get? c = some o := by
  have e : (heapOf c o).objs[c]? = some o := by simp [heapOf]
  unfold Heap.get?
  rw [e]
  split
  · rename_i q; cases q; exact absurd rfl h
  · rfl
def codeOb (q : Str) : Obj := ⟨.none, none, .fields #[.none, .str q default], #[]⟩
theorem codeO_at (c : Addr) (q : Str) : ∃ (oc : Obj) (vs : Array Value) (t : Tok), (heapOf c (codeOb q)).get? c = some oc ∧ oc.data = .fields vs ∧ vs[1]? = some (.str q t) :=
  ⟨codeOb q, _, default, heapOf_get (fun z => nomatch z), rfl, rfl⟩
theorem ext_inj {f g : Heap → Prop} (h : HO.ext f = HO.ext g) : f = g := by cases h; rfl
section
variable {G : Gc} {φ : List Addr} {h : PHeap} {H H' : Hp} {c : Addr} {q : Str} {o : PObj}
theorem code_not (r : RepO G φ H c o) (e : H c = some (LamX.CodeO c q)) : False := by
  have no : ∀ {f : Heap → Prop}, H c = some (.ext f) → (f (heapOf c (codeOb q)) → False) → False := fun {f} e1 n => by
    rw [e] at e1
    have z := ext_inj (Option.some.inj e1)
    apply n
    rw [← z]
    exact codeO_at c q
  have gt : (heapOf c (codeOb q)).get? c = some (codeOb q) := heapOf_get (fun z => nomatch z)
  cases o with
  | lst ds => obtain ⟨vs, e1, _⟩ := r; rw [e] at e1; cases e1
  | dic kvs =>
    obtain ⟨_, ⟨ks, e1, _⟩ | ⟨xs, _, e1, _⟩⟩ := r
    · rw [e] at e1; cases e1
    · refine no e1 fun ⟨ob, es, ep, z1, _, z3, _⟩ => ?_
      rw [gt] at z1; cases z1; cases z3
  | set ds =>
    obtain ⟨xs, ks, _, e1, _⟩ := r
    refine no e1 fun z => ?_
    have ⟨ob, es, ep, x, z1, z2⟩ := z
    rw [gt] at z1; cases z1; simp_all [codeOb]
  | ins cc fs =>
    obtain ⟨_, C, dx, _, ⟨_, ws, e1, _⟩ | ⟨_, vs, hs, _⟩⟩ := r
    · rw [e] at e1; cases e1
    · rcases hs with ⟨e1, _⟩ | ⟨e1, _⟩
      · rw [e] at e1; cases e1
      · refine no e1 fun ⟨sl, z1, _⟩ => ?_
        rw [gt] at z1; cases z1
theorem RelH.lam (r : RelH G φ h H) (x : LamX.ExtN H H') (t : LamX.Tabs G.T H') : RelH G φ h H' ∧ Ext φ H φ H' := by
  have st : Stay H H' := fun a o e _ nt => x a o e nt
  have ob : ∀ (i : Nat) (o : PObj) (a : Addr), h[i]? = some o → φ[i]? = some a → RepO G φ H' a o := fun i o a h1 h2 => by
    have ro := r.obj i o a h1 h2
    obtain ⟨u, eu, _, _, _, _, nt⟩ := ro.some
    exact repO_stay st ((x a u eu nt).trans eu.symm) ro
  refine ⟨⟨fun p hp => ?_, r.len, r.nd, ob⟩, List.prefix_refl _, fun a ha na => absurd ha na, fun a o e n s => x a o e s.nt, fun a y e n => .inl (x a _ e fun _ z => nomatch z)⟩
  obtain ⟨ps, e1, e2, e3⟩ := t p hp
  refine ⟨ps, e1, e2, fun pos cv hc => ?_⟩
  obtain ⟨cc, e4, e5⟩ := e3 pos cv hc
  refine ⟨cc, e4, fun hm => ?_, e5⟩
  obtain ⟨i, hi, e6⟩ := List.mem_iff_getElem.mp hm
  have hi' : i < h.length := by rw [← r.len]; exact hi
  exact code_not (ob i h[i] cc (List.getElem?_eq_getElem hi') (by rw [List.getElem?_eq_getElem hi, e6])) e5
theorem RelH.tabs' (r : RelH G φ h H) : LamX.Tabs G.T H := fun p hp => by
  obtain ⟨ps, e1, e2, e3⟩ := r.tab p hp
  refine ⟨ps, e1, e2, fun pos cv hc => ?_⟩
  obtain ⟨cc, e4, _, e5⟩ := e3 pos cv hc
  exact ⟨cc, e4, e5⟩
end
end Zed
end
section
set_option Elab.async false
set_option linter.all false
set_option maxRecDepth 100000
set_option maxHeartbeats 1000000
namespace Zed
open PySem L2
section
variable {S : Sg} {G : Gc} {C : Orc} {k : Nat}
theorem bop_ok {X : Cx} (g : Glob S G C k X) {op : Bop} {o : Operator} (h : bopIs op o = true) : OpR X (binaryOp o) (r2 G (bopF op)) := by
  cases op <;> cases o <;> first | (cases h; done) | skip
  · exact op_addZ g.K
  · exact op_subZ
  · exact op_mulZ g.K
  · exact op_fdivZ
  · exact op_modZ
  · exact op_powZ
theorem cop_ok {X : Cx} (g : Glob S G C k X) {op : Cop} {o : CmpOp} (h : copIs op o = true) : OpR X (compareOp o) (r2 G (cmpF op)) := by
  have hu := g.room.units
  cases op <;> cases o <;> first | (cases h; done) | skip
  · exact op_ltZ
  · exact op_leZ
  · exact op_gtZ
  · exact op_geZ
  · exact op_eqZ g.K hu
  · exact op_neZ g.K hu
  · exact op_inZ g.K
  · exact op_notinZ g.K
  · exact op_isZ
  · exact op_isnotZ
theorem bi_boot (b : Bi) : (∃ id, bootBuiltins (biName b) = some (.builtin id) ∧ biV b = .builtin id) ∨ ∃ T, bootBuiltins (biName b) = some (.type T) ∧ biV b = .type T := by
  cases b
  all_goals first
    | exact .inl ⟨_, by decide +kernel, rfl⟩
    | exact .inr ⟨_, by decide +kernel, rfl⟩
theorem bi_nm (b : Bi) : biName b ≠ "__name__" ∧ (biName b == ("__debug__" : Str)) = false := by
  cases b <;> exact ⟨by decide +kernel, by decide +kernel⟩
theorem ty_boot : ∀ n, tyB.contains n = true → bootBuiltins (Str.ofString n) = some (.type n) ∧ Str.ofString n ≠ "__name__" ∧ (Str.ofString n == ("__debug__" : Str)) = false := by
  intro n h
  simp only [tyB, List.contains_cons, List.contains_nil, Bool.or_false, Bool.or_eq_true, beq_iff_eq] at h
  rcases h with rfl | rfl | rfl | rfl | rfl | rfl <;> exact ⟨by decide +kernel, by decide +kernel, by decide +kernel⟩
theorem okNm_dbg {x : Str} (h : okNm x = true) : (x == ("__debug__" : Str)) = false ∧ (x == ("__classdict__" : Str)) = false ∧ x ≠ "__name__" := by
  unfold okNm at h
  simp only [Bool.and_eq_true, Bool.not_eq_true'] at h
  exact ⟨h.1.1, h.1.2, fun e => by rw [e] at h; simp at h⟩
theorem noStars {N : List Str} {sc : Scope} : ∀ {es : Exs} {l : List Expr} {env : Env} {pos : Pos}, plainX es = true → chkA S N sc es l = true → (backTo pos (starEach l env)).any (·.1) = false ∧ (backTo pos (starEach l env)).all (fun x => !x.1) = true
  | .nil, [], _, _, _, _ => ⟨rfl, rfl⟩
  | .nil, _ :: _, _, _, _, c => by simp [chkA] at c
  | .cons _ _, [], _, _, _, c => by simp [chkA] at c
  | .star _ _, _, _, _, p, c => by simp [plainX] at p
  | .cons e es, x :: l, env, pos, p, c => by
    simp only [chkA, Bool.and_eq_true] at c
    obtain ⟨i1, i2⟩ := noStars (env := env) (pos := pos) (by simpa [plainX] using p) c.2
    rw [starEach_cons c.1.1]
    unfold backTo at *
    rw [List.map_cons, List.any_cons, List.all_cons, i1, i2]
    exact ⟨rfl, rfl⟩
theorem noSuper_base {o : Expr} {m : Str} {env : Env} (h : noSuper o = true) : attributeBase o m env (eval o env) = eval o env := by
  unfold attributeBase
  split
  · cases h
  · rfl
theorem foldedSet {e : Expr} {env : Env} (h : noSet e = true) : ∀ x, foldedSetIterable e env x = pure x := by
  intro x
  cases e <;> first | rfl | (cases h)
theorem mt_app {X : Cx} : MtR X "list.append" (fun x vs H Q => rP G appP (x :: vs) H Q) := by
  intro pins s σ H x xs v us Q I rx rxs ⟨φ, h, ds, z, h', rh, rv, e, q⟩
  unfold appP at e
  split at e
  · split at e
    · rename_i hx
      split at e
      · rename_i hz
        obtain ⟨rfl, rfl⟩ := some2 e
        obtain ⟨w1, w2, ew, r1, r2⟩ := repVs_two rv
        cases ew
        cases r1 with
        | ref hr =>
          obtain ⟨vs, e1, q1⟩ := rh.obj _ _ _ hx hr
          refine mt_append pins s σ H _ _ v us Q I rx rxs ⟨_, _, _, rfl, rfl, e1, by rw [← q1.length]; exact hz, ?_⟩
          have x := ext_put (H := H) (u := HO.lst (vs ++ [w2])) hr
          exact q φ _ _ x (rh.put hr ⟨_, upd_same, repVs_ext rh x (q1.append (.cons r2 .nil))⟩) .non
      · cases e
    · cases e
  · cases e
open PyProof.Rows in
/-- xs.extend(ys), ys read -/
theorem mt_ext {X : Cx} : MtR X "list.extend" (fun x vs H Q => rP G extP (x :: vs) H Q) := by
  intro pins s σ H x xs v us Q I rx rxs ⟨φ, h, ds, z, h', rh, rv, e, q⟩
  unfold extP at e
  split at e
  · split at e
    · rename_i hx hy
      split at e
      · rename_i hz
        obtain ⟨rfl, rfl⟩ := some2 e
        obtain ⟨w1, w2, ew, r1, r2⟩ := repVs_two rv
        cases ew
        cases r1 with
        | @ref _ la hr =>
          obtain ⟨b, ws, rfl, rdB, q2⟩ := rep_lstR rh r2 hy
          obtain ⟨vs, hA, q1⟩ := rh.obj _ _ _ hx hr
          have t1 := q1.length
          have t2 := q2.length
          cases rx
          cases rxs with
          | cons ry rt =>
            cases rt
            cases ry
            obtain ⟨is, n, v1, e1⟩ := rd_list I (Or.inl hA)
            obtain ⟨js, m, v2, e2⟩ := rd_list I rdB
            have z1 := v1.length
            have z2 := v2.length
            have fits : is.toArray.size + js.toArray.size ≤ sizeLine := by simp only [List.size_toArray]; omega
            have notLong : ¬ (!is.toArray.isEmpty && Builtin.List.listTooLong (is.toArray.size + js.toArray.size)) = true := fun z => by rw [Bool.and_eq_true, notLongL fits] at z; cases z.2
            have work := AutoSeq1.list_extend_list_list_0 la is.toArray n b js.toArray m notLong (by simp only [List.size_toArray] at *; omega) (by omega)
            refine call_meets F.slot_list_extend ⟨_, e1, rfl⟩ F.entry_list_extend (F.args_list_extend_2 _ _) work ⟨e1, e2, .non, _, I.lset (its' := is ++ js) hA e1 (by simp) (v1.append v2) (by simp; omega), rfl, ?_⟩
            have x := ext_put (H := H) (u := HO.lst (vs ++ ws)) hr
            exact q φ _ _ x (rh.put hr ⟨_, upd_same, repVs_ext rh x (q1.append q2)⟩) .non
      · cases e
    · cases e
  · cases e
theorem rcv_ty {φ : List Addr} {h : PHeap} {H : Hp} {d : PV} {v : V} {m : Mi} {K : PySem.W.Frag} (rh : RelH G φ h H) (rv : RepV G φ H d v) (e : rcvOk m d h = true) : tyV K "list" v H := by
  unfold rcvOk at e
  split at e
  · split at e
    · rename_i hx
      cases rv with
      | ref hr =>
        obtain ⟨vs, e1, _⟩ := rh.obj _ _ _ hx hr
        exact .inl ⟨rfl, _, SqL.of e1⟩
    · cases e
  · cases e
theorem tMeth_ev {W : WX} {K : PySem.W.Frag} {m : Mi} {o : Ex} {es : Exs} (σ : St) (H : Hp) (Q : VK) (t : tEv G W (evE C (.meth m o es)) σ H Q) :
    tBM K "list" (fun x vs H Q => rP G (methF m) (x :: vs) H Q) (tEv G W (evE C o)) (tEvA G W (evA C es)) σ H Q := by
  obtain ⟨φ, l, h, rh, rl, p⟩ := t
  unfold evE at p
  refine ⟨φ, l, h, rh, rl, Post.mono (Post.bind p) fun v H1 ⟨φ1, h1, d1, x1, rh1, rv1, p1⟩ => ?_⟩
  split at p1
  · rename_i hr
    refine ⟨rcv_ty rh1 rv1 hr, φ1, l, h1, rh1, repL_ext rh x1 rl, PostA.mono (PostA.bind (Post.ext x1 p1)) fun vs H2 ⟨φ2, h2, ds, x2, rh2, rv2, p2⟩ => ?_⟩
    obtain ⟨d3, h3, e3, q3⟩ := Post.lift (Post.ext x2 p2)
    exact ⟨φ2, h2, d1 :: ds, d3, h3, rh2, .cons (repV_ext rh1 x2 rv1) rv2, e3, q3⟩
  · exact p1.elim
/-- a test, from an expression's truth -/
theorem pt_of {X : Cx} {W : WX} {e : Expr} {f : Loc → PHeap → R PV} (hK : G.K = X.K) (h : PE X e (tEv G W f)) (h1 : ∀ x p, e ≠ .UnaryOp .Not x p) (h2 : ∀ o v p, e ≠ .BoolOp o v p) (h3 : ∀ a b c p, e ≠ .IfExp a b c p) (h4 : ∀ a b c p, e ≠ .Compare a b c p) :
    PT X e (tEvT G W fun l h => truthR (f l h)) := by
  refine pt_imp (pt_truth h (isTrue_pl h1 h2 h3 h4)) fun σ H Q q => ?_
  have z := tTru_ev (f := f) σ H Q q
  rw [hK] at z
  exact z
theorem truthR_bl {r : R Bool} : truthR (r.bind fun b h1 => .ok (.bl !b) h1) = r.bind fun b h1 => .ok (!b) h1 := by
  cases r <;> rfl
theorem truthR_and {a b : Ex} {l : Loc} {h : PHeap} : truthR (evE C (.and a b) l h) = (truthR (evE C a l h)).bind fun k h1 => match k with | true => truthR (evE C b l h1) | false => .ok false h1 := by
  conv => lhs; unfold evE
  cases evE C a l h with
  | ok x h1 =>
    unfold truthR
    simp only [R.bind_ok]
    cases z : truthF h1 x with
    | none => rfl
    | some b =>
      cases b
      · simp only [R.bind_ok, z]
      · rfl
  | exc => rfl
  | stuck => rfl
theorem truthR_or {a b : Ex} {l : Loc} {h : PHeap} : truthR (evE C (.or a b) l h) = (truthR (evE C a l h)).bind fun k h1 => match k with | true => .ok true h1 | false => truthR (evE C b l h1) := by
  conv => lhs; unfold evE
  cases evE C a l h with
  | ok x h1 =>
    unfold truthR
    simp only [R.bind_ok]
    cases z : truthF h1 x with
    | none => rfl
    | some b =>
      cases b
      · rfl
      · simp only [R.bind_ok, z]
  | exc => rfl
  | stuck => rfl
theorem ttNot_ev {W : WX} {a : Ex} (σ : St) (H : Hp) (Q : Bool → Hp → Prop) (t : tEvT G W (fun l h => truthR (evE C (.not a) l h)) σ H Q) : tNot (tEvT G W fun l h => truthR (evE C a l h)) σ H Q := by
  obtain ⟨φ, l, h, rh, rl, p⟩ := t
  have p : PostT G φ H (truthR (evE C (.not a) l h)) Q (fun c d H' => W c d σ H') := p
  unfold evE at p
  rw [truthR_bl] at p
  exact ⟨φ, l, h, rh, rl, PostT.mono (PostT.bindT p) fun b H1 ⟨φ1, h1, x1, rh1, p1⟩ => (PostT.ext x1 p1) φ1 H1 .refl rh1⟩
theorem ttAnd_ev {W : WX} {a b : Ex} (σ : St) (H : Hp) (Q : Bool → Hp → Prop) (t : tEvT G W (fun l h => truthR (evE C (.and a b) l h)) σ H Q) :
    tAnd (tEvT G W fun l h => truthR (evE C a l h)) (tEvT G W fun l h => truthR (evE C b l h)) σ H Q := by
  obtain ⟨φ, l, h, rh, rl, p⟩ := t
  have p : PostT G φ H (truthR (evE C (.and a b) l h)) Q (fun c d H' => W c d σ H') := p
  rw [truthR_and] at p
  refine ⟨φ, l, h, rh, rl, PostT.mono (PostT.bindT p) fun k H1 ⟨φ1, h1, x1, rh1, p1⟩ => ?_⟩
  cases k with
  | true => rw [if_pos rfl]; exact ⟨φ1, l, h1, rh1, repL_ext rh x1 rl, PostT.ext x1 p1⟩
  | false => rw [if_neg Bool.false_ne_true]; exact (PostT.ext x1 p1) φ1 H1 .refl rh1
theorem ttOr_ev {W : WX} {a b : Ex} (σ : St) (H : Hp) (Q : Bool → Hp → Prop) (t : tEvT G W (fun l h => truthR (evE C (.or a b) l h)) σ H Q) :
    tOr (tEvT G W fun l h => truthR (evE C a l h)) (tEvT G W fun l h => truthR (evE C b l h)) σ H Q := by
  obtain ⟨φ, l, h, rh, rl, p⟩ := t
  have p : PostT G φ H (truthR (evE C (.or a b) l h)) Q (fun c d H' => W c d σ H') := p
  rw [truthR_or] at p
  refine ⟨φ, l, h, rh, rl, PostT.mono (PostT.bindT p) fun k H1 ⟨φ1, h1, x1, rh1, p1⟩ => ?_⟩
  cases k with
  | true => rw [if_pos rfl]; exact (PostT.ext x1 p1) φ1 H1 .refl rh1
  | false => rw [if_neg Bool.false_ne_true]; exact ⟨φ1, l, h1, rh1, repL_ext rh x1 rl, PostT.ext x1 p1⟩
theorem chn_bl {op op' : Cop} {a b c : Ex} (l : Loc) (h : PHeap) (d : PV) (h' : PHeap) (e : evE C (.chn op op' a b c) l h = .ok d h') : ∃ b, d = .bl b := by
  unfold evE at e
  cases e1 : evE C a l h with
  | ok x h1 =>
    rw [e1] at e
    simp only [R.bind_ok] at e
    cases e2 : evE C b l h1 with
    | ok y h2 =>
      rw [e2] at e
      simp only [R.bind_ok] at e
      simp only [cmpF] at e
      cases z : cmpB op h2 x y with
      | none => rw [z] at e; cases e
      | some k =>
        rw [z] at e
        simp only [Option.map_some, liftP, R.bind_ok] at e
        cases k with
        | false => simp only [R.ok.injEq] at e; exact ⟨false, e.1.symm⟩
        | true =>
          simp only at e
          cases e3 : evE C c l h2 with
          | ok w h3 =>
            rw [e3] at e
            simp only [R.bind_ok] at e
            cases z2 : cmpB op' h3 y w with
            | none => rw [z2] at e; cases e
            | some k2 => rw [z2] at e; cases e; exact ⟨k2, rfl⟩
          | exc c fs h' => rw [e3] at e; cases e
          | stuck => rw [e3] at e; cases e
    | exc c fs h' => rw [e2] at e; cases e
    | stuck => rw [e2] at e; cases e
  | exc c fs h' => rw [e1] at e; cases e
  | stuck => rw [e1] at e; cases e
/-! ### instances -/
theorem lookup_setFl {fs : List (Nat × PV)} {f g : Nat} {v : PV} : (setFl fs f v).lookup g = if g = f then some v else fs.lookup g := by
  induction fs with
  | nil =>
    simp only [setFl, List.lookup_cons, List.lookup_nil]
    by_cases e : g = f
    · simp [e]
    · have : (g == f) = false := by simpa using e
      rw [this]; simp [e]
  | cons p r ih =>
    obtain ⟨k, w⟩ := p
    simp only [setFl]
    by_cases e : k = f
    · rw [if_pos e, List.lookup_cons, List.lookup_cons]
      by_cases e2 : g = f
      · subst e; subst e2; simp
      · have : (g == k) = false := by rw [e]; simpa using e2
        rw [this, if_neg e2]
    · rw [if_neg e, List.lookup_cons, List.lookup_cons]
      by_cases e3 : g = k
      · subst e3; simp [e]
      · have : (g == k) = false := by simpa using e3
        rw [this]; exact ih
theorem len_setFl {fs : List (Nat × PV)} {f : Nat} {v : PV} (h : fs.lookup f = none) : (setFl fs f v).length = fs.length + 1 := by
  induction fs with
  | nil => rfl
  | cons p r ih =>
    obtain ⟨k, w⟩ := p
    rw [List.lookup_cons] at h
    by_cases e : f = k
    · subst e; simp at h
    · have z : (f == k) = false := by simpa using e
      rw [z] at h
      simp only [setFl]
      rw [if_neg (Ne.symm e)]
      simp [ih h]
theorem len_setFl' {fs : List (Nat × PV)} {f : Nat} {v : PV} : fs.length ≤ (setFl fs f v).length := by
  induction fs with
  | nil => simp
  | cons p r ih =>
    obtain ⟨k, w⟩ := p
    simp only [setFl]
    split
    · simp
    · simp only [List.length_cons]; omega
theorem len_putF {f : Str} {v : V} : ∀ {fs : List (Str × V)}, (L2.putF f v fs).length ≤ fs.length + 1 ∧ ((fs.lookup f).isSome = true → (L2.putF f v fs).length = fs.length)
  | [] => ⟨by simp [L2.putF], fun h => by simp at h⟩
  | (k, w) :: r => by
    have ih := len_putF (f := f) (v := v) (fs := r)
    by_cases e : k = f
    · have z : L2.putF f v ((k, w) :: r) = (k, v) :: r := by
        show (if k = f then (k, v) :: r else (k, w) :: L2.putF f v r) = _
        rw [if_pos e]
      rw [z]; simp
    · have z : L2.putF f v ((k, w) :: r) = (k, w) :: L2.putF f v r := by
        show (if k = f then (k, v) :: r else (k, w) :: L2.putF f v r) = _
        rw [if_neg e]
      rw [z]
      refine ⟨by simp only [List.length_cons]; omega, fun h => ?_⟩
      have z2 : (f == k) = false := by simpa using fun q => e q.symm
      rw [List.lookup_cons, z2] at h
      simp only [List.length_cons]
      rw [ih.2 h]
/-- what an instance has: by a reading -/
theorem rep_ins {φ : List Addr} {h : PHeap} {H : Hp} {x : PV} {v : V} {c : Nat} {fs : List (Nat × PV)} (rh : RelH G φ h H) (rv : RepV G φ H x v) (e : objOf h x = some (.ins c fs)) : ∃ a D dx, v = .ref a ∧ G.mg (G.nm c) = some (.ref D) ∧
    ((G.isSl c = false ∧ ∃ ws, H a = some (.ins D dx ws) ∧ ∀ f d, fs.lookup f = some d → G.fld c f = true ∧ ∃ w, ws.lookup (G.nm f) = some w ∧ RepV G φ H d w) ∨
     (G.isSl c = true ∧ ∃ vs, SlX.Slt H a D dx vs ∧ ∀ f d, fs.lookup f = some d → ∃ i w, G.slot c f = some i ∧ vs[i]? = some (some w) ∧ RepV G φ H d w)) := by
  cases rv with
  | fiP vs u n m s e1 l k q w =>
    simp only [objOf] at e
    cases e
    exact ⟨_, _, _, rfl, m, .inl ⟨s, _, e1, fun f d hf => ⟨(k f d hf).1, _, (k f d hf).2, q f d hf⟩⟩⟩
  | fiS vs u n m s e1 l k q =>
    simp only [objOf] at e
    cases e
    exact ⟨_, _, _, rfl, m, .inr ⟨s, _, e1, fun f d hf => let ⟨i, k1, k2⟩ := k f d hf; ⟨i, _, k1, k2, q f d hf⟩⟩⟩
  | ref hi =>
    obtain ⟨_, D, dx, hD, ⟨z, ws, a0, al, qf, q2⟩ | ⟨z, vs, hs, _, qf⟩⟩ := rh.obj _ _ _ e hi
    · exact ⟨_, D, dx, rfl, hD, .inl ⟨z, ws, a0, qf⟩⟩
    · exact ⟨_, D, dx, rfl, hD, .inr ⟨z, vs, hs, qf⟩⟩
  | _ => simp only [objOf] at e; cases e
/-- reading an attribute -/
theorem attr_post {φ : List Addr} {H : Hp} {W : WX} {f : Loc → PHeap → R PV} {l : Loc} {h : PHeap} {ct : Ct} {n : Nat} {Q : VK} {E : XK} (p : Post G φ H (ev1 f (attrF ct n) l h) Q E) :
    Post G φ H (f l h) (fun v H1 => ∃ φ1 h1 x c fs d, Ext φ H φ1 H1 ∧ RelH G φ1 h1 H1 ∧ RepV G φ1 H1 x v ∧ f l h = .ok x h1 ∧ objOf h1 x = some (.ins c fs) ∧ ownF ct c n = true ∧ fs.lookup n = some d ∧ ∀ w, RepV G φ1 H1 d w → Q w H1) E := by
  unfold ev1 at p
  cases e : f l h with
  | ok x h1 =>
    rw [e] at p
    simp only [R.bind_ok] at p
    obtain ⟨d, h2, e2, q⟩ := Post.lift p
    intro φ1 H1 v x1 rh1 rv
    simp only [attrF] at e2
    split at e2
    · rename_i c fs hx
      split at e2
      · rename_i ow
        obtain ⟨d', e3, e4⟩ := omap e2
        cases e4
        exact ⟨φ1, _, x, c, fs, d, x1, rh1, rv, rfl, hx, ow, e3, fun w rw => q φ1 H1 w x1 rh1 rw⟩
      · cases e2
    · cases e2
  | exc c fs h' => rw [e] at p; exact p
  | stuck => rw [e] at p; exact p
theorem pe_attrZ {X : Cx} {W : WX} {e : Expr} {n : Nat} {f : Loc → PHeap → R PV} {pos : Pos} (g : Glob S G C k X) (he : PE X e (tEv G W f)) (hb : attributeBase e (S.nm n) X.env (eval e X.env) = eval e X.env) :
    PE X (.Attribute e (S.nm n) pos) (tEv G W (ev1 f (attrF C.ct n))) := by
  refine ⟨fun pins s σ H Q I q => ?_⟩
  obtain ⟨φ, l, h, rh, rl, p⟩ := q
  have p2 := attr_post (W := W) p
  cases ev : f l h with
  | stuck => rw [ev] at p2; exact p2.elim
  | exc c fs h' =>
    rw [ev] at p2
    refine (pe_fld he hb).run pins s σ H Q I ⟨φ, l, h, rh, rl, ?_⟩
    rw [ev]; exact p2
  | ok x h1 =>
    by_cases sl : ∃ c fs, objOf h1 x = some (.ins c fs) ∧ C.ct.isSl c = true
    · obtain ⟨c, fs, hx, sl⟩ := sl
      refine (SlX.pe_sl he hb).run pins s σ H Q I ⟨φ, l, h, rh, rl, ?_⟩
      refine Post.mono p2 fun v H1 ⟨φ1, h2, x2, c2, fs2, d, x1, rh1, rv, e1, e2, ow, e3, q⟩ => ?_
      rw [ev] at e1
      cases e1
      rw [hx] at e2
      cases e2
      obtain ⟨a, D, dx, rfl, hD, ⟨z, _⟩ | ⟨z, vs, hs, qf⟩⟩ := rep_ins rh1 rv hx
      · rw [g.sl, sl] at z; cases z
      · obtain ⟨j, w, a1, a2, a3⟩ := qf n d e3
        rw [g.slo] at a1
        rw [g.mg, g.nm] at hD
        obtain ⟨pp, s1⟩ := g.sls c n j D a1 hD
        exact ⟨_, D, dx, pp, vs, j, w, rfl, hs, g.scl c D sl hD, s1, a2, q w a3⟩
    · refine (pe_fld he hb).run pins s σ H Q I ⟨φ, l, h, rh, rl, ?_⟩
      refine Post.mono p2 fun v H1 ⟨φ1, h2, x2, c2, fs2, d, x1, rh1, rv, e1, e2, ow, e3, q⟩ => ?_
      rw [ev] at e1
      cases e1
      have nsl : C.ct.isSl c2 = false := by
        cases zz : C.ct.isSl c2 with
        | false => rfl
        | true => exact absurd ⟨c2, fs2, e2, zz⟩ sl
      obtain ⟨a, D, dx, rfl, hD, ⟨z, ws, a0, qf⟩ | ⟨z, _⟩⟩ := rep_ins rh1 rv e2
      · obtain ⟨b0, w, b1, b2⟩ := qf n d e3
        rw [g.mg, g.nm] at hD
        rw [g.fdl] at b0
        obtain ⟨c1, c3⟩ := g.pcl c2 n D nsl b0 hD
        rw [g.nm] at b1
        exact ⟨_, D, dx, ws, w, rfl, a0, c1, c3, b1, q w b2⟩
      · rw [g.sl, nsl] at z; cases z
end
end Zed
end
section
set_option Elab.async false
set_option linter.all false
set_option maxRecDepth 100000
set_option maxHeartbeats 4000000
namespace Zed
open PySem L2
/-! ### calls of defs that may want to know that no repr is under way -/
theorem pe_callZ {X : Cx} {CX : CXT} {g : Bool} {k : Nat} {f : Addr} {fd : FuncData} {ps : List Str} {sp : Sp} {E : St → XK} {x : Str} {p pos : Pos} {e : Expr} {es : List Expr} {t : TA} (F : FnOkZ g X.prog X.w X.K X.mg X.base CX k f fd ps sp) (hgd : g = true → X.A.guards = some [])
    (hr : Room k X.A) (hg : Gl X x) (hm : X.mg x = some (.ref f)) (hk : PySem.W.keepIn X.K (.ref f) = true) (hb : Binds X.K fd ps []) (hx : ∀ σ, PassesAt CX X σ (E σ)) (ha : PA X (e :: es) t) (hdb : (x == ("__debug__" : Str)) = false)
    (h1 : starEach (e :: es) X.env = (false, eval e X.env) :: starEach es X.env) (h2 : (backTo pos (starEach es X.env)).any (·.1) = false) : PE X (.Call (.Name x p) (e :: es) [] pos) (tCallS sp E t) := by
  constructor
  intro pins s σ H Q I h
  refine wpAny_Call_Name_kw (ld_glob I hg hm ?_ hdb)
  refine PySem.W.callWith_K (h₀ := X.base) I.ok.mod.kin hk (thn (ha.run pos pins s σ H _ I h) ?_) h1 h2
  rintro us s1 ⟨vs, H1, J, rv, q⟩
  refine ⟨J.kIn, ?_⟩
  have len : us.length = ps.length := rv.length.symm.trans (F.len _ _ _ _ q)
  have bnd := hb s1 us J.kIn (by simpa using len)
  rw [List.append_nil] at bnd
  refine wpAny_call (codeAny_mono (F.run X.A X.stack s1 H1 ⟨us, []⟩ us vs Q (E σ) hgd hr J.env0 bnd rv q) ?_)
  rintro (e | fl) s' hq
  · exact hx σ pins H1 s1 e s' J hq
  · match fl, hq with
    | .ret u, hq => exact J.after hq
/-! ### x(lambda: e), x telling how the lambda ended -/
/-- what the clauses tell -/
def wTell (K : PySem.W.Frag) (mg : Str → Option Value) (nm : Nat → Str) (Q : VK) : List (Nat × Str) → Value → Hp → Prop
  | [], _, _ => False
  | (d, t) :: r, cls, H => ∃ E b, mg (nm d) = some (.ref E) ∧ PySem.W.exmOne K cls (.ref E) = some b ∧ (b = true → Q (.str t) H) ∧ (b = false → wTell K mg nm Q r cls H)
def TMet (K : PySem.W.Frag) (mg : Str → Option Value) (nm : Nat → Str) (hs : List (Nat × Str)) (last : Str) : (XK → Hp → VK → Prop) → Hp → VK → Prop := fun tl H Q =>
  tl (fun cls _ H' => wTell K mg nm Q hs cls H') H (fun _ H' => Q (.str last) H')
/-- the clauses, as ps_tryZ asks for them -/
theorem cls_of {X : Cx} {nm : Nat → Str} : ∀ {hs : List (Nat × Str)} {hds : List ExceptHandler}, (∀ p ∈ hs, ∃ E, X.mg (nm p.1) = some (.ref E)) → chkH nm X.env.scope.names hs hds = true →
    ∃ l : List Cl, ClsOk X hds l ∧ ∀ (D : Ends) (Q : VK) (cls : Value) (d : Option Addr) (σ : St) (H : Hp), (∀ v H', Q v H' → D.rt v H') → wTell X.K X.mg nm Q hs cls H → wCl X.K D l cls d σ H
  | [], hds, _, _ => ⟨[], .cut, fun _ _ _ _ _ _ _ z => z⟩
  | (d, t) :: r, hds, hE, c => by
    unfold chkH at c
    split at c
    · rename_i z; cases z
    · rename_i d0 t0 r0 x p1 t' p2 p3 p4 p5 hds0 e1
      cases e1
      simp only [Bool.and_eq_true, beq_iff_eq] at c
      obtain ⟨⟨⟨⟨c1, c2⟩, c3⟩, c4⟩, c5⟩ := c
      subst c1; subst c4
      obtain ⟨l, k1, k2⟩ := cls_of (fun p hp => hE p (List.mem_cons_of_mem _ hp)) c5
      obtain ⟨E, hm⟩ := hE _ List.mem_cons_self
      have gl : Gl X (nm d) := by
        have z : X.env.scope.names.lookup (nm d) = some .globalImplicit := by simpa [isK] using c2
        exact z
      have db : ((nm d) == ("__debug__" : Str)) = false := by
        simp only [okNm, Bool.and_eq_true, Bool.not_eq_true'] at c3
        exact c3.1.1
      refine ⟨⟨.ref E, none, _⟩ :: l, .bare ⟨gl, db, .inl hm⟩ (fun a ob cls d pn _ _ => pss_one (ps_ret pe_str)) k1, ?_⟩
      intro D Q cls dd σ H hQ w
      obtain ⟨E', b, m1, m2, m3, m4⟩ := w
      rw [hm] at m1
      cases m1
      exact ⟨b, m2, fun hb a _ => hQ _ _ (m3 hb), fun hb => k2 D Q cls dd σ H hQ (m4 hb)⟩
    · cases c
theorem met_gives {X : Cx} {nm : Nat → Str} {Ng : List Str} {x a q last : Str} {sg : Scope} {g : Addr} {cdg : Value} {hs : List (Nat × Str)} {bg : List Stmt} (nd : Ng.Nodup) (hE : ∀ p ∈ hs, ∃ E, X.mg (nm p.1) = some (.ref E)) (c : metB nm sg.names a hs last bg = true)
    (h0 : ∀ f : Addr, (L2.start Ng [V.ref f])[0]? = some (some (V.ref f))) : LamX.GivesTo X Ng x sg g cdg bg a q (TMet X.K X.mg nm hs last) := by
  intro f c' s H Q tl act hc h
  unfold metB at c
  split at c
  · rename_i y p1 p2 p3 hd hds p4 t j p5 p6
    simp only [Bool.and_eq_true, beq_iff_eq] at c
    obtain ⟨⟨⟨c1, c2⟩, c3⟩, c4⟩ := c
    subst c1; subst c3
    obtain ⟨l, k1, k2⟩ := cls_of (X := (cxOf C8.CX0 X.prog X.w X.K X.mg X.base Ng x sg g cdg X.A X.stack s H C8.E0).nox) (nm := nm) hE c4
    refine ⟨_, pss_cons (ps_tryZ (X := (cxOf C8.CX0 X.prog X.w X.K X.mg X.base Ng x sg g cdg X.A X.stack s H C8.E0).nox)
      (tb := fun W D σ H => ∃ Ech : XK, (∀ cls d σ' H', Ech cls d H' → W cls d σ' H') ∧ σ[0]? = some (some (.ref f)) ∧ H c' = some (LamX.CodeO c' q) ∧ tl Ech H (fun _ H' => D.nx σ H')) rfl rfl nd (fun W pn xe tk _ => ?_) k1) (pss_one (ps_ret pe_str)), ?_⟩
    · constructor
      intro pins s1 σ1 H1 D I1 ⟨Ech, w1, w2, w3, w4⟩
      exact (pss_one (ps_expr (pos := p3) (act W pn xe Ech p1 p2 tk w1))).run pins s1 σ1 H1 D I1 ⟨w2, w3, w4⟩
    · exact ⟨_, fun cls d σ' H' w => k2 _ Q cls d σ' H' (fun _ _ z => z) w, h0 f, hc, h⟩
  · cases c
end Zed
end
section
set_option Elab.async false
set_option linter.all false
set_option maxRecDepth 100000
set_option maxHeartbeats 4000000
namespace Zed
open PySem L2
section
variable {S : Sg} {G : Gc} {C : Orc} {k : Nat}
theorem conIs_rep {d : PV} {c : Const} {X : Cx} {j : Nat} {pos : Pos} (h : conIs d c = true) : ∃ v, PE X (.Constant c j pos) (tC v) ∧ ∀ φ H, RepV G φ H d v := by
  unfold conIs at h
  split at h
  · exact ⟨.non, pe_non, fun _ _ => .non⟩
  · rw [beq_iff_eq] at h; subst h; exact ⟨.bl _, pe_bl, fun _ _ => .bl _⟩
  · rw [beq_iff_eq] at h; subst h; exact ⟨.int _, pe_int, fun _ _ => .int _⟩
  · rw [beq_iff_eq] at h; subst h; exact ⟨.str _, pe_str, fun _ _ => .str _⟩
  · cases h
def isTst : Expr → Bool
  | .UnaryOp .Not _ _ => true
  | .BoolOp .. => true
  | .IfExp .. => true
  | .Compare .. => true
  | _ => false
theorem pt_pl {X : Cx} {W : WX} {e : Expr} {f : Loc → PHeap → R PV} (hK : G.K = X.K) (h : PE X e (tEv G W f)) (ht : isTst e = false) : PT X e (tEvT G W fun l h => truthR (f l h)) :=
  pt_of hK h (fun x p e => by subst e; cases ht) (fun o v p e => by subst e; cases ht) (fun a b c p e => by subst e; cases ht) (fun a b c p e => by subst e; cases ht)
theorem evE_attr {a : Ex} {f : Nat} : evE C (.attr a f) = ev1 (evE C a) (attrF C.ct f) := by funext l h; simp only [evE]
theorem pass_no {X : Cx} : Passes (L2.CX X.prog X.w) X (fun _ _ _ => False) := fun pins σ H s e s' I hc => by
  obtain ⟨_, _, _, _, _, _, _, _, _, _, _, _, z⟩ := hc
  exact z.elim
theorem tStar_ev {W : WX} {e : Ex} {r : Exs} (σ : St) (H : Hp) (Q : List V → Hp → Prop) (t : tEvA G W (evA C (.star e r)) σ H Q) : StX.tStar G.K (tEv G W (evE C e)) (tEvA G W (evA C r)) σ H Q := by
  obtain ⟨φ, l, h, rh, rl, p⟩ := t
  unfold evA at p
  refine ⟨φ, l, h, rh, rl, Post.mono (Post.bindA p) fun v H1 ⟨φ1, h1, d1, x1, rh1, rv1, p1⟩ => ?_⟩
  cases z : seqOf h1 d1 with
  | none => rw [z] at p1; exact p1.elim
  | some ds =>
    rw [z] at p1
    obtain ⟨a, vs, rfl, sq, q⟩ := rep_seq rh1 rv1 z
    refine ⟨a, vs, rfl, sq.symm, φ1, l, h1, rh1, repL_ext rh x1 rl, PostA.mono (PostA.bindA (PostA.ext x1 p1)) fun ws H2 ⟨φ2, h2, es, x2, rh2, rv2, p2⟩ => ?_⟩
    exact (PostA.ext x2 p2) φ2 H2 _ .refl rh2 ((repVs_ext rh1 x2 q).append rv2)
theorem tMake_ev {X : Cx} {W : WX} {c f : Nat} {es : Exs} {D : Addr} (g : Glob S G C k X) (hD : X.mg (S.nm c) = some (.ref D)) (σ : St) (H : Hp) (Q : VK) (t : tEv G W (evE C (.make c f es)) σ H Q) :
    tMake D (spF G (C.call f)) [] (fun _ _ _ => False) (tEvA G W (evA C es)) σ H Q := by
  obtain ⟨φ, l, h, rh, rl, p⟩ := t
  unfold evE at p
  refine ⟨φ, l, h, rh, rl, PostA.mono (PostA.bind p) fun vs H1 ⟨φ1, h1, ds, x1, rh1, rv1, p1⟩ => ?_⟩
  intro x dx hx hdx ne
  rw [List.append_nil]
  unfold makeF at p1
  -- the new object
  have hx2 : upd H1 dx (.own x) x = none := by rw [upd_ne (Ne.symm ne)]; exact hx
  have e1 : Ext φ1 H1 φ1 (upd H1 dx (.own x)) := ext_tup hdx
  have rh2 := rh1.tup (u := HO.own x) hdx
  have e2 := ext_alloc (u := HO.ins D dx []) rh2 hx2
  have hD' : G.mg (G.nm c) = some (.ref D) := by rw [g.mg, g.nm]; exact hD
  have ro : RepO G (φ1 ++ [x]) (upd (upd H1 dx (.own x)) x (.ins D dx [])) x (.ins c []) := by
    refine ⟨List.nodup_nil, D, dx, hD', ?_⟩
    cases z : G.isSl c with
    | false => exact .inl ⟨rfl, [], upd_same, Nat.le_refl _, (fun f d hf => by cases hf), (fun y v hy => by cases hy)⟩
    | true => exact .inr ⟨rfl, [], .inl ⟨upd_same, rfl⟩, ⟨ne, .inl (by rw [upd_ne ne, upd_same])⟩, (fun f d hf => by cases hf)⟩
  have rh3 := rh2.alloc hx2 ro
  have x13 : Ext φ1 H1 (φ1 ++ [x]) (upd (upd H1 dx (.own x)) x (.ins D dx [])) := e1.trans e2
  have hix : (φ1 ++ [x])[h1.length]? = some x := by rw [← rh1.len, List.getElem?_append_right (Nat.le_refl _)]; simp
  refine ⟨φ1 ++ [x], h1 ++ [.ins c []], .ref h1.length :: ds, rh3, .cons (.ref hix) (repVs_ext rh1 x13 rv1), ?_⟩
  cases z : C.call f (.ref h1.length :: ds) (h1 ++ [.ins c []]) with
  | stuck => rw [z] at p1; exact p1.elim
  | exc c fs h' => rw [z] at p1; exact p1.elim
  | ok d h2 =>
    rw [z] at p1
    intro φ4 H4 v x4 rh4 rv4
    cases rv4 <;> simp only at p1 <;> first | exact p1.elim | skip
    exact ⟨rfl, p1 φ4 H4 _ (x1.trans (x13.trans x4)) rh4 (.ref (pre_get x4.pre hix))⟩
theorem evE_bin {op : Bop} {a b : Ex} : evE C (.bin op a b) = ev2 (evE C a) (evE C b) (bopF op) := by funext l h; simp only [evE]
theorem evE_cmp {op : Cop} {a b : Ex} : evE C (.cmp op a b) = ev2 (evE C a) (evE C b) (cmpF op) := by funext l h; simp only [evE]
theorem evE_sub {a b : Ex} : evE C (.sub a b) = ev2 (evE C a) (evE C b) subF := by funext l h; simp only [evE]
theorem evE_lc {z : Bool} {elt : Ex} {tg : Tg} {it : Itr} {ifs : Op} {own : List Nat} : evE C (.lc z elt tg it ifs own) = fun l h => (evI C it l h).bind fun src h1 => (lcLoop tg src (evT1 C ifs) (evE C elt) (wipeP l own) (srcLen h1 src + 1) 0 [] h1).bind fun ds h2 => liftP (some (mkL z ds h2)) := by funext l h; simp only [evE]
theorem pe_zQ {X : Cx} {z : Bool} {e : Expr} {t : TE} (h : PE X e t) : PE X e (fun σ H Q => t σ H (zQ z Q)) := by
  cases z with
  | false => exact h
  | true => exact pe_frz h
theorem evA_nil : evA C .nil = evNil := by funext l h; simp only [evA, evNil]
theorem evA_cons {e : Ex} {es : Exs} : evA C (.cons e es) = evCons (evE C e) (evA C es) := by funext l h; simp only [evA]
theorem evI_val {e : Ex} : evI C (.val e) = fun l h => (evE C e l h).bind fun d h1 => srcR (srcOf h1 d) h1 := by funext l h; simp only [evI]
theorem pt_ifExp {X : Cx} {c a b : Expr} {tc ta tb : TT} {pos : Pos} (hc : PT X c tc) (ha : PT X a ta) (hb : PT X b tb) : PT X (.IfExp c a b pos) (fun σ H Q => tc σ H fun k H1 => if k = true then ta σ H1 Q else tb σ H1 Q) := ⟨fun pins s σ H Q I q => by
  have e : PySem.isTrue (.IfExp c a b pos) X.env (eval (.IfExp c a b pos) X.env) = (do let k ← PySem.isTrue c X.env (eval c X.env); if k = true then PySem.isTrue a X.env (eval a X.env) else PySem.isTrue b X.env (eval b X.env)) := by
    rw [PySem.isTrue]
  rw [e]
  refine wpAny_bind (thn (hc.run pins s σ H _ I q) fun k s1 ⟨H1, I1, q1⟩ => ?_)
  cases k with
  | true => rw [if_pos rfl] at q1 ⊢; exact ha.run pins s1 σ H1 Q I1 q1
  | false => rw [if_neg Bool.false_ne_true] at q1 ⊢; exact hb.run pins s1 σ H1 Q I1 q1⟩
theorem truthR_ite {c a b : Ex} {l : Loc} {h : PHeap} : truthR (evE C (.ite c a b) l h) = (truthR (evE C c l h)).bind fun k h1 => match k with | true => truthR (evE C a l h1) | false => truthR (evE C b l h1) := by
  conv => lhs; unfold evE
  cases truthR (evE C c l h) with
  | ok k h1 => cases k <;> rfl
  | exc => rfl
  | stuck => rfl
theorem ttIte_ev {W : WX} {c a b : Ex} (σ : St) (H : Hp) (Q : Bool → Hp → Prop) (t : tEvT G W (fun l h => truthR (evE C (.ite c a b) l h)) σ H Q) :
    (tEvT G W fun l h => truthR (evE C c l h)) σ H fun k H1 => if k = true then (tEvT G W fun l h => truthR (evE C a l h)) σ H1 Q else (tEvT G W fun l h => truthR (evE C b l h)) σ H1 Q := by
  obtain ⟨φ, l, h, rh, rl, p⟩ := t
  have p : PostT G φ H (truthR (evE C (.ite c a b) l h)) Q (fun c d H' => W c d σ H') := p
  rw [truthR_ite] at p
  refine ⟨φ, l, h, rh, rl, PostT.mono (PostT.bindT p) fun k H1 ⟨φ1, h1, x1, rh1, p1⟩ => ?_⟩
  cases k with
  | true => rw [if_pos rfl]; exact ⟨φ1, l, h1, rh1, repL_ext rh x1 rl, PostT.ext x1 p1⟩
  | false => rw [if_neg Bool.false_ne_true]; exact ⟨φ1, l, h1, rh1, repL_ext rh x1 rl, PostT.ext x1 p1⟩
theorem lamS_sp {X : Cx} {sc sc' : Scope} (sp : Scp sc.names X) (L : LamX.LamS sc sc') : LamX.LamS X.env.scope sc' := ⟨L.kind, L.co, L.gen, L.own, fun y hy e => sp.cf y.1 (L.free y hy e)⟩
theorem metB_nm {nm : Nat → Str} {ns : Nms} {a : Str} {hs : List (Nat × Str)} {last : Str} {sts : List Stmt} (h : metB nm ns a hs last sts = true) : (a == ("__debug__" : Str)) = false ∧ (a == ("__classdict__" : Str)) = false ∧ a ≠ "__name__" := by
  unfold metB at h
  split at h
  · simp only [Bool.and_eq_true] at h
    exact okNm_dbg h.1.1.2
  · cases h
theorem start0 {Ng : List Str} {v : V} {a : Str} (h : Ng[0]? = some a) : (L2.start Ng [v])[0]? = some (some v) := by
  unfold L2.start
  simp
theorem exm_post {X : Cx} {φ : List Addr} {H : Hp} {h' : PHeap} {c : Nat} {Q : VK} {E : XK} (g : Glob S G C k X) : ∀ (hs : List (Nat × Str)), Post G φ H (metGo C.ct c h' hs) Q E → ∀ φ' H' a, Ext φ H φ' H' → RelH G φ' h' H' → X.mg (S.nm c) = some (.ref a) → wTell X.K X.mg S.nm Q hs (.ref a) H'
  | [], p, _, _, _, _, _, _ => p.elim
  | (d, t) :: r, p, φ', H', a, x, rh, ma => by
    unfold metGo at p
    split at p
    · rename_i e
      obtain ⟨D, E', m1, m2, m3⟩ := g.exm c d true e
      rw [ma] at m1
      cases m1
      exact ⟨E', true, m2, m3, fun _ => p φ' H' _ x rh (.str _), fun z => by cases z⟩
    · rename_i e
      obtain ⟨D, E', m1, m2, m3⟩ := g.exm c d false e
      rw [ma] at m1
      cases m1
      exact ⟨E', false, m2, m3, (fun z => by cases z), fun _ => exm_post g r p φ' H' a x rh ma⟩
    · exact p.elim
theorem tMet_ev {X : Cx} {W : WX} {m : Nat} {b : Ex} {hs : List (Nat × Str)} {last : Str} (g : Glob S G C k X) (hm : C.ct.met m = some (hs, last)) (σ : St) (H : Hp) (Q : VK) (t : tEv G W (evE C (.met m b)) σ H Q) :
    LamX.tLam G.T (TMet X.K X.mg S.nm hs last) (fun E => tEv G (fun cls d _ H' => E cls d H') (evE C b)) σ H Q := by
  obtain ⟨φ, l, h, rh, rl, p⟩ := t
  unfold evE at p
  refine ⟨rh.tabs', fun H1 x t1 => ?_⟩
  obtain ⟨rh1, x1⟩ := rh.lam x t1
  refine ⟨φ, l, h, rh1, repL_ext rh x1 rl, ?_⟩
  unfold metF at p
  rw [hm] at p
  dsimp only at p
  cases z : evE C b l h with
  | ok d h' => rw [z] at p; exact fun φ' H' v x2 rh2 _ => p φ' H' _ (x1.trans x2) rh2 (.str _)
  | exc c fs h' =>
    rw [z] at p
    intro φ' H' cls dd x2 rh2 rx
    cases c <;> first | exact p.elim | skip
    rename_i c
    obtain ⟨⟨y, a, e1, e2, e3⟩ | ⟨n, e1, _⟩, _⟩ := rx
    · cases e1
      subst e3
      rw [g.mg, g.nm] at e2
      exact exm_post g hs p φ' H' a (x1.trans x2) rh2 e2
    · cases e1
  | stuck => rw [z] at p; exact p.elim
mutual
theorem soundE : ∀ (ir : Ex) {S : Sg} {X : Cx} {W : WX} {sc : Scope} {e : Expr}, Glob S G C k X → Scp sc.names X → Takes X W → chkE S X.N sc ir e = true → PE X e (tEv G W (evE C ir))
  | .loc i, S, X, W, sc, e, g, sp, tk, c => by
    simp only [chkE] at c
    split at c
    · simp only [Bool.and_eq_true, beq_iff_eq] at c
      have z := okNm_dbg c.2
      exact pe_imp (pe_var c.1.1 (sp.vis _ c.1.2) z.1 z.2.1) tVar_ev
    · cases c
  | .con d, S, X, W, sc, e, g, sp, tk, c => by
    simp only [chkE] at c
    split at c
    · obtain ⟨v, p, r⟩ := conIs_rep (G := G) (X := X) c
      exact pe_imp p (tC_ev r)
    · simp only [Bool.and_eq_true] at c
      have z := okNm_dbg c.1.2
      have gl := sp.gl _ c.1.1
      have c2 := c.2
      split at c2
      · rename_i e0 hl
        obtain ⟨u, v, e1, e2, e3⟩ := g.cst _ _ hl
        have := PV.same_eq _ _ c2
        subst this
        exact pe_imp (pe_glob gl e1 e2 z.1) (tC_ev e3)
      · split at c2
        · rename_i n
          simp only [Bool.and_eq_true, beq_iff_eq] at c2
          obtain ⟨⟨c3, c4⟩, c5⟩ := c2
          subst c4
          have b := ty_boot n c3
          exact pe_imp (pe_bltn (v := .ty n) gl (g.blt _ c5) b.1 rfl b.2.1 b.2.2) (tC_ev fun _ _ => .ty n)
        · cases c2
    · cases c
  | .bin op a b, S, X, W, sc, e, g, sp, tk, c => by
    simp only [chkE] at c
    split at c
    · simp only [Bool.and_eq_true] at c
      exact pe_imp (pe_op (bop_ok g c.1.1) (soundE a g sp tk c.1.2) (soundE b g sp tk c.2)) fun σ H Q t => tOp_ev σ H Q (by rw [evE_bin] at t; exact t)
    · cases c
  | .neg a, S, X, W, sc, e, g, sp, tk, c => by
    simp only [chkE] at c
    split at c
    · exact pe_imp (pe_un un_neg (soundE a g sp tk c)) tNeg_ev
    · cases c
  | .not a, S, X, W, sc, e, g, sp, tk, c => by
    simp only [chkE] at c
    split at c
    · exact pe_imp (pe_notT (soundE a g sp tk c)) fun σ H Q t => by
        have := tNot_ev σ H Q t
        rw [g.K] at this; exact this
    · cases c
  | .cmp op a b, S, X, W, sc, e, g, sp, tk, c => by
    simp only [chkE] at c
    split at c
    · simp only [Bool.and_eq_true, Bool.not_eq_true'] at c
      exact pe_imp (pe_cmpR (cop_ok g c.1.1.1) (soundE a g sp tk c.1.2) (soundE b g sp tk c.2) c.1.1.2) fun σ H Q t => tOp_ev σ H Q (by rw [evE_cmp] at t; exact t)
    · cases c
  | .chn op p a b d, S, X, W, sc, e, g, sp, tk, c => by
    simp only [chkE] at c
    split at c
    · simp only [Bool.and_eq_true, Bool.not_eq_true'] at c
      exact pe_imp (pe_chain (cop_ok g c.1.1.1.1.1) (cop_ok g c.1.1.1.1.2) (soundE a g sp tk c.1.1.2) (soundE b g sp tk c.1.2) (soundE d g sp tk c.2) c.1.1.1.2) tChn_ev
    · cases c
  | .and a b, S, X, W, sc, e, g, sp, tk, c => by
    simp only [chkE] at c
    split at c
    · simp only [Bool.and_eq_true] at c
      exact pe_imp (pe_andT (soundE a g sp tk c.1) (pe_one (soundE b g sp tk c.2))) fun σ H Q t => by
        have := tAnd_ev σ H Q t
        rw [g.K] at this; exact this
    · simp only [Bool.and_eq_true] at c
      exact pe_imp (pe_andT (soundE a g sp tk c.1) (soundE b g sp tk c.2)) fun σ H Q t => by
        have := tAnd_ev σ H Q t
        rw [g.K] at this; exact this
    · cases c
  | .or a b, S, X, W, sc, e, g, sp, tk, c => by
    simp only [chkE] at c
    split at c
    · simp only [Bool.and_eq_true] at c
      exact pe_imp (pe_orT (soundE a g sp tk c.1) (pe_one (soundE b g sp tk c.2))) fun σ H Q t => by
        have := tOr_ev σ H Q t
        rw [g.K] at this; exact this
    · simp only [Bool.and_eq_true] at c
      exact pe_imp (pe_orT (soundE a g sp tk c.1) (soundE b g sp tk c.2)) fun σ H Q t => by
        have := tOr_ev σ H Q t
        rw [g.K] at this; exact this
    · cases c
  | .ite d a b, S, X, W, sc, e, g, sp, tk, c => by
    simp only [chkE] at c
    split at c
    · simp only [Bool.and_eq_true] at c
      exact pe_imp (pe_ifExp (soundT d g sp tk c.1.1) (soundE a g sp tk c.1.2) (soundE b g sp tk c.2)) tIte_ev
    · cases c
  | .tup es, S, X, W, sc, e, g, sp, tk, c => by
    simp only [chkE] at c
    split at c
    · exact pe_imp (pe_tup (soundA es g sp tk c)) tTup_ev
    · cases c
  | .lst z es, S, X, W, sc, e, g, sp, tk, c => by
    simp only [chkE] at c
    split at c
    · cases z with
      | false => exact pe_imp (pe_lst (soundA es g sp tk c)) tLst_ev
      | true => exact pe_imp (pe_frz (pe_lst (soundA es g sp tk c))) tLstF_ev
    · cases c
  | .call f es, S, X, W, sc, e, g, sp, tk, c => by
    simp only [chkE] at c
    split at c
    · simp only [Bool.and_eq_true, beq_iff_eq] at c
      obtain ⟨⟨⟨⟨⟨⟨⟨c1, c2⟩, c3⟩, c30⟩, cr⟩, c4⟩, cp⟩, c5⟩ := c
      subst c3
      obtain ⟨⟨ps, fd⟩, hf⟩ := Option.isSome_iff_exists.mp c4
      obtain ⟨a, fdt, e1, e2, e3, F⟩ := g.fns f ps fd hf c30
      have hgd : S.rp f = true → X.A.guards = some [] := fun z => g.gd (by rw [z] at cr; simpa using cr)
      have c6 := c5
      cases es with
      | nil => simp [chkA] at c6
      | star _ _ => simp [plainX] at cp
      | cons x xs =>
        simp only [chkA, Bool.and_eq_true] at c6
        exact pe_imp (pe_callZ F hgd (g.room.mono (Nat.le_succ _)) (sp.gl _ c1) e1 e2 e3 (fun σ => passAt tk σ) (soundA _ g sp tk c5) (okNm_dbg c2).1 (starEach_cons c6.1.1) (noStars (by simpa [plainX] using cp) c6.2).1) tCall_ev
    · cases c
  | .make d f es, S, X, W, sc, e, g, sp, tk, c => by
    simp only [chkE] at c
    split at c
    · simp only [Bool.and_eq_true, beq_iff_eq] at c
      obtain ⟨⟨⟨⟨⟨⟨⟨c1, c2⟩, c3⟩, c30⟩, cr⟩, c4⟩, cp⟩, c5⟩ := c
      subst c3
      obtain ⟨⟨ps, fd⟩, hf⟩ := Option.isSome_iff_exists.mp c4
      obtain ⟨D, a, fdt, e1, e2, e3, F0⟩ := g.mks d f ps fd hf c30
      have F := F0.fnOk (by simpa using cr)
      have c6 := c5
      cases es with
      | nil => simp [chkA] at c6
      | star _ _ => simp [plainX] at cp
      | cons x xs =>
        simp only [chkA, Bool.and_eq_true] at c6
        exact pe_imp (pe_make (E := fun _ _ _ => False) e2 F g.room (sp.gl _ c1) e1 e3 .nil pass_no (soundA _ g sp tk c5) (okNm_dbg c2).1 (starEach_cons c6.1.1) (noStars (by simpa [plainX] using cp) c6.2).1) (tMake_ev g e1)
    · cases c
  | .blt b es, S, X, W, sc, e, g, sp, tk, c => by
    simp only [chkE] at c
    split at c
    · simp only [Bool.and_eq_true, beq_iff_eq] at c
      obtain ⟨⟨⟨⟨⟨c1, c2⟩, cr⟩, c3⟩, cp⟩, c5⟩ := c
      subst c2
      have hgr : b = .reprc → X.A.guards = some [] := fun z => g.gd (by rw [z] at cr; simpa using cr)
      have c6 := c5
      cases es with
      | nil => simp [chkA] at c6
      | star _ _ => simp [plainX] at cp
      | cons x xs =>
        simp only [chkA, Bool.and_eq_true] at c6
        have nm := bi_nm b
        have cz := call_Z g.K g.w g.calm g.room.units b hgr
        rcases bi_boot b with ⟨id, e1, e2⟩ | ⟨T, e1, e2⟩
        · rw [e2] at cz
          exact pe_imp (pe_callB cz (sp.gl _ c1) (g.blt _ c3) e1 (soundA _ g sp tk c5) nm.1 nm.2 (starEach_cons c6.1.1) (noStars (by simpa [plainX] using cp) c6.2).1) tBlt_ev
        · rw [e2] at cz
          exact pe_imp (pe_callTy cz (sp.gl _ c1) (g.blt _ c3) e1 (soundA _ g sp tk c5) nm.1 nm.2 (starEach_cons c6.1.1) (noStars (by simpa [plainX] using cp) c6.2).1) tBlt_ev
    · cases c
  | .meth m o es, S, X, W, sc, e, g, sp, tk, c => by
    simp only [chkE] at c
    split at c
    · simp only [Bool.and_eq_true, decide_eq_true_eq] at c
      obtain ⟨⟨⟨⟨⟨⟨c1, c2⟩, c3⟩, c4⟩, c5⟩, cp⟩, c6⟩ := c
      have c7 := c6
      cases es with
      | nil => simp [chkA] at c7
      | star _ _ => simp [plainX] at cp
      | cons x xs =>
        simp only [chkA, Bool.and_eq_true] at c7
        cases m with
        | append =>
          have e1 := beq_iff_eq.mp c1
          subst e1
          exact pe_imp (pe_bm PySem.F.plainAttrs_list PySem.F.slot_list_append PySem.F.type_list_append mt_app (soundE o g sp tk c5) (soundA _ g sp tk c6) (noSuper_base c2) (by simp only [Bool.and_eq_true, decide_eq_true_eq]; exact ⟨⟨(noStars cp c6).2, rfl⟩, c4⟩) c3 (starEach_cons c7.1.1) (noStars (by simpa [plainX] using cp) c7.2).1) tMeth_ev
        | extend =>
          have e1 := beq_iff_eq.mp c1
          subst e1
          exact pe_imp (pe_bm PySem.F.plainAttrs_list PySem.F.slot_list_extend PySem.F.type_list_extend mt_ext (soundE o g sp tk c5) (soundA _ g sp tk c6) (noSuper_base c2) (by simp only [Bool.and_eq_true, decide_eq_true_eq]; exact ⟨⟨(noStars cp c6).2, rfl⟩, c4⟩) c3 (starEach_cons c7.1.1) (noStars (by simpa [plainX] using cp) c7.2).1) tMeth_ev
    · cases c
  | .sub o i, S, X, W, sc, e, g, sp, tk, c => by
    simp only [chkE] at c
    split at c
    · simp only [Bool.and_eq_true] at c
      exact pe_imp (pe_ix (ix_subZ g.K g.P g.w g.room.units) (soundE o g sp tk c.1.2) (soundE i g sp tk c.2) (noSlice_plain c.1.1)) fun σ H Q t => tOp_ev σ H Q (by rw [evE_sub] at t; exact t)
    · cases c
  | .slc o lo hi, S, X, W, sc, e, g, sp, tk, c => by
    simp only [chkE] at c
    split at c
    · simp only [Bool.and_eq_true] at c
      exact pe_imp (pe_slice (sl_Z g.K) (soundE o g sp tk c.1.1) (soundO lo g sp tk c.1.2) (soundO hi g sp tk c.2)) tSlc_ev
    · cases c
  | .attr o f, S, X, W, sc, e, g, sp, tk, c => by
    simp only [chkE] at c
    split at c
    · simp only [Bool.and_eq_true, beq_iff_eq] at c
      obtain ⟨⟨c1, c2⟩, c3⟩ := c
      subst c1
      exact pe_imp (pe_attrZ g (soundE o g sp tk c3) (noSuper_base c2)) fun σ H Q t => by rw [evE_attr] at t; exact t
    · cases c
  | .lc z elt tg it ifs own, S, X, W, sc, e, g, sp, tk, c => by
    simp only [chkE] at c
    split at c
    · simp only [Bool.and_eq_true, beq_iff_eq] at c
      obtain ⟨⟨⟨⟨⟨⟨⟨c1, c2⟩, c3⟩, c4⟩, c5⟩, c6⟩, c7⟩, c8⟩ := c
      have ok0 := blkOk_by c2
      have ok : BlkOk X.N X.env.scope _ (ownOf X.N own) := ⟨ok0.kind, ok0.uniq, ok0.ix, fun y hy e => sp.cf y.1 (ok0.free y hy e), ok0.own⟩
      have gB := fun (s : Shared) (H : Hp) (A : Addr) (cl : List (Str × Addr)) (fp : List Addr) => g.blk (s := s) (H := H) (cl := cl) (A := A) (fp := fp) ok.kind
      have hs : ∀ i, i ∈ slotsT tg → i ∈ own := fun i hi => by
        have := List.all_eq_true.mp c5 i hi
        simpa using this
      refine pe_imp (t := fun σ H Q => tLc (iEv G W (evI C it)) (gEv G tg) (tEvT G W0 (evT1 C ifs)) (tEv G W0 (evE C elt)) own σ H (zQ z Q)) ?_ fun σ H Q t => tLc_ev hs σ H Q _ (fun _ _ q => q) (by rw [evE_lc] at t; exact t)
      rw [← c3]
      refine pe_zQ (pe_lc g.calm g.nd (soundI it g sp tk c1) ok (fun s H A cl fp => soundG tg g.K g.nd g.calm .blk c4) (fun s H A cl fp => ?_) (fun s H A cl fp => soundE elt (gB s H A cl fp) .blk takes0 c8) (foldedSet c6))
      split at c7
      · split at c7
        · refine ⟨fun pins s σ H Q I q => pts_nil.run pins s σ H Q I ?_⟩
          obtain ⟨φ, l, h, rh, rl, p⟩ := q
          unfold evT1 at p
          exact p φ H .refl rh
        · cases c7
      · simp only [Bool.and_eq_true] at c7
        cases ifs with
        | no => simp at c7
        | yes cd =>
          simp only [chkOp] at c7
          have := pts_one (soundT cd (gB s H A cl fp) .blk (takes0 (X := X.blk s H _ (compEnvC _ cl A X.env) fp)) c7.2)
          refine ⟨fun pins s σ H Q I q => this.run pins s σ H Q I ?_⟩
          obtain ⟨φ, l, h, rh, rl, p⟩ := q
          unfold evT1 at p
          exact ⟨φ, l, h, rh, rl, p⟩
      · cases c7
    · cases c
  | .dic0 z, S, X, W, sc, e, g, sp, tk, c => by
    simp only [chkE] at c
    split at c
    · cases z with
      | false =>
        refine pe_imp pe_dnewK fun σ H Q t => ?_
        obtain ⟨φ, l, h, rh, rl, p⟩ := t
        unfold evE at p
        exact new_dic rh p
      | true =>
        refine pe_imp (pe_frz pe_dnewK) fun σ H Q t => ?_
        obtain ⟨φ, l, h, rh, rl, p⟩ := t
        unfold evE at p
        exact fun q hq => ⟨q, _, rfl, upd_same, trivial, new_fd rh p q hq⟩
    · cases c
  | .met m b, S, X, W, sc, e, g, sp, tk, c => by
    simp only [chkE] at c
    split at c
    · rename_i x p1 b' sc' p2 p3
      simp only [Bool.and_eq_true, beq_iff_eq] at c
      obtain ⟨⟨⟨⟨⟨⟨c1, c2⟩, c3⟩, c4⟩, c5⟩, c6⟩, c7⟩ := c
      subst c3
      obtain ⟨hs, last, gg, fdt, st, a, Ng, m1, m2, F, m4, m5, m6, m7⟩ := g.met m c4
      obtain ⟨oc, od, dV, kV, doc, pm, an, cdv, ct, osl, rfl, lk, hcd, _, _⟩ := F.ex
      obtain ⟨rm, cc, P, l1, l2, l3, l4⟩ := g.lam c5
      have L : LamX.LamS X.env.scope sc' := lamS_sp sp (LamX.lamS_by c6)
      have n0 : Ng[0]? = some a := by
        have := m5.pre
        cases Ng with
        | nil => simp at this
        | cons y r => simpa using this
      have va : Vis (defScope st) a := (m5.par a List.mem_cons_self).elim .inl fun z => .inr (.inl z)
      have da := metB_nm m6
      exact pe_imp (LamX.pe_lamcall (k := k + 1) (sp.gl _ c1) m2 F.kp lk hcd m4 m5 n0 va (met_gives m5.nd m7 m6 (fun f => by rw [start0 n0])) l2 l1 l3 l4 rm L rfl (fun _ _ _ _ _ => rfl)
        (fun A outer s H E f c' hr => soundE b (g.lamC L.kind hr) (.lamC L) (takes_of rfl rfl rfl rfl) c7) (okNm_dbg c2).1 da.1 da.2.1) (tMet_ev g m1)
    · cases c
theorem soundT : ∀ (ir : Ex) {S : Sg} {X : Cx} {W : WX} {sc : Scope} {e : Expr}, Glob S G C k X → Scp sc.names X → Takes X W → chkE S X.N sc ir e = true → PT X e (tEvT G W fun l h => truthR (evE C ir l h))
  | .not a, S, X, W, sc, e, g, sp, tk, c => by
    simp only [chkE] at c
    split at c
    · exact pt_imp (pt_not (soundT a g sp tk c)) ttNot_ev
    · cases c
  | .cmp op a b, S, X, W, sc, e, g, sp, tk, c => by
    simp only [chkE] at c
    split at c
    · simp only [Bool.and_eq_true, Bool.not_eq_true'] at c
      refine pt_imp (pt_cmpR (cop_ok g c.1.1.1) (soundE a g sp tk c.1.2) (soundE b g sp tk c.2) c.1.1.2) fun σ H Q t => ?_
      have z := tTest_ev (f := evE C (.cmp op a b)) (fun l h d h' e => cmp_bl l h d h' (by unfold evE at e; exact e)) σ H Q t
      exact tOp_ev (W := W) (F := cmpF op) σ H _ (by rw [evE_cmp] at z; exact z)
    · cases c
  | .chn op p a b d, S, X, W, sc, e, g, sp, tk, c => by
    simp only [chkE] at c
    split at c
    · simp only [Bool.and_eq_true, Bool.not_eq_true'] at c
      refine pt_imp (pt_chain (cop_ok g c.1.1.1.1.1) (cop_ok g c.1.1.1.1.2) (soundE a g sp tk c.1.1.2) (soundE b g sp tk c.1.2) (soundE d g sp tk c.2) c.1.1.1.2) fun σ H Q t => ?_
      exact tChn_ev σ H _ (tTest_ev chn_bl σ H Q t)
    · cases c
  | .and a b, S, X, W, sc, e, g, sp, tk, c => by
    simp only [chkE] at c
    split at c
    · simp only [Bool.and_eq_true] at c
      exact pt_imp (pw_and (soundT a g sp tk c.1) (pw_and1 (soundT b g sp tk c.2))).pt ttAnd_ev
    · simp only [Bool.and_eq_true] at c
      exact pt_imp (pw_and (soundT a g sp tk c.1) (pw_of_pt (soundT b g sp tk c.2))).pt ttAnd_ev
    · cases c
  | .or a b, S, X, W, sc, e, g, sp, tk, c => by
    simp only [chkE] at c
    split at c
    · simp only [Bool.and_eq_true] at c
      exact pt_imp (pw_or (soundT a g sp tk c.1) (pw_or1 (soundT b g sp tk c.2))).pt ttOr_ev
    · simp only [Bool.and_eq_true] at c
      exact pt_imp (pw_or (soundT a g sp tk c.1) (pw_of_pt (soundT b g sp tk c.2))).pt ttOr_ev
    · cases c
  | .ite d a b, S, X, W, sc, e, g, sp, tk, c => by
    simp only [chkE] at c
    split at c
    · simp only [Bool.and_eq_true] at c
      exact pt_imp (pt_ifExp (soundT d g sp tk c.1.1) (soundT a g sp tk c.1.2) (soundT b g sp tk c.2)) ttIte_ev
    · cases c
  | .loc i, S, X, W, sc, e, g, sp, tk, c => by
    have h := soundE (.loc i) g sp tk c
    simp only [chkE] at c
    split at c
    · exact pt_pl g.K h rfl
    · cases c
  | .con d, S, X, W, sc, e, g, sp, tk, c => by
    have h := soundE (.con d) g sp tk c
    simp only [chkE] at c
    split at c
    · exact pt_pl g.K h rfl
    · exact pt_pl g.K h rfl
    · cases c
  | .bin op a b, S, X, W, sc, e, g, sp, tk, c => by
    have h := soundE (.bin op a b) g sp tk c
    simp only [chkE] at c
    split at c
    · exact pt_pl g.K h rfl
    · cases c
  | .neg a, S, X, W, sc, e, g, sp, tk, c => by
    have h := soundE (.neg a) g sp tk c
    simp only [chkE] at c
    split at c
    · exact pt_pl g.K h rfl
    · cases c
  | .tup es, S, X, W, sc, e, g, sp, tk, c => by
    have h := soundE (.tup es) g sp tk c
    simp only [chkE] at c
    split at c
    · exact pt_pl g.K h rfl
    · cases c
  | .lst z es, S, X, W, sc, e, g, sp, tk, c => by
    have h := soundE (.lst z es) g sp tk c
    simp only [chkE] at c
    split at c
    · exact pt_pl g.K h rfl
    · cases c
  | .call f es, S, X, W, sc, e, g, sp, tk, c => by
    have h := soundE (.call f es) g sp tk c
    simp only [chkE] at c
    split at c
    · exact pt_pl g.K h rfl
    · cases c
  | .make d f es, S, X, W, sc, e, g, sp, tk, c => by
    have h := soundE (.make d f es) g sp tk c
    simp only [chkE] at c
    split at c
    · exact pt_pl g.K h rfl
    · cases c
  | .blt b es, S, X, W, sc, e, g, sp, tk, c => by
    have h := soundE (.blt b es) g sp tk c
    simp only [chkE] at c
    split at c
    · exact pt_pl g.K h rfl
    · cases c
  | .meth m o es, S, X, W, sc, e, g, sp, tk, c => by
    have h := soundE (.meth m o es) g sp tk c
    simp only [chkE] at c
    split at c
    · exact pt_pl g.K h rfl
    · cases c
  | .sub o i, S, X, W, sc, e, g, sp, tk, c => by
    have h := soundE (.sub o i) g sp tk c
    simp only [chkE] at c
    split at c
    · exact pt_pl g.K h rfl
    · cases c
  | .slc o lo hi, S, X, W, sc, e, g, sp, tk, c => by
    have h := soundE (.slc o lo hi) g sp tk c
    simp only [chkE] at c
    split at c
    · exact pt_pl g.K h rfl
    · cases c
  | .attr o f, S, X, W, sc, e, g, sp, tk, c => by
    have h := soundE (.attr o f) g sp tk c
    simp only [chkE] at c
    split at c
    · exact pt_pl g.K h rfl
    · cases c
  | .met m b, S, X, W, sc, e, g, sp, tk, c => by
    have h := soundE (.met m b) g sp tk c
    simp only [chkE] at c
    split at c
    · exact pt_pl g.K h rfl
    · cases c
  | .lc z elt tg it ifs own, S, X, W, sc, e, g, sp, tk, c => by
    have h := soundE (.lc z elt tg it ifs own) g sp tk c
    simp only [chkE] at c
    split at c
    · exact pt_pl g.K h rfl
    · cases c
  | .dic0 z, S, X, W, sc, e, g, sp, tk, c => by
    have h := soundE (.dic0 z) g sp tk c
    simp only [chkE] at c
    split at c
    · exact pt_pl g.K h rfl
    · cases c
theorem soundA : ∀ (ir : Exs) {S : Sg} {X : Cx} {W : WX} {sc : Scope} {es : List Expr}, Glob S G C k X → Scp sc.names X → Takes X W → chkA S X.N sc ir es = true → PA X es (tEvA G W (evA C ir))
  | .nil, S, X, W, sc, es, g, sp, tk, c => by
    cases es with
    | cons _ _ => simp [chkA] at c
    | nil => exact pa_imp pa_nil fun σ H Q t => tNil_ev (G := G) (W := W) σ H Q (by rw [evA_nil] at t; exact t)
  | .cons e r, S, X, W, sc, es, g, sp, tk, c => by
    cases es with
    | nil => simp [chkA] at c
    | cons x xs =>
      simp only [chkA, Bool.and_eq_true] at c
      exact pa_imp (pa_cons (soundE e g sp tk c.1.2) (soundA r g sp tk c.2) (starEach_cons c.1.1)) fun σ H Q t => tCons_ev σ H Q (by rw [evA_cons] at t; exact t)
  | .star e r, S, X, W, sc, es, g, sp, tk, c => by
    simp only [chkA] at c
    split at c
    · simp only [Bool.and_eq_true] at c
      exact pa_imp (StX.pa_star (soundE e g sp tk c.1) (soundA r g sp tk c.2) rfl) fun σ H Q t => by
        have := tStar_ev (e := e) (r := r) σ H Q t
        rw [g.K] at this; exact this
    · cases c
theorem soundO : ∀ (ir : Op) {S : Sg} {X : Cx} {W : WX} {sc : Scope} {o : Option Expr}, Glob S G C k X → Scp sc.names X → Takes X W → chkOp S X.N sc ir o = true → PO X o (tEvO G W (evOp C ir))
  | .no, S, X, W, sc, o, g, sp, tk, c => by
    cases o with
    | some _ => simp [chkOp] at c
    | none => exact ⟨fun pins s σ H Q I q => po_none.run pins s σ H Q I (tNoPart_ev σ H Q q)⟩
  | .yes e, S, X, W, sc, o, g, sp, tk, c => by
    cases o with
    | none => simp [chkOp] at c
    | some x =>
      simp only [chkOp] at c
      exact ⟨fun pins s σ H Q I q => (po_some (soundE e g sp tk c)).run pins s σ H Q I (tPart_ev σ H Q q)⟩
theorem soundI : ∀ (ir : Itr) {S : Sg} {X : Cx} {W : WX} {sc : Scope} {tg e : Expr}, Glob S G C k X → Scp sc.names X → Takes X W → chkI S X.N sc ir tg e = true → PI X tg e (iEv G W (evI C ir))
  | .val v, S, X, W, sc, tg, e, g, sp, tk, c => by
    simp only [chkI] at c
    have h := pi_valZ (tg := tg) g.K (soundE v g sp tk c)
    exact ⟨fun pins s σ H R' I q => h.run pins s σ H R' I (by rw [evI_val] at q; exact q)⟩
  | .rng1 v, S, X, W, sc, tg, e, g, sp, tk, c => by
    simp only [chkI] at c
    split at c
    · simp only [Bool.and_eq_true, beq_iff_eq] at c
      obtain ⟨⟨⟨⟨c1, c2⟩, c3⟩, c4⟩, c5⟩ := c
      subst c2
      rename_i _ p1 _ p2
      have h := pi_range1 (tg := tg) (p := p1) (pos := p2) (sp.gl _ c1) (g.blt _ c3) (pa_cons (soundE v g sp tk c5) (pa_imp pa_nil (tNil_ev (G := G) (W := W))) (starEach_cons c4)) (starEach_cons c4)
      exact ⟨fun pins s σ H R' I q => h.run pins s σ H R' I (by
        obtain ⟨φ, l, h0, rh, rl, p⟩ := iRng1_ev σ H R' q
        exact tCons_ev σ H _ ⟨φ, l, h0, rh, rl, p⟩)⟩
    · cases c
  | .rng2 a b, S, X, W, sc, tg, e, g, sp, tk, c => by
    simp only [chkI] at c
    split at c
    · simp only [Bool.and_eq_true, beq_iff_eq] at c
      obtain ⟨⟨⟨⟨⟨⟨c1, c2⟩, c3⟩, c4⟩, c5⟩, c6⟩, c7⟩ := c
      subst c2
      have pn := pa_cons (soundE b g sp tk c7) (pa_imp pa_nil (tNil_ev (G := G) (W := W))) (starEach_cons c5)
      have pn2 := pa_imp pn (t' := tEvA G W (evCons (evE C b) evNil)) (fun σ H Q t => tCons_ev σ H Q t)
      rename_i _ p1 _ _ p2
      have h := pi_range2 (tg := tg) (p := p1) (pos := p2) (sp.gl _ c1) (g.blt _ c3) (pa_cons (soundE a g sp tk c6) pn2 (starEach_cons c4)) (by rw [starEach_cons c4, starEach_cons c5]; rfl) (starEach_cons c5)
      exact ⟨fun pins s σ H R' I q => h.run pins s σ H R' I (by
        obtain ⟨φ, l, h0, rh, rl, p⟩ := iRng2_ev σ H R' q
        exact tCons_ev σ H _ ⟨φ, l, h0, rh, rl, p⟩)⟩
    · cases c
  | .enm _, S, X, W, sc, tg, e, g, sp, tk, c => by simp [chkI] at c
  | .zp _ _, S, X, W, sc, tg, e, g, sp, tk, c => by simp [chkI] at c
end
end
end Zed
end
section
set_option Elab.async false
set_option linter.all false
set_option maxRecDepth 100000
set_option maxHeartbeats 4000000
namespace Zed
open PySem L2
section
variable {S : Sg} {G : Gc} {C : Orc} {k : Nat} {φ φ' : List Addr} {h h' : PHeap} {H H' : Hp} {l : Loc} {σ : St}
def PostS (G : Gc) (φ : List Addr) (H : Hp) (r : RS) (D : Ends) (W : WX) : Prop :=
  match r with
  | .nx l' h' => ∀ φ' H' σ', Ext φ H φ' H' → RelH G φ' h' H' → RepL G φ' H' l' σ' → D.nx σ' H'
  | .rt d h' => ∀ φ' H' v, Ext φ H φ' H' → RelH G φ' h' H' → RepV G φ' H' d v → D.rt v H'
  | .bk l' h' => ∀ φ' H' σ', Ext φ H φ' H' → RelH G φ' h' H' → RepL G φ' H' l' σ' → D.bk σ' H'
  | .ct l' h' => ∀ φ' H' σ', Ext φ H φ' H' → RelH G φ' h' H' → RepL G φ' H' l' σ' → D.ct σ' H'
  | .exc c fs l' h' => ∀ φ' H' σ' cls dd, Ext φ H φ' H' → RelH G φ' h' H' → RepL G φ' H' l' σ' → RepX G φ' H' c fs cls dd → W cls dd σ' H'
  | .stuck => False
def tEvS (G : Gc) (W : WX) (f : Loc → PHeap → RS) : TS := fun D σ H => ∃ φ l h, RelH G φ h H ∧ RepL G φ H l σ ∧ PostS G φ H (f l h) D W
theorem PostS.ext {φ1 : List Addr} {H1 : Hp} {r : RS} {D : Ends} {W : WX} (x : Ext φ H φ1 H1) (p : PostS G φ H r D W) : PostS G φ1 H1 r D W := by
  cases r with
  | nx l' h' => exact fun φ' H' v x1 rh rv => p φ' H' v (x.trans x1) rh rv
  | rt l' h' => exact fun φ' H' v x1 rh rv => p φ' H' v (x.trans x1) rh rv
  | bk l' h' => exact fun φ' H' v x1 rh rv => p φ' H' v (x.trans x1) rh rv
  | ct l' h' => exact fun φ' H' v x1 rh rv => p φ' H' v (x.trans x1) rh rv
  | exc c fs l' h' => exact fun φ' H' s cls dd x1 rh rl rx => p φ' H' s cls dd (x.trans x1) rh rl rx
  | stuck => exact p
/-- an expression, then a statement's rest -/
theorem Post.toS {W : WX} {r : R PV} {kk : PV → PHeap → RS} {D : Ends} (rh : RelH G φ h H) (rl : RepL G φ H l σ) (p : PostS G φ H (r.toS l kk) D W) :
    Post G φ H r (fun v H1 => ∃ φ1 h1 d1, Ext φ H φ1 H1 ∧ RelH G φ1 h1 H1 ∧ RepV G φ1 H1 d1 v ∧ RepL G φ1 H1 l σ ∧ PostS G φ1 H1 (kk d1 h1) D W) (fun c d H' => W c d σ H') := by
  cases r with
  | ok d h' => exact fun φ' H' v x rh' rv => ⟨φ', h', d, x, rh', rv, repL_ext rh x rl, PostS.ext x p⟩
  | exc c fs h' => exact fun φ' H' cls dd x rh' rx => p φ' H' σ cls dd x rh' (repL_ext rh x rl) rx
  | stuck => exact p
theorem PostT.toS {W : WX} {r : R Bool} {kk : Bool → PHeap → RS} {D : Ends} (rh : RelH G φ h H) (rl : RepL G φ H l σ) (p : PostS G φ H (r.toS l kk) D W) :
    PostT G φ H r (fun b H1 => ∃ φ1 h1, Ext φ H φ1 H1 ∧ RelH G φ1 h1 H1 ∧ RepL G φ1 H1 l σ ∧ PostS G φ1 H1 (kk b h1) D W) (fun c d H' => W c d σ H') := by
  cases r with
  | ok d h' => exact fun φ' H' x rh' => ⟨φ', h', x, rh', repL_ext rh x rl, PostS.ext x p⟩
  | exc c fs h' => exact fun φ' H' cls dd x rh' rx => p φ' H' σ cls dd x rh' (repL_ext rh x rl) rx
  | stuck => exact p
theorem PostI.toS {W : WX} {r : R Src} {kk : Src → PHeap → RS} {D : Ends} (rh : RelH G φ h H) (rl : RepL G φ H l σ) (p : PostS G φ H (r.toS l kk) D W) :
    PostI G φ H r (fun J H1 => ∃ φ1 h1 src, Ext φ H φ1 H1 ∧ RelH G φ1 h1 H1 ∧ ItOk G φ1 H1 src J ∧ RepL G φ1 H1 l σ ∧ PostS G φ1 H1 (kk src h1) D W) (fun c d H' => W c d σ H') := by
  cases r with
  | ok d h' => exact fun φ' H' J x rh' hj => ⟨φ', h', d, x, rh', hj, repL_ext rh x rl, PostS.ext x p⟩
  | exc c fs h' => exact fun φ' H' cls dd x rh' rx => p φ' H' σ cls dd x rh' (repL_ext rh x rl) rx
  | stuck => exact p
theorem tDrop_ev {W : WX} {e : Ex} (D : Ends) (σ : St) (H : Hp) (t : tEvS G W (exS C (.ex e)) D σ H) : tDrop (tEv G W (evE C e)) D σ H := by
  obtain ⟨φ, l, h, rh, rl, p⟩ := t
  unfold exS at p
  refine ⟨φ, l, h, rh, rl, Post.mono (Post.toS rh rl p) fun v H1 ⟨φ1, h1, d1, x1, rh1, rv1, rl1, p1⟩ => p1 φ1 H1 σ .refl rh1 rl1⟩
theorem tRet_ev {W : WX} {e : Ex} (D : Ends) (σ : St) (H : Hp) (t : tEvS G W (exS C (.ret e)) D σ H) : tRet (tEv G W (evE C e)) D σ H := by
  obtain ⟨φ, l, h, rh, rl, p⟩ := t
  unfold exS at p
  refine ⟨φ, l, h, rh, rl, Post.mono (Post.toS rh rl p) fun v H1 ⟨φ1, h1, d1, x1, rh1, rv1, rl1, p1⟩ => p1 φ1 H1 v .refl rh1 rv1⟩
theorem tRetN_ev {W : WX} (D : Ends) (σ : St) (H : Hp) (t : tEvS G W (exS C .ret0) D σ H) : tRetN D σ H := by
  obtain ⟨φ, l, h, rh, rl, p⟩ := t
  unfold exS at p
  exact p φ H _ .refl rh .non
theorem asg_bind {W : WX} {t : Tg} {v : V} {d : PV} {D : Ends} (rh : RelH G φ h H) (rl : RepL G φ H l σ) (rv : RepV G φ H d v)
    (p : PostS G φ H (match bindT t d l with | some l1 => .nx l1 h | none => .stuck) D W) : gEv G t v σ H D.nx := by
  cases z : bindT t d l with
  | none => rw [z] at p; exact p.elim
  | some l1 => rw [z] at p; exact ⟨φ, h, l, d, l1, rh, rl, rv, z, fun σ' rl' _ => p φ H σ' .refl rh rl'⟩
theorem tAsg_ev {W : WX} {t : Tg} {e : Ex} (D : Ends) (σ : St) (H : Hp) (q : tEvS G W (exS C (.asg t e)) D σ H) : tAsg (tEv G W (evE C e)) (gEv G t) D σ H := by
  obtain ⟨φ, l, h, rh, rl, p⟩ := q
  unfold exS at p
  refine ⟨φ, l, h, rh, rl, Post.mono (Post.toS rh rl p) fun v H1 ⟨φ1, h1, d1, x1, rh1, rv1, rl1, p1⟩ => ?_⟩
  refine asg_bind (W := W) (h := h1) rh1 rl1 rv1 ?_
  cases z : bindT t d1 l with
  | none => rw [z] at p1; exact p1
  | some l1 => rw [z] at p1; exact p1
theorem tIff_ev {W : WX} {c : Ex} {a b : Sxs} (D : Ends) (σ : St) (H : Hp) (q : tEvS G W (exS C (.iff c a b)) D σ H) : tIfS (tEvT G W fun l h => truthR (evE C c l h)) (tEvS G W (exSs C a)) (tEvS G W (exSs C b)) D σ H := by
  obtain ⟨φ, l, h, rh, rl, p⟩ := q
  unfold exS at p
  refine ⟨φ, l, h, rh, rl, PostT.mono (PostT.toS rh rl p) fun k H1 ⟨φ1, h1, x1, rh1, rl1, p1⟩ => ?_⟩
  cases k with
  | true => rw [if_pos rfl]; exact ⟨φ1, l, h1, rh1, rl1, p1⟩
  | false => rw [if_neg Bool.false_ne_true]; exact ⟨φ1, l, h1, rh1, rl1, p1⟩
theorem tSeq_ev {W : WX} {s : Sx} {r : Sxs} (D : Ends) (σ : St) (H : Hp) (q : tEvS G W (exSs C (.cons s r)) D σ H) : tSeq (tEvS G W (exS C s)) (tEvS G W (exSs C r)) D σ H := by
  obtain ⟨φ, l, h, rh, rl, p⟩ := q
  unfold exSs at p
  refine ⟨φ, l, h, rh, rl, ?_⟩
  cases z : exS C s l h with
  | nx l1 h1 =>
    rw [z] at p
    exact fun φ' H' σ' x rh' rl' => ⟨φ', l1, h1, rh', rl', PostS.ext x p⟩
  | rt d h1 => rw [z] at p; exact p
  | bk l1 h1 => rw [z] at p; exact p
  | ct l1 h1 => rw [z] at p; exact p
  | exc c fs l1 h1 => rw [z] at p; exact p
  | stuck => rw [z] at p; exact p
theorem tNext_ev {W : WX} (D : Ends) (σ : St) (H : Hp) (q : tEvS G W (exSs C .nil) D σ H) : tNext D σ H := by
  obtain ⟨φ, l, h, rh, rl, p⟩ := q
  unfold exSs at p
  exact p φ H σ .refl rh rl
/-- a for: the loop from turn i on, by the fuel that is left -/
theorem tFor_ev {W : WX} {tg : Tg} {fi : Loc → PHeap → R Src} {fb : Loc → PHeap → RS} (D : Ends) (σ : St) (H : Hp)
    (q : tEvS G W (fun l h => (fi l h).toS l fun src h1 => forLoop tg src fb (srcLen h1 src + 1) 0 l h1) D σ H) : tFor (iEv G W fi) (gEv G tg) (tEvS G W fb) D σ H := by
  obtain ⟨φ, l, h, rh, rl, p⟩ := q
  refine ⟨φ, l, h, rh, rl, ?_⟩
  have p : PostS G φ H ((fi l h).toS l fun src h1 => forLoop tg src fb (srcLen h1 src + 1) 0 l h1) D W := p
  cases ei : fi l h with
  | stuck => rw [ei] at p; exact p.elim
  | exc c fs h' => rw [ei] at p; exact fun φ' H' cls dd x rh' rx => p φ' H' σ cls dd x rh' (repL_ext rh x rl) rx
  | ok src h1 =>
    intro φ1 H1 J x1 rh1 hj
    have p : PostS G φ H (forLoop tg src fb (srcLen h1 src + 1) 0 l h1) D W := by
      rw [ei] at p; exact p
    refine ⟨fun i m σ' H' => ∃ φ' l' h', Ext φ1 H1 φ' H' ∧ RelH G φ' h' H' ∧ RepL G φ' H' l' σ' ∧ PostS G φ' H' (forLoop tg src fb m i l' h') D W,
      ⟨srcLen h1 src + 1, φ1, l, h1, .refl, rh1, repL_ext rh x1 rl, PostS.ext x1 p⟩, ?_⟩
    rintro i m σ2 H2 ⟨φ2, l2, h2, x2, rh2, rl2, p2⟩
    cases m with
    | zero => simp only [forLoop] at p2; exact p2.elim
    | succ m =>
      unfold forLoop at p2
      have J2 := hj φ2 h2 H2 x2 rh2 i
      cases es : srcAt h2 i src with
      | none => rw [es] at p2; exact p2.elim
      | some so =>
        rw [es] at p2
        cases so with
        | none => exact .inl ⟨J2.1 es, p2 φ2 H2 σ2 .refl rh2 rl2⟩
        | some d =>
          refine .inr ⟨(J2.2 d es).1, _, fun σ' H' hn => ⟨m, Nat.lt_succ_self _, hn⟩, fun x H3 hy => ?_⟩
          obtain ⟨x3, rh3, rx⟩ := (J2.2 d es).2 x H3 hy
          simp only at p2
          cases eb : bindT tg d l2 with
          | none => rw [eb] at p2; exact p2.elim
          | some l3 =>
            rw [eb] at p2
            simp only at p2
            refine ⟨φ2, h2, l2, d, l3, rh3, repL_ext rh2 x3 rl2, rx, eb, fun σ3 rl3 _ => ⟨φ2, l3, h2, rh3, rl3, ?_⟩⟩
            cases ez : fb l3 h2 with
            | nx l4 h4 =>
              rw [ez] at p2
              exact fun φ' H' σ' x rh' rl' => ⟨φ', l4, h4, x2.trans (x3.trans x), rh', rl', PostS.ext (x3.trans x) p2⟩
            | ct l4 h4 =>
              rw [ez] at p2
              exact fun φ' H' σ' x rh' rl' => ⟨φ', l4, h4, x2.trans (x3.trans x), rh', rl', PostS.ext (x3.trans x) p2⟩
            | bk l4 h4 => rw [ez] at p2; exact fun φ' H' σ' x rh' rl' => p2 φ' H' σ' (x3.trans x) rh' rl'
            | rt d4 h4 => rw [ez] at p2; exact fun φ' H' σ' x rh' rl' => p2 φ' H' σ' (x3.trans x) rh' rl'
            | exc c fs l4 h4 => rw [ez] at p2; exact fun φ' H' σ' cls dd x rh' rl' rx => p2 φ' H' σ' cls dd (x3.trans x) rh' rl' rx
            | stuck => rw [ez] at p2; exact p2.elim
theorem tWhl_ev {W : WX} {fc : Loc → PHeap → R Bool} {fb : Loc → PHeap → RS} {n : Nat} (D : Ends) (σ : St) (H : Hp)
    (q : tEvS G W (whlLoop fc fb n) D σ H) : tWhile (tEvT G W fc) (tEvS G W fb) D σ H := by
  obtain ⟨φ, l, h, rh, rl, p⟩ := q
  refine ⟨fun m σ' H' => ∃ φ' l' h', RelH G φ' h' H' ∧ RepL G φ' H' l' σ' ∧ PostS G φ' H' (whlLoop fc fb m l' h') D W, ⟨n, φ, l, h, rh, rl, p⟩, ?_⟩
  rintro m σ2 H2 ⟨φ2, l2, h2, rh2, rl2, p2⟩
  cases m with
  | zero => simp only [whlLoop] at p2; exact p2.elim
  | succ m =>
    unfold whlLoop at p2
    refine ⟨φ2, l2, h2, rh2, rl2, PostT.mono (PostT.toS rh2 rl2 p2) fun b H3 ⟨φ3, h3, x3, rh3, rl3, p3⟩ => ?_⟩
    cases b with
    | false => rw [if_neg Bool.false_ne_true]; exact p3 φ3 H3 σ2 .refl rh3 rl3
    | true =>
      rw [if_pos rfl]
      refine ⟨_, fun σ' H' hn => ⟨m, Nat.lt_succ_self _, hn⟩, φ3, l2, h3, rh3, rl3, ?_⟩
      simp only at p3
      cases ez : fb l2 h3 with
      | nx l4 h4 =>
        rw [ez] at p3
        exact fun φ' H' σ' x rh' rl' => ⟨φ', l4, h4, rh', rl', PostS.ext x p3⟩
      | ct l4 h4 =>
        rw [ez] at p3
        exact fun φ' H' σ' x rh' rl' => ⟨φ', l4, h4, rh', rl', PostS.ext x p3⟩
      | bk l4 h4 => rw [ez] at p3; exact p3
      | rt d4 h4 => rw [ez] at p3; exact p3
      | exc c fs l4 h4 => rw [ez] at p3; exact p3
      | stuck => rw [ez] at p3; exact p3.elim
/-- o[i] = e -/
def rPut (G : Gc) : TSet := fun o i v H Q => ∃ φ h x y z h', RelH G φ h H ∧ RepV G φ H x o ∧ RepV G φ H y i ∧ RepV G φ H z v ∧ putF x y z h = some h' ∧ ∀ φ' H', Ext φ H φ' H' → RelH G φ' h' H' → Q H'
theorem RepVs.set {ds : List PV} {vs : List V} {d : PV} {v : V} : ∀ (j : Nat), RepVs G φ H ds vs → RepV G φ H d v → RepVs G φ H (ds.set j d) (vs.set j v)
  | _, .nil, _ => .nil
  | 0, .cons _ b, r => .cons r b
  | j + 1, .cons a b, r => .cons a (RepVs.set j b r)
theorem set_Z {X : Cx} (hK : G.K = X.K) (hP : G.P = X.prog) (hw : G.w = X.w) (hu : X.A.units + 64 < cLine) : PSet X (rPut G) := by
  intro pins s σ H o i v ov iv u Q I ro ri rv q
  obtain ⟨φ, h, x, y, z, h', rh, r1, r2, r3, e, q⟩ := q
  unfold putF at e
  split at e
  · split at e
    · rename_i ds hx
      split at e
      · obtain ⟨j, e1, e2⟩ := omap e
        cases e2
        cases r1 with
        | ref hr =>
          cases r2
          obtain ⟨vs, e3, q1⟩ := rh.obj _ _ _ hx hr
          refine set_list pins s σ H _ _ v ov iv u Q I ro ri rv ⟨_, _, _, j, rfl, rfl, e3, by rw [← q1.length]; exact e1, ?_⟩
          have x := ext_put (H := H) (u := HO.lst (vs.set j v)) hr
          exact q φ _ x (rh.put hr ⟨_, upd_same, repVs_ext rh x (RepVs.set j q1 r3)⟩)
      · cases e
    · rename_i kvs hx
      obtain ⟨kvs', e1, e2⟩ := omap e
      cases e2
      cases r1 with
      | ref hr =>
        cases ro
        exact dic_put hK hP hw hu I rh hr hx r2 ri r3 rv e1 q
    · cases e
  · cases e
theorem tPut_ev {W : WX} {o i e : Ex} (D : Ends) (σ : St) (H : Hp) (q : tEvS G W (exS C (.put o i e)) D σ H) : tAsg (tEv G W (evE C e)) (gSub (tEv G W (evE C o)) (tEv G W (evE C i)) (rPut G)) D σ H := by
  obtain ⟨φ, l, h, rh, rl, p⟩ := q
  unfold exS at p
  refine ⟨φ, l, h, rh, rl, Post.mono (Post.toS rh rl p) fun v H1 ⟨φ1, h1, d1, x1, rh1, rv1, rl1, p1⟩ => ?_⟩
  refine ⟨φ1, l, h1, rh1, rl1, Post.mono (Post.toS rh1 rl1 p1) fun vo H2 ⟨φ2, h2, d2, x2, rh2, rv2, rl2, p2⟩ => ?_⟩
  refine ⟨φ2, l, h2, rh2, rl2, Post.mono (Post.toS rh2 rl2 p2) fun vi H3 ⟨φ3, h3, d3, x3, rh3, rv3, rl3, p3⟩ => ?_⟩
  cases z : putF d2 d3 d1 h3 with
  | none => rw [z] at p3; exact p3.elim
  | some h4 =>
    rw [z] at p3
    exact ⟨φ3, h3, d2, d3, d1, h4, rh3, repV_ext rh2 x3 rv2, rv3, repV_ext rh2 x3 (repV_ext rh1 x2 rv1), z, fun φ' H' x rh' => p3 φ' H' σ x rh' (repL_ext rh3 x rl3)⟩
/-! ### o.f = e -/
theorem fld_inv {ct : Ct} {x : PV} {f : Nat} {v : PV} {h h' : PHeap} (e : fldF ct x f v h = some h') : ∃ i c fs, x = .ref i ∧ h[i]? = some (.ins c fs) ∧ ownF ct c f = true ∧ fs.length < 900 ∧ h' = h.set i (.ins c (setFl fs f v)) := by
  unfold fldF at e
  split at e
  · rename_i i
    split at e
    · rename_i c fs hx
      split at e
      · rename_i hc
        rw [Bool.and_eq_true] at hc
        cases e
        exact ⟨i, c, fs, rfl, hx, hc.1, of_decide_eq_true hc.2, rfl⟩
      · cases e
    · cases e
  · cases e
theorem ext_slH {C dx : Addr} {vs' : List (Option V)} {a : Addr} {i : Nat} (rh : RelH G φ h H) (hi : φ[i]? = some a) (hdx : dx ≠ a) (hown : H dx = some (.own a) ∨ H dx = some (.xd [])) : Ext φ H φ (SlX.slH H a C dx vs') := by
  have na : ∀ b, b ∉ φ → b ≠ a := fun b nb z => nb (by rw [z]; exact List.mem_of_getElem? hi)
  refine ⟨List.prefix_refl _, fun b hb nb => absurd hb nb, fun b o e nb no => ?_, fun b x e nb => ?_⟩
  · by_cases z : b = dx
    · subst z
      rcases hown with q | q
      · rw [q] at e; cases e; exact no.elim
      · rw [q] at e; cases e
        unfold SlX.slH
        rw [upd_ne (na b nb), upd_same]
    · rw [SlX.slH_ne (na b nb) z]; exact e
  · by_cases z : b = dx
    · subst z
      right
      unfold SlX.slH
      rw [upd_ne (na b nb), upd_same]
    · left
      rw [SlX.slH_ne (na b nb) z]; exact e
theorem RelH.slot {C dx : Addr} {vs' : List (Option V)} {a : Addr} {i : Nat} {o : PObj} (rh : RelH G φ h H) (hi : φ[i]? = some a) (x : Ext φ H φ (SlX.slH H a C dx vs')) (ndx : dx ∉ φ) (ndt : ∀ ps, H dx ≠ some (.tbl ps)) (ro : RepO G φ (SlX.slH H a C dx vs') a o) : RelH G φ (h.set i o) (SlX.slH H a C dx vs') where
  tab := rh.tabs (fun b hb nb => absurd hb nb) fun b o e nb no _ => by
    cases o with
    | own y => exact absurd rfl (no y)
    | tbl ps =>
      have z : b ≠ dx := fun z => by
        subst z
        have nn : b ≠ a := fun z => nb (by rw [z]; exact List.mem_of_getElem? hi)
        exact ndt ps e
      rw [SlX.slH_ne (fun z => nb (by rw [z]; exact List.mem_of_getElem? hi)) z]; exact e
    | _ => exact x.keep b _ e nb trivial
  len := by simp [rh.len]
  nd := rh.nd
  obj := fun j o' b e1 e2 => by
    by_cases hj : j = i
    · subst hj
      rw [hi] at e2; cases e2
      have hl : j < h.length := by
        have := (List.getElem?_eq_some_iff.mp e1).1
        simpa using this
      rw [List.getElem?_set_self hl] at e1
      cases e1
      exact ro
    · rw [List.getElem?_set_ne (Ne.symm hj)] at e1
      have nb : b ≠ a := fun (z : b = a) => by
        subst z
        exact hj (nodup_get rh.nd e2 hi)
      have nb2 : b ≠ dx := fun z => ndx (by rw [← z]; exact List.mem_of_getElem? e2)
      exact repO_ext rh x (SlX.slH_ne nb nb2) (rh.obj j o' b e1 e2)
theorem setFl_key {fs : List (Nat × PV)} {f : Nat} {v : PV} : ∀ g, g ∈ (setFl fs f v).map (·.1) → g = f ∨ g ∈ fs.map (·.1) := by
  induction fs with
  | nil => intro g hg; simp [setFl] at hg; exact .inl hg
  | cons p r ih =>
    intro g hg
    obtain ⟨k, w⟩ := p
    simp only [setFl] at hg
    split at hg
    · exact .inr hg
    · rcases List.mem_cons.mp hg with e | hg
      · exact .inr (by rw [e]; simp)
      · rcases ih g hg with e | e
        · exact .inl e
        · exact .inr (List.mem_cons_of_mem _ e)
theorem setFl_nodup {fs : List (Nat × PV)} {f : Nat} {v : PV} (h : (fs.map (·.1)).Nodup) : ((setFl fs f v).map (·.1)).Nodup := by
  induction fs with
  | nil => simp [setFl]
  | cons p r ih =>
    obtain ⟨k, w⟩ := p
    simp only [List.map_cons, List.nodup_cons] at h
    simp only [setFl]
    split
    · simpa using h
    · rename_i ne
      rw [List.map_cons, List.nodup_cons]
      exact ⟨fun hm => (setFl_key _ hm).elim (fun e => ne e) h.1, ih h.2⟩
theorem putS_get {i j : Nat} {y w : V} {vs : List (Option V)} (h : vs[j]? = some (some w)) (ne : j ≠ i) : (SlX.putS i y vs)[j]? = some (some w) := (SlX.putS_ne ne).mpr h
/-- an instance of a class with slots turns -/
theorem fld_slot {X : Cx} (g : Glob S G C k X) (rh : RelH G φ h H) {i c f : Nat} {fs : List (Nat × PV)} {a : Addr} {d : PV} {y : V} (hi : φ[i]? = some a) (hx : h[i]? = some (.ins c fs)) (sl : C.ct.isSl c = true) (ow : ownF C.ct c f = true) (rd : RepV G φ H d y)
    {Q : Hp → Prop} (q : ∀ φ' H', Ext φ H φ' H' → RelH G φ' (h.set i (.ins c (setFl fs f d))) H' → Q H') :
    ∃ D dx p vs j, SlX.Slt H a D dx vs ∧ SlX.SCls X.K D ∧ SlX.Slot1 X.K D (S.nm f) p j ∧ Q (SlX.slH H a D dx (SlX.putS j y vs)) := by
  obtain ⟨nd, D, dx, hD, ⟨z, _⟩ | ⟨z, vs, hs, ⟨hne, hown⟩, qf⟩⟩ := rh.obj _ _ _ hx hi
  · rw [g.sl, sl] at z; cases z
  · have hD' := hD
    rw [g.mg, g.nm] at hD'
    unfold ownF at ow
    rw [sl, if_pos rfl] at ow
    obtain ⟨j, hj⟩ := Option.isSome_iff_exists.mp ow
    obtain ⟨p, s1⟩ := g.sls c f j D hj hD'
    refine ⟨D, dx, p, vs, j, hs, g.scl c D sl hD', s1, ?_⟩
    have ndx : dx ∉ φ := fun hm => by
      obtain ⟨_, o, _, _, ro⟩ := rh.at hm
      obtain ⟨u, eu, _, _, n1, n2, _⟩ := ro.some
      rcases hown with e | e
      · rw [eu] at e; cases e; exact n1 _ rfl
      · rw [eu] at e; cases e; exact n2 _ rfl
    have x := ext_slH (C := D) (vs' := SlX.putS j y vs) rh hi hne hown
    refine q φ _ x (rh.slot hi x ndx (fun ps e => by rcases hown with q | q <;> (rw [q] at e; cases e)) ⟨setFl_nodup nd, D, dx, hD, .inr ⟨z, _, SlX.slH_slt hne, ⟨hne, .inr (by unfold SlX.slH; rw [upd_ne hne, upd_same])⟩, fun f' d' hf => ?_⟩⟩)
    rw [lookup_setFl] at hf
    by_cases e : f' = f
    · subst e
      rw [if_pos rfl] at hf
      cases hf
      exact ⟨j, y, by rw [g.slo]; exact hj, SlX.putS_get _ _ _, repV_ext rh x rd⟩
    · rw [if_neg e] at hf
      obtain ⟨j', v', a1, a2, a3⟩ := qf f' d' hf
      have nj : j' ≠ j := fun z => e (g.inj c f' f j (by rw [← g.slo, a1, z]) hj)
      exact ⟨j', v', a1, putS_get a2 nj, repV_ext rh x a3⟩
/-- a plain instance turns -/
theorem fld_plain {X : Cx} (g : Glob S G C k X) (rh : RelH G φ h H) {i c f : Nat} {fs : List (Nat × PV)} {a : Addr} {d : PV} {y : V} (hi : φ[i]? = some a) (hx : h[i]? = some (.ins c fs)) (sl : C.ct.isSl c = false) (ow : ownF C.ct c f = true) (hl : fs.length < 900) (rd : RepV G φ H d y)
    {Q : Hp → Prop} (q : ∀ φ' H', Ext φ H φ' H' → RelH G φ' (h.set i (.ins c (setFl fs f d))) H' → Q H') :
    ∃ D dx ws, H a = some (.ins D dx ws) ∧ Cls X.K D ∧ NoAttr X.K D (S.nm f) ∧ ws.length < 1000 ∧ Q (upd H a (.ins D dx (L2.putF (S.nm f) y ws))) := by
  obtain ⟨nd, D, dx, hD, ⟨z, ws, a0, al, qf, q2⟩ | ⟨z, _⟩⟩ := rh.obj _ _ _ hx hi
  · have hD' := hD
    rw [g.mg, g.nm] at hD'
    unfold ownF at ow
    rw [sl, if_neg Bool.false_ne_true] at ow
    obtain ⟨c1, c2⟩ := g.pcl c f D sl ow hD'
    refine ⟨D, dx, ws, a0, c1, c2, by omega, ?_⟩
    have x := ext_put (H := H) (u := HO.ins D dx (L2.putF (S.nm f) y ws)) hi
    have lp := len_putF (f := S.nm f) (v := y) (fs := ws)
    refine q φ _ x (rh.put hi ⟨setFl_nodup nd, D, dx, hD, .inl ⟨z, _, upd_same, ?_, fun f' d' hf => ?_, fun x' v' hv => ?_⟩⟩)
    · cases e : fs.lookup f with
      | none =>
        rw [len_setFl e]
        have := lp.1
        omega
      | some d0 =>
        obtain ⟨_, v0, e1, _⟩ := qf f d0 e
        rw [g.nm] at e1
        rw [lp.2 (by rw [e1]; rfl)]
        exact Nat.le_trans al len_setFl'
    · rw [lookup_setFl] at hf
      rw [g.nm, lookup_putF]
      by_cases e : f' = f
      · subst e
        rw [if_pos rfl] at hf
        cases hf
        exact ⟨by rw [g.fdl]; exact ow, y, by rw [if_pos rfl], repV_ext rh x rd⟩
      · rw [if_neg e] at hf
        obtain ⟨b0, v0, b1, b2⟩ := qf f' d' hf
        have nn : S.nm f' ≠ S.nm f := fun z => e (g.inn c f' f (by rw [← g.fdl]; exact b0) ow z)
        rw [g.nm] at b1
        exact ⟨b0, v0, by rw [if_neg nn]; exact b1, repV_ext rh x b2⟩
    · rw [lookup_putF] at hv
      by_cases e : x' = S.nm f
      · exact ⟨f, by rw [g.nm]; exact e.symm, by rw [lookup_setFl, if_pos rfl]; rfl⟩
      · rw [if_neg e] at hv
        obtain ⟨f0, e1, e2⟩ := q2 x' v' hv
        refine ⟨f0, e1, ?_⟩
        rw [lookup_setFl]
        split
        · rfl
        · exact e2
  · rw [g.sl, sl] at z; cases z
theorem ps_fldZ {X : Cx} {W : WX} {o value : Expr} {n : Nat} {fo fv : Loc → PHeap → R PV} {pos pos' : Pos} (g : Glob S G C k X) (ho : PE X o (tEv G W fo)) (hv : PE X value (tEv G W fv)) (hs : swapsWith value (some (.Attribute o (S.nm n) pos')) pos.line X.env = pure false) :
    PS X (.Assign [.Attribute o (S.nm n) pos'] value pos) (tEvS G W fun l h => (fv l h).toS l fun v h1 => (fo l h1).toS l fun x h2 => match fldF C.ct x n v h2 with | some h3 => .nx l h3 | none => .stuck) := by
  refine ⟨fun pins s σ H D I q => ?_⟩
  obtain ⟨φ, l, h, rh, rl, p⟩ := q
  have p : PostS G φ H ((fv l h).toS l fun v h1 => (fo l h1).toS l fun x h2 => match fldF C.ct x n v h2 with | some h3 => .nx l h3 | none => .stuck) D W := p
  -- which kind of class
  by_cases sl : ∃ v h1 i h2 c fs, fv l h = .ok v h1 ∧ fo l h1 = .ok (.ref i) h2 ∧ h2[i]? = some (.ins c fs) ∧ C.ct.isSl c = true
  · obtain ⟨v0, h10, i0, h20, c0, fs0, ev, eo, ex, sl⟩ := sl
    refine (SlX.ps_sl ho hv hs).run pins s σ H D I ⟨φ, l, h, rh, rl, ?_⟩
    rw [ev] at p ⊢
    intro φ1 H1 y x1 rh1 ry
    have p1 := PostS.ext x1 p
    simp only [R.toS] at p1
    refine ⟨φ1, l, h10, rh1, repL_ext rh x1 rl, ?_⟩
    rw [eo] at p1 ⊢
    intro φ2 H2 xo x2 rh2 rx
    have p2 := PostS.ext x2 p1
    simp only at p2
    cases e : fldF C.ct (.ref i0) n v0 h20 with
    | none => rw [e] at p2; exact p2.elim
    | some h3 =>
      rw [e] at p2
      obtain ⟨i, c, fs, q1, q2, q3, q4, q5⟩ := fld_inv e
      cases q1
      rw [ex] at q2
      cases q2
      subst q5
      cases rx with
      | ref hr =>
        obtain ⟨D', dx, pp, vs, j, a1, a2, a3, a4⟩ := fld_slot g rh2 hr ex sl q3 (repV_ext rh1 x2 ry) (Q := fun H' => D.nx σ H') fun φ' H' x rh' => p2 φ' H' σ x rh' (repL_ext rh2 x (repL_ext rh1 x2 (repL_ext rh x1 rl)))
        exact ⟨_, D', dx, pp, vs, j, rfl, a1, a2, a3, a4⟩
  · refine (ps_fld ho hv hs).run pins s σ H D I ⟨φ, l, h, rh, rl, ?_⟩
    cases ev : fv l h with
    | stuck => rw [ev] at p; exact p.elim
    | exc c fs h' => rw [ev] at p; exact fun φ' H' cls dd x rh' rx => p φ' H' σ cls dd x rh' (repL_ext rh x rl) rx
    | ok v0 h10 =>
      rw [ev] at p
      intro φ1 H1 y x1 rh1 ry
      have p1 := PostS.ext x1 p
      simp only [R.toS] at p1
      have rl1 := repL_ext rh x1 rl
      refine ⟨φ1, l, h10, rh1, rl1, ?_⟩
      cases eo : fo l h10 with
      | stuck => rw [eo] at p1; exact p1.elim
      | exc c fs h' => rw [eo] at p1; exact fun φ' H' cls dd x rh' rx => p1 φ' H' σ cls dd x rh' (repL_ext rh1 x rl1) rx
      | ok x0 h20 =>
        rw [eo] at p1
        intro φ2 H2 xo x2 rh2 rx
        have p2 := PostS.ext x2 p1
        simp only at p2
        cases e : fldF C.ct x0 n v0 h20 with
        | none => rw [e] at p2; exact p2.elim
        | some h3 =>
          rw [e] at p2
          obtain ⟨i, c, fs, q1, q2, q3, q4, q5⟩ := fld_inv e
          subst q1
          subst q5
          have nsl : C.ct.isSl c = false := by
            cases zz : C.ct.isSl c with
            | false => rfl
            | true => exact absurd ⟨v0, h10, i, h20, c, fs, ev, eo, q2, zz⟩ sl
          cases rx with
          | ref hr =>
            obtain ⟨D', dx, ws, a1, a2, a3, a4, a5⟩ := fld_plain g rh2 hr q2 nsl q3 q4 (repV_ext rh1 x2 ry) (Q := fun H' => D.nx σ H') fun φ' H' x rh' => p2 φ' H' σ x rh' (repL_ext rh2 x (repL_ext rh1 x2 rl1))
            exact ⟨_, D', dx, ws, rfl, a1, a2, a3, a4, a5⟩
end
end Zed
end
section
set_option Elab.async false
set_option linter.all false
set_option maxRecDepth 100000
set_option maxHeartbeats 4000000
namespace Zed
open PySem L2
/-! ### assignments: which form the machine takes -/
def isStar : Expr → Bool
  | .Starred .. => true
  | _ => false
def swpO (sc : Scope) (targets : List Expr) (value : Expr) : Option (Option (List Str)) :=
  match (match targets, value with
    | [.Tuple ts _ _], .Tuple vs _ _ | [.List ts _], .Tuple vs _ _ => some (ts, vs)
    | _, _ => none) with
  | none => some none
  | some (ts, vs) =>
    if (!(ts.length == 2 || ts.length == 3) || vs.length != ts.length) = true then some none
    else if (vs.any isStar) = true then some none
    else
      let names := ts.filterMap fun
        | .Name id pos => if (sc.names.lookup id == some .local && pos.line == (ts.head?.map (·.pos.line)).getD 0) = true then some id else none
        | _ => none
      if (names.length != ts.length || names.eraseDups.length != names.length) = true then some none
      else if (vs.all (foldedForSure 8)) = true then some none
      else if (vs.all (constantsAlone 8)) = true then none
      else some (some names)
theorem blockKind_fn {env : Env} (h : env.scope.kind = .function) : (env.blockKind != .function) = false ∧ (env.blockKind == .function) = true := by
  have : env.blockKind = .function := by
    unfold Env.blockKind
    rw [h]; rfl
  rw [this]; exact ⟨rfl, rfl⟩
theorem swp_core {env : Env} {ts vs : List Expr} {r : Option (List Str)} (h : (if (!(ts.length == 2 || ts.length == 3) || vs.length != ts.length) = true then some none
    else if (vs.any isStar) = true then some none
    else
      let names := ts.filterMap fun
        | .Name id pos => if (env.scope.names.lookup id == some .local && pos.line == (ts.head?.map (·.pos.line)).getD 0) = true then some id else none
        | _ => none
      if (names.length != ts.length || names.eraseDups.length != names.length) = true then some none
      else if (vs.all (foldedForSure 8)) = true then some none
      else if (vs.all (constantsAlone 8)) = true then none
      else some (some names)) = some r) {M : Sem (Option (List Str))}
    (hM : M = (if (!(ts.length == 2 || ts.length == 3) || vs.length != ts.length) = true then pure none
    else if (vs.any isStar) = true then pure none
    else
      let names := ts.filterMap fun
        | .Name id pos => if (env.scope.names.lookup id == some .local && pos.line == (ts.head?.map (·.pos.line)).getD 0) = true then some id else none
        | _ => none
      if (names.length != ts.length || names.eraseDups.length != names.length) = true then pure none
      else if (vs.all (foldedForSure 8)) = true then pure none
      else if (vs.all (constantsAlone 8)) = true then (do unsupported "assign.tuple-of-constant-expressions:order-of-the-stores"; pure (some names))
      else pure (some names))) : M = pure r := by
  rw [hM]
  split at h
  · rename_i c; cases h; rw [if_pos c]
  · rename_i c1
    rw [if_neg c1]
    split at h
    · rename_i c; cases h; rw [if_pos c]
    · rename_i c2
      rw [if_neg c2]
      simp only at h ⊢
      split at h
      · rename_i c; cases h; rw [if_pos c]
      · rename_i c3
        rw [if_neg c3]
        split at h
        · rename_i c; cases h; rw [if_pos c]
        · rename_i c4
          rw [if_neg c4]
          split at h
          · cases h
          · rename_i c5; cases h; rw [if_neg c5]
theorem swp_ok {env : Env} {ts : List Expr} {v : Expr} {r : Option (List Str)} (hk : env.scope.kind = .function) (h : swpO env.scope ts v = some r) : swappedStores ts v env = pure r := by
  have bk := (blockKind_fn hk).1
  unfold swpO at h
  split at h
  · rename_i hm
    cases h
    split at hm
    · cases hm
    · cases hm
    · rename_i n1 n2
      unfold swappedStores
      split
      · rename_i hq
        split at hq
        · exact absurd rfl (n1 _ _ _ _ _ _ rfl)
        · exact absurd rfl (n2 _ _ _ _ _ rfl)
        · cases hq
      · rfl
  · rename_i as vs hm
    split at hm
    · cases hm
      refine swp_core h ?_
      unfold swappedStores
      simp only [bk, Bool.or_false]
      rfl
    · cases hm
      refine swp_core h ?_
      unfold swappedStores
      simp only [bk, Bool.or_false]
      rfl
    · cases hm
def swO (sc : Scope) (tg value : Expr) : Bool :=
  match value with
  | .ListComp _ _ s vp => (match tg with
    | .Name t pos => sc.names.lookup t == some .local && pos.line == vp.line && !(s.names.any fun (n, k) => n == t && (k == .local || k == .cell))
    | _ => false)
  | .SetComp _ _ s vp => (match tg with
    | .Name t pos => sc.names.lookup t == some .local && pos.line == vp.line && !(s.names.any fun (n, k) => n == t && (k == .local || k == .cell))
    | _ => false)
  | .DictComp _ _ _ s vp => (match tg with
    | .Name t pos => sc.names.lookup t == some .local && pos.line == vp.line && !(s.names.any fun (n, k) => n == t && (k == .local || k == .cell))
    | _ => false)
  | _ => false
theorem sw_ok {env : Env} {tg v : Expr} {line : Nat} (hk : env.scope.kind = .function) : swapsWith v (some tg) line env = pure (swO env.scope tg v) := by
  have bk := (blockKind_fn hk).2
  unfold swapsWith swO
  cases v <;> first | rfl | (cases tg <;> first | rfl | (simp only [bk, Bool.true_and]; rfl))
mutual
def chkS (S : Sg) (N : List Str) (sc : Scope) : Sx → Stmt → Bool
  | .ex e, st => match st with
    | .Expr v _ => noComp v && chkE S N sc e v
    | _ => false
  | .asg t e, st => match st with
    | .Assign [tg] v _ =>
      if swO sc tg v then
        match t, e, tg, v with
        | .nm i, .lc _ _ _ _ _ _, .Name x _, .ListComp .. => (N[i]? == some x) && isK sc.names x .local && chkE S N sc e v
        | _, _, _, _ => false
      else match swpO sc [tg] v with
        | some none => chkG N sc.names t tg && chkE S N sc e v
        | some (some [x, y]) => (match t, e, tg, v with
          | .tp (.cons (.nm i) (.cons (.nm j) .nil)), .tup es, .Tuple [.Name x' _, .Name y' _] _ _, .Tuple [a, b] _ _ =>
            (x == x') && (y == y') && (N[i]? == some x) && (N[j]? == some y) && (i != j) && isK sc.names x .local && isK sc.names y .local && chkA S N sc es [a, b]
          | _, _, _, _ => false)
        | some (some [x, y, z]) => (match t, e, tg, v with
          | .tp (.cons (.nm i) (.cons (.nm j) (.cons (.nm m) .nil))), .tup es, .Tuple [.Name x' _, .Name y' _, .Name z' _] _ _, .Tuple [a, b, c] _ _ =>
            (x == x') && (y == y') && (z == z') && (N[i]? == some x) && (N[j]? == some y) && (N[m]? == some z) && (i != j) && (i != m) && (j != m) && isK sc.names x .local && isK sc.names y .local && isK sc.names z .local && chkA S N sc es [a, b, c]
          | _, _, _, _ => false)
        | _ => false
    | _ => false
  | .put o i e, st => match st with
    | .Assign [.Subscript o' i' _] v _ => noSlice i' && chkE S N sc e v && chkE S N sc o o' && chkE S N sc i i'
    | _ => false
  | .fld o f e, st => match st with
    | .Assign [.Attribute o' x _] v _ => (x == S.nm f) && !swO sc (.Attribute o' x ⟨0, 0, 0, 0⟩) v && chkE S N sc e v && chkE S N sc o o'
    | _ => false
  | .ret e, st => match st with
    | .Return (some v) _ => chkE S N sc e v
    | _ => false
  | .ret0, st => match st with
    | .Return none _ => true
    | _ => false
  | .iff c a b, st => match st with
    | .If c' a' b' _ => chkE S N sc c c' && chkSs S N sc a a' && chkSs S N sc b b'
    | _ => false
  | .for_ t it b, st => match st with
    | .For tg it' b' [] _ => chkI S N sc it tg it' && chkG N sc.names t tg && noSet it' && chkSs S N sc b b'
    | _ => false
  | .whl c b, st => match st with
    | .While c' b' [] _ => chkE S N sc c c' && chkSs S N sc b b'
    | _ => false
  | .pass, st => match st with
    | .Pass _ => true
    | _ => false
  | .brk, st => match st with
    | .Break _ => true
    | _ => false
  | .cnt, st => match st with
    | .Continue _ => true
    | _ => false
  | .rai c m, st => match st with
    | .Raise (some (.Call (.Name x _) [.Constant (.str m') _ _] [] _)) none _ => (x == S.nm c) && S.exc c && isK sc.names x .globalImplicit && okNm x && (m == m')
    | _ => false
def chkSs (S : Sg) (N : List Str) (sc : Scope) : Sxs → List Stmt → Bool
  | .nil, l => match l with
    | [] => true
    | _ => false
  | .cons s r, l => match l with
    | st :: sts => chkS S N sc s st && chkSs S N sc r sts
    | _ => false
end
section
variable {S : Sg} {G : Gc} {C : Orc} {k : Nat}
theorem chkG_noStar {N : List Str} {ns : Nms} {t : Tg} {e : Expr} (h : chkG N ns t e = true) : noStar e = true := by
  unfold chkG at h
  split at h
  · rfl
  · rfl
  · cases h
/-- a statement, then what is at a slot is locked -/
theorem ps_lkNx {X : Cx} {st : Stmt} {t : TS} (h : PS X st t) : PS X st (fun D σ H => t { D with nx := fun σ' H' => ∃ d u, H' d = some u ∧ Mut (some u) ∧ ∀ od, D.nx σ' (upd H' d (.frz od u)) } σ H) := by
  refine ⟨fun pins s σ H D I hw => ?_⟩
  refine thn (h.run pins s σ H _ I hw) fun f s1 q => ?_
  cases f with
  | next =>
    obtain ⟨σ', H', I2, d, u, e, mu, q⟩ := q
    obtain ⟨od, I3⟩ := I2.lock e mu
    exact ⟨σ', _, I3, q od⟩
  | brk => exact q
  | cont => exact q
  | ret v => exact q
/-- .. or not -/
def lkNx (z : Bool) (D : Ends) : Ends := match z with
  | true => { D with nx := fun σ' H' => ∃ d u, H' d = some u ∧ Mut (some u) ∧ ∀ od, D.nx σ' (upd H' d (.frz od u)) }
  | false => D
theorem ps_zNx {X : Cx} {st : Stmt} {t : TS} {z : Bool} (h : PS X st t) : PS X st (fun D σ H => t (lkNx z D) σ H) := by
  cases z with
  | false => exact h
  | true => exact ps_lkNx h
theorem zQ_nx {z : Bool} {D : Ends} {σ : St} {i : Nat} (v : V) (H' : Hp) (q : zQ z (fun v H1 => D.nx (σ.set i (some v)) H1) v H') : (lkNx z D).nx (σ.set i (some v)) H' := by
  cases z with
  | false => exact q
  | true => obtain ⟨d, u, e1, e2, mu, q⟩ := q; exact ⟨d, u, e2, mu, q⟩
theorem soundLc {z : Bool} {elt : Ex} {tg : Tg} {it : Itr} {ifs : Op} {own : List Nat} {X : Cx} {W : WX} {sc : Scope} {e : Expr} {i : Nat} {x : Str} {px spos : Pos} (g : Glob S G C k X) (sp : Scp sc.names X) (tk : Takes X W)
    (c : chkE S X.N sc (.lc z elt tg it ifs own) e = true) (hi : X.N[i]? = some x) (hl : X.env.scope.names.lookup x = some .local) (sw : swapsWith e (some (.Name x px)) spos.line X.env = pure true) :
    PS X (.Assign [.Name x px] e spos) (tAsg (tEv G W (evE C (.lc z elt tg it ifs own))) (gName i)) := by
  simp only [chkE] at c
  split at c
  · simp only [Bool.and_eq_true, beq_iff_eq] at c
    obtain ⟨⟨⟨⟨⟨⟨⟨c1, c2⟩, c3⟩, c4⟩, c5⟩, c6⟩, c7⟩, c8⟩ := c
    have ok0 := blkOk_by c2
    have ok : BlkOk X.N X.env.scope _ (ownOf X.N own) := ⟨ok0.kind, ok0.uniq, ok0.ix, fun y hy e => sp.cf y.1 (ok0.free y hy e), ok0.own⟩
    have gB := fun (s : Shared) (H : Hp) (A : Addr) (cl : List (Str × Addr)) (fp : List Addr) => g.blk (s := s) (H := H) (cl := cl) (A := A) (fp := fp) ok.kind
    have hs : ∀ i, i ∈ slotsT tg → i ∈ own := fun i hi => by
      have := List.all_eq_true.mp c5 i hi
      simpa using this
    refine ps_imp (t := fun D σ H => tAsg (tLc (iEv G W (evI C it)) (gEv G tg) (tEvT G W0 (evT1 C ifs)) (tEv G W0 (evE C elt)) own) (gName i) (lkNx z D) σ H) ?_ fun D σ H t => tLc_ev hs σ H (fun v H1 => D.nx (σ.set i (some v)) H1) _ zQ_nx (by unfold tAsg at t; rw [evE_lc] at t; exact t)
    rw [← c3]
    refine ps_zNx (ps_setLc g.calm g.nd hi hl sw (soundI it g sp tk c1) ok (fun s H A cl fp => soundG tg g.K g.nd g.calm .blk c4) (fun s H A cl fp => ?_) (fun s H A cl fp => soundE elt (gB s H A cl fp) .blk takes0 c8) (foldedSet c6))
    split at c7
    · split at c7
      · refine ⟨fun pins s σ H Q I q => pts_nil.run pins s σ H Q I ?_⟩
        obtain ⟨φ, l, h, rh, rl, p⟩ := q
        unfold evT1 at p
        exact p φ H .refl rh
      · cases c7
    · simp only [Bool.and_eq_true] at c7
      cases ifs with
      | no => simp at c7
      | yes cd =>
        simp only [chkOp] at c7
        have := pts_one (soundT cd (gB s H A cl fp) .blk (takes0 (X := X.blk s H _ (compEnvC _ cl A X.env) fp)) c7.2)
        refine ⟨fun pins s σ H Q I q => this.run pins s σ H Q I ?_⟩
        obtain ⟨φ, l, h, rh, rl, p⟩ := q
        unfold evT1 at p
        exact ⟨φ, l, h, rh, rl, p⟩
    · cases c7
  · cases c
theorem gName_ev {t : Nat} {W : WX} {e : Ex} (D : Ends) (σ : St) (H : Hp) (q : tEvS G W (exS C (.asg (.nm t) e)) D σ H) : tAsg (tEv G W (evE C e)) (gName t) D σ H := by
  have z := tAsg_ev D σ H q
  obtain ⟨φ, l, h, rh, rl, p⟩ := z
  refine ⟨φ, l, h, rh, rl, Post.mono p fun v H1 ⟨φ1, h1, l1, d1, l2, rh1, rl1, rv1, eb, k⟩ => ?_⟩
  simp only [bindT] at eb
  split at eb
  · cases eb
    refine k _ (rl1.set rv1) ⟨by simp, fun j hj => ?_⟩
    have : t ≠ j := fun z => hj (by simp [slotsT, z])
    exact List.getElem?_set_ne this
  · cases eb
theorem postA_of_tup {W : WX} {es : Exs} {t : Tg} {φ : List Addr} {H : Hp} {l : Loc} {h : PHeap} {σ : St} {D : Ends} (rh : RelH G φ h H) (rl : RepL G φ H l σ) (p : PostS G φ H (exS C (.asg t (.tup es)) l h) D W) :
    PostA G φ H (evA C es l h) (fun vs H1 => ∃ φ1 h1 ds l1, RelH G φ1 h1 H1 ∧ RepVs G φ1 H1 ds vs ∧ RepL G φ1 H1 l σ ∧ bindT t (.tup ds) l = some l1 ∧ ∀ σ', RepL G φ1 H1 l1 σ' → D.nx σ' H1) (fun c d H' => W c d σ H') := by
  unfold exS at p
  unfold evE at p
  cases z : evA C es l h with
  | ok ds h1 =>
    rw [z] at p
    simp only [R.bind_ok] at p
    intro φ1 H1 vs x1 rh1 rv
    split at p
    · simp only [R.toS] at p
      cases z2 : bindT t (.tup ds) l with
      | none => rw [z2] at p; exact p.elim
      | some l1 => rw [z2] at p; exact ⟨φ1, h1, ds, l1, rh1, rv, repL_ext rh x1 rl, z2, fun σ' rl' => p φ1 H1 σ' x1 rh1 rl'⟩
    · exact p.elim
  | exc c fs h' => rw [z] at p; exact fun φ' H' cls dd x rh' rx => p φ' H' σ cls dd x rh' (repL_ext rh x rl) rx
  | stuck => rw [z] at p; exact p.elim
theorem repVs_three {φ : List Addr} {H : Hp} {ds : List PV} {v w x : V} (q : RepVs G φ H ds [v, w, x]) : ∃ a b c, ds = [a, b, c] ∧ RepV G φ H a v ∧ RepV G φ H b w ∧ RepV G φ H c x := by
  cases q with
  | cons r1 q => cases q with
    | cons r2 q => cases q with
      | cons r3 q => cases q; exact ⟨_, _, _, rfl, r1, r2, r3⟩
theorem tPar_ev {W : WX} {i j : Nat} {es : Exs} (D : Ends) (σ : St) (H : Hp) (q : tEvS G W (exS C (.asg (.tp (.cons (.nm i) (.cons (.nm j) .nil))) (.tup es))) D σ H) : tPar i j (tEvA G W (evA C es)) D σ H := by
  obtain ⟨φ, l, h, rh, rl, p⟩ := q
  refine ⟨φ, l, h, rh, rl, PostA.mono (postA_of_tup rh rl p) fun vs H1 ⟨φ1, h1, ds, l1, rh1, rv, rl1, eb, k⟩ => ?_⟩
  simp only [bindT] at eb
  cases rv with
  | nil => simp [bindTs] at eb
  | cons r1 rv =>
    cases rv with
    | nil => simp only [bindTs] at eb; split at eb <;> cases eb
    | cons r2 rv =>
      cases rv with
      | cons r3 rv =>
        simp only [bindTs, bindT] at eb
        split at eb
        · split at eb
          · cases eb
          · cases eb
        · cases eb
      | nil =>
        simp only [bindTs, bindT] at eb
        split at eb
        · rename_i l2 e2
          split at e2
          · cases e2
            split at eb
            · rename_i l3 e3
              split at e3
              · cases e3
                cases eb
                exact ⟨_, _, rfl, k _ ((rl1.set r1).set r2)⟩
              · cases e3
            · cases eb
          · cases e2
        · cases eb
theorem tPar3_ev {W : WX} {i j m : Nat} {es : Exs} (D : Ends) (σ : St) (H : Hp) (q : tEvS G W (exS C (.asg (.tp (.cons (.nm i) (.cons (.nm j) (.cons (.nm m) .nil)))) (.tup es))) D σ H) : tPar3 i j m (tEvA G W (evA C es)) D σ H := by
  obtain ⟨φ, l, h, rh, rl, p⟩ := q
  refine ⟨φ, l, h, rh, rl, PostA.mono (postA_of_tup rh rl p) fun vs H1 ⟨φ1, h1, ds, l1, rh1, rv, rl1, eb, k⟩ => ?_⟩
  simp only [bindT] at eb
  match ds, rv, eb with
  | [a, b, c], .cons r1 (.cons r2 (.cons r3 .nil)), eb =>
    simp only [bindTs, bindT] at eb
    split at eb
    · rename_i l2 e2
      split at e2
      · cases e2
        split at eb
        · rename_i l3 e3
          split at e3
          · cases e3
            split at eb
            · rename_i l4 e4
              split at e4
              · cases e4
                cases eb
                exact ⟨_, _, _, rfl, k _ (((rl1.set r1).set r2).set r3)⟩
              · cases e4
            · cases eb
          · cases e3
        · cases eb
      · cases e2
    · cases eb
  | [], _, eb => simp [bindTs] at eb
  | [a], _, eb => simp only [bindTs] at eb; split at eb <;> cases eb
  | [a, b], _, eb =>
    simp only [bindTs] at eb
    split at eb
    · split at eb <;> cases eb
    · cases eb
  | a :: b :: c :: d :: r, _, eb =>
    simp only [bindTs] at eb
    split at eb
    · split at eb
      · split at eb <;> cases eb
      · cases eb
    · cases eb
end
end Zed
end
section
set_option Elab.async false
set_option linter.all false
set_option maxRecDepth 100000
set_option maxHeartbeats 1000000
namespace Zed
open PySem L2
/-! ### what leaves a def is locked, what was made inside is gone -/
def Frzs : List Addr → Hp → (Hp → Prop) → Prop
  | [], H, R => R H
  | d :: r, H, R => ∃ u, H d = some u ∧ Mut (some u) ∧ ∀ od, Frzs r (upd H d (.frz od u)) R
/-- locked at L -/
structure LkR (L : List Addr) (H H' : Hp) : Prop where
  out : ∀ a, a ∉ L → H' a = H a
  at_ : ∀ a, a ∈ L → ∃ od u, H a = some u ∧ Mut (some u) ∧ H' a = some (.frz od u)
theorem frzs_of : ∀ (L : List Addr) (H : Hp) (R : Hp → Prop), L.Nodup → (∀ a ∈ L, ∃ u, H a = some u ∧ Mut (some u)) → (∀ H', LkR L H H' → R H') → Frzs L H R
  | [], H, R, _, _, k => k H ⟨fun _ _ => rfl, fun a h => nomatch h⟩
  | d :: L, H, R, nd, hm, k => by
    obtain ⟨u, e, mu⟩ := hm d List.mem_cons_self
    obtain ⟨n1, n2⟩ := List.nodup_cons.mp nd
    refine ⟨u, e, mu, fun od => frzs_of L _ R n2 (fun a ha => ?_) fun H' l => k H' ⟨fun a ha => ?_, fun a ha => ?_⟩⟩
    · have ne : a ≠ d := fun z => n1 (z ▸ ha)
      rw [upd_ne ne]
      exact hm a (List.mem_cons_of_mem _ ha)
    · rw [List.mem_cons, not_or] at ha
      rw [l.out a ha.2, upd_ne ha.1]
    · by_cases z : a = d
      · subst z
        exact ⟨od, u, e, mu, by rw [l.out a n1, upd_same]⟩
      · have ha := (List.mem_cons.mp ha).resolve_left z
        obtain ⟨od', u', e1, mu', e2⟩ := l.at_ a ha
        rw [upd_ne z] at e1
        exact ⟨od', u', e1, mu', e2⟩
section
variable {G : Gc} {φ : List Addr} {h : PHeap} {H : Hp}
/-! closed values -/
theorem pd_mem {α β : Type} {F : α → β → Prop} : ∀ {l : List α} {m : List β}, Paired F l m → ∀ {p : α}, p ∈ l → ∃ x, F p x
  | _, _, .nil, _, hp => nomatch hp
  | _, _, .cons a b, p, hp => by
    rcases List.mem_cons.mp hp with e | hp
    · subst e; exact ⟨_, a⟩
    · exact pd_mem b hp
theorem strs_cl {n : Nat} : ∀ xs : List Str, clVs n (xs.map PV.str) = true
  | [] => rfl
  | x :: r => by simp only [List.map_cons, clVs, strs_cl r, clV]; rfl
theorem key_cl {n : Nat} {k : PV} (h : (keyOf k).isSome = true) : clV n k = true := by
  cases k <;> first | rfl | (simp [keyOf] at h)
theorem lookup_mem' {fs : List (Nat × PV)} {f : Nat} {d : PV} (h : fs.lookup f = some d) : (f, d) ∈ fs := by
  induction fs with
  | nil => cases h
  | cons p r ih =>
    obtain ⟨g, e⟩ := p
    rw [List.lookup_cons] at h
    cases z : f == g with
    | true => rw [z] at h; cases h; rw [beq_iff_eq.mp z]; exact List.mem_cons_self
    | false => rw [z] at h; exact List.mem_cons_of_mem _ (ih h)
mutual
theorem repV_cl : ∀ (d : PV) {v : V}, RepV G φ H d v → clV φ.length d = true
  | .non, _, _ => rfl
  | .bl _, _, _ => rfl
  | .int _, _, _ => rfl
  | .str _, _, _ => rfl
  | .ty _, _, _ => rfl
  | .gl _, _, _ => rfl
  | .scr _, _, _ => rfl
  | .tup ds, _, r => by
    cases r with
    | tup s q => simp only [clV]; exact repVs_cl ds q
  | .ref i, _, r => by
    cases r with
    | ref e => simp only [clV]; exact decide_eq_true (List.getElem?_eq_some_iff.mp e).1
  | .fz (.lst ds), _, r => by
    cases r with
    | fl s q => simp only [clV, clO]; exact repVs_cl ds q
  | .fz (.dic kvs), _, r => by
    simp only [clV, clO]
    cases r with
    | fdK z e q => exact repK_cl kvs (fun p hp => .inl (let ⟨x, hx⟩ := pd_mem q.pd hp; by rw [hx.1]; rfl)) fun p hp => let ⟨x, hx⟩ := pd_mem q.pd hp; ⟨_, hx.2⟩
    | fdN z ne e m nd q => exact repK_cl kvs (fun p hp => .inr (let ⟨x, hx⟩ := pd_mem q.pd hp; ⟨_, hx.2.2.1⟩)) fun p hp => let ⟨x, hx⟩ := pd_mem q.pd hp; let ⟨v, hv⟩ := hx.2.2.2; ⟨v, hv.2⟩
  | .fz (.set ds), _, r => by
    cases r with
    | fset z e p l => simp only [clV, clO]; rw [z]; exact strs_cl _
  | .fz (.ins c fs), _, r => by
    simp only [clV, clO]
    cases r with
    | fiP vs u n m s e l k q w => exact repF_cl fs u fun f d hf => ⟨_, q f d hf⟩
    | fiS vs u n m s e l k q => exact repF_cl fs u fun f d hf => ⟨_, q f d hf⟩
theorem repVs_cl : ∀ (ds : List PV) {vs : List V}, RepVs G φ H ds vs → clVs φ.length ds = true
  | [], _, _ => rfl
  | d :: ds, _, r => by
    cases r with
    | cons a b => simp only [clVs, repV_cl d a, repVs_cl ds b]; rfl
theorem repK_cl : ∀ (l : List (PV × PV)), (∀ p ∈ l, (keyOf p.1).isSome = true ∨ ∃ v, RepV G φ H p.1 v) → (∀ p ∈ l, ∃ v, RepV G φ H p.2 v) → clKs φ.length l = true
  | [], _, _ => rfl
  | (k, v) :: r, a, b => by
    obtain ⟨w, hw⟩ := b _ List.mem_cons_self
    have hk : clV φ.length k = true := by
      rcases a _ List.mem_cons_self with z | ⟨u, hu⟩
      · exact key_cl z
      · exact repV_cl k hu
    simp only [clKs, hk, repV_cl v hw, repK_cl r (fun p hp => a p (List.mem_cons_of_mem _ hp)) (fun p hp => b p (List.mem_cons_of_mem _ hp))]; rfl
theorem repF_cl : ∀ (fs : List (Nat × PV)), (fs.map (·.1)).Nodup → (∀ f d, fs.lookup f = some d → ∃ v, RepV G φ H d v) → clFs φ.length fs = true
  | [], _, _ => rfl
  | (f, d) :: r, nd, a => by
    obtain ⟨w, hw⟩ := a f d (by simp)
    rw [List.map_cons, List.nodup_cons] at nd
    simp only [clFs, repV_cl d hw, repF_cl r nd.2 (fun g e hg => a g e (by
      have ne : (g == f) = false := by
        rw [beq_eq_false_iff_ne]
        rintro rfl
        exact nd.1 (List.mem_map.mpr ⟨_, lookup_mem' hg, rfl⟩)
      rw [List.lookup_cons, ne]; exact hg))]; rfl
end
end
/-! ### the cut -/
def notIns : PObj → Bool
  | .ins _ _ => false
  | _ => true
structure CutR (G : Gc) (φ φ1 : List Addr) (n : Nat) (h' : PHeap) (H1 H2 : Hp) (L : List Addr) : Prop where
  pre : φ = φ1.take n
  rel : RelH G φ1 h' H1
  lk : LkR L H1 H2
  l1 : ∀ a ∈ L, ∃ i o, n ≤ i ∧ φ1[i]? = some a ∧ h'[i]? = some o ∧ notIns o = true
section
variable {G : Gc} {φ φ1 : List Addr} {n : Nat} {h' : PHeap} {H1 H2 : Hp} {L : List Addr} {a : Addr}
theorem CutR.sub (c : CutR G φ φ1 n h' H1 H2 L) (hm : a ∉ φ1) : a ∉ φ := fun z => hm (by rw [c.pre] at z; exact List.mem_of_mem_take z)
theorem CutR.inL (c : CutR G φ φ1 n h' H1 H2 L) (hm : a ∈ L) : a ∈ φ1 := by
  obtain ⟨i, o, _, e, _⟩ := c.l1 a hm
  exact List.mem_of_getElem? e
theorem CutR.keep (c : CutR G φ φ1 n h' H1 H2 L) {o : HO} (e : H1 a = some o) (nm : ¬ Mut (some o)) : H2 a = some o := by
  rw [c.lk.out a fun hm => ?_]
  · exact e
  · obtain ⟨od, u, e1, mu, _⟩ := c.lk.at_ a hm
    rw [e] at e1
    cases e1
    exact nm mu
theorem CutR.keep' (c : CutR G φ φ1 n h' H1 H2 L) (nm : a ∉ φ1) : H2 a = H1 a := c.lk.out a fun hm => nm (c.inL hm)
theorem CutR.below (c : CutR G φ φ1 n h' H1 H2 L) {i : Nat} (e : φ1[i]? = some a) (hi : i < n) : φ[i]? = some a ∧ H2 a = H1 a := by
  refine ⟨by rw [c.pre, List.getElem?_take_of_lt hi]; exact e, c.lk.out a fun hm => ?_⟩
  obtain ⟨j, o, hj, e1, _⟩ := c.l1 a hm
  have := nodup_get c.rel.nd e e1
  omega
theorem CutR.above (c : CutR G φ φ1 n h' H1 H2 L) {i : Nat} (e : φ1[i]? = some a) (hi : n ≤ i) : a ∉ φ := fun hm => by
  rw [c.pre] at hm
  obtain ⟨j, hj, e1⟩ := List.mem_iff_getElem.mp hm
  have hj' : j < n := by rw [List.length_take] at hj; omega
  have e2 : φ1[j]? = some a := by
    rw [← List.getElem?_take_of_lt hj', List.getElem?_eq_getElem hj, e1]
  have := nodup_get c.rel.nd e e2
  omega
theorem CutR.sqT (c : CutR G φ φ1 n h' H1 H2 L) {vs : List V} (s : SqT G.K H1 a vs) : SqT G.K H2 a vs := by
  rcases s with (s | ⟨o, s⟩) | s
  · exact .inl (.inl (c.keep s id))
  · exact .inl (.inr ⟨o, c.keep s id⟩)
  · exact .inr s
theorem CutR.slt (c : CutR G φ φ1 n h' H1 H2 L) (nm : H2 a = H1 a) {C dx : Addr} {ws : List (Option V)} (s : SlX.Slt H1 a C dx ws) : SlX.Slt H2 a C dx ws := by
  rcases s with ⟨h1, h2⟩ | ⟨h1, h2⟩
  · exact .inl ⟨nm.trans h1, h2⟩
  · exact .inr ⟨nm.trans h1, c.keep h2 id⟩
theorem CutR.slw (c : CutR G φ φ1 n h' H1 H2 L) {dx : Addr} (s : SlW H1 a dx) : SlW H2 a dx := ⟨s.1, s.2.imp (fun q => c.keep q id) (fun q => c.keep q id)⟩
mutual
theorem cut_V (c : CutR G φ φ1 n h' H1 H2 L) : ∀ (d : PV) {v : V}, clV n d = true → RepV G φ1 H1 d v → RepV G φ H2 d v
  | .non, _, _, r => by cases r; exact .non
  | .bl _, _, _, r => by cases r; exact .bl _
  | .int _, _, _, r => by cases r; exact .int _
  | .str _, _, _, r => by cases r; exact .str _
  | .ty _, _, _, r => by cases r; exact .ty _
  | .gl _, _, _, r => by cases r with | gl e => exact .gl e
  | .scr _, _, _, r => by cases r with | scr e => exact .scr (e.imp (fun ⟨o, s⟩ => ⟨o, c.keep s id⟩) id)
  | .tup ds, _, k, r => by
    cases r with
    | tup s q => exact .tup (c.sqT s) (cut_Vs c ds (by simpa only [clV] using k) q)
  | .ref i, _, k, r => by
    cases r with
    | ref e => exact .ref (c.below e (by simpa only [clV, decide_eq_true_eq] using k)).1
  | .fz (.lst ds), _, k, r => by
    cases r with
    | fl s q =>
      obtain ⟨o, s⟩ := s
      exact .fl ⟨o, c.keep s id⟩ (cut_Vs c ds (by simpa only [clV, clO] using k) q)
  | .fz (.dic kvs), _, k, r => by
    cases r with
    | fdK z e q => exact .fdK z (c.keep e id) (cut_K c kvs (by simpa only [clV, clO] using k) q)
    | fdN z ne e m nd q => exact .fdN z ne (c.keep e id) m nd (cut_E c kvs (by simpa only [clV, clO] using k) q)
  | .fz (.set ds), _, k, r => by
    cases r with
    | fset z e p l => exact .fset z (c.keep e id) p l
  | .fz (.ins _ fs), _, k, r => by
    have kf : clFs n fs = true := by simpa only [clV, clO] using k
    cases r with
    | fiP vs u nn m s e l k q w => exact .fiP vs u (c.sub nn) m s ((c.keep' nn).trans e) l k (fun f d hf => cut_F c fs kf f d hf (q f d hf)) w
    | fiS vs u nn m s e l k q => exact .fiS vs u (c.sub nn) m s (c.slt (c.keep' nn) e) (c.slw l) k (fun f d hf => cut_F c fs kf f d hf (q f d hf))
theorem cut_Vs (c : CutR G φ φ1 n h' H1 H2 L) : ∀ (ds : List PV) {vs : List V}, clVs n ds = true → RepVs G φ1 H1 ds vs → RepVs G φ H2 ds vs
  | [], _, _, r => by cases r; exact .nil
  | d :: ds, _, k, r => by
    simp only [clVs, Bool.and_eq_true] at k
    cases r with
    | cons a b => exact .cons (cut_V c d k.1 a) (cut_Vs c ds k.2 b)
theorem cut_K (c : CutR G φ φ1 n h' H1 H2 L) : ∀ (l : List (PV × PV)) {m : List (Key × V)}, clKs n l = true → RepKs G φ1 H1 l m → RepKs G φ H2 l m
  | [], _, _, r => by cases r; exact .nil
  | (x, y) :: l, _, k, r => by
    simp only [clKs, Bool.and_eq_true] at k
    cases r with
    | cons e a b => exact .cons e (cut_V c y k.1.2 a) (cut_K c l k.2 b)
theorem cut_E (c : CutR G φ φ1 n h' H1 H2 L) : ∀ (l : List (PV × PV)) {m : List (NestedKey × Addr × Value)}, clKs n l = true → RepEs G φ1 H1 l m → RepEs G φ H2 l m
  | [], _, _, r => by cases r; exact .nil
  | (x, y) :: l, _, k, r => by
    simp only [clKs, Bool.and_eq_true] at k
    cases r with
    | cons e1 e2 e3 e4 e5 b => exact .cons e1 e2 (cut_V c x k.1.1 e3) e4 (cut_V c y k.1.2 e5) (cut_E c l k.2 b)
theorem cut_F (c : CutR G φ φ1 n h' H1 H2 L) : ∀ (fs : List (Nat × PV)), clFs n fs = true → ∀ f d {v : V}, fs.lookup f = some d → RepV G φ1 H1 d v → RepV G φ H2 d v
  | [], _, _, _, _, e, _ => by cases e
  | (g, x) :: l, k, f, d, v, e, r => by
    simp only [clFs, Bool.and_eq_true] at k
    rw [List.lookup_cons] at e
    cases z : f == g with
    | true =>
      rw [z] at e
      have e : x = d := by simpa using e
      have r' : RepV G φ1 H1 x v := e ▸ r
      exact e ▸ cut_V c x k.1 r'
    | false => rw [z] at e; exact cut_F c l k.2 f d e r
end
theorem cut_O (c : CutR G φ φ1 n h' H1 H2 L) {o : PObj} (e : H2 a = H1 a) (k : clO n o = true) (r : RepO G φ1 H1 a o) : RepO G φ H2 a o := by
  cases o with
  | lst ds => obtain ⟨vs, e1, q⟩ := r; exact ⟨vs, e.trans e1, cut_Vs c ds (by simpa only [clO] using k) q⟩
  | dic kvs =>
    obtain ⟨z, ⟨ks, e1, q⟩ | ⟨xs, ne, e1, q1, q2, q⟩⟩ := r
    · exact ⟨z, .inl ⟨ks, e.trans e1, (cut_K c kvs (by simpa only [clO] using k) (.of q)).pd⟩⟩
    · exact ⟨z, .inr ⟨xs, ne, e.trans e1, q1, q2, (cut_E c kvs (by simpa only [clO] using k) (.of q)).pd⟩⟩
  | set ds => obtain ⟨xs, ks, e0, e1, q⟩ := r; exact ⟨xs, ks, e0, e.trans e1, q⟩
  | ins cc fs =>
    have kf : clFs n fs = true := by simpa only [clO] using k
    obtain ⟨nd, C, dx, hC, ⟨z, ws, e1, ql, q, q2⟩ | ⟨z, vs, hs, hw, q⟩⟩ := r
    · exact ⟨nd, C, dx, hC, .inl ⟨z, ws, e.trans e1, ql, fun f d hf => let ⟨a0, v, a1, a2⟩ := q f d hf; ⟨a0, v, a1, cut_F c fs kf f d hf a2⟩, q2⟩⟩
    · exact ⟨nd, C, dx, hC, .inr ⟨z, vs, c.slt e hs, c.slw hw, fun f d hf => let ⟨i, v, a1, a2, a3⟩ := q f d hf; ⟨i, v, a1, a2, cut_F c fs kf f d hf a3⟩⟩⟩
theorem repO_cl {φ : List Addr} {H : Hp} {o : PObj} (r : RepO G φ H a o) : clO φ.length o = true := by
  cases o with
  | lst ds => obtain ⟨vs, e1, q⟩ := r; simp only [clO]; exact repVs_cl ds q
  | dic kvs =>
    simp only [clO]
    obtain ⟨z, ⟨ks, e1, q⟩ | ⟨xs, ne, e1, q1, q2, q⟩⟩ := r
    · exact repK_cl kvs (fun p hp => .inl (let ⟨x, hx⟩ := pd_mem q hp; by rw [hx.1]; rfl)) fun p hp => let ⟨x, hx⟩ := pd_mem q hp; ⟨_, hx.2⟩
    · exact repK_cl kvs (fun p hp => .inr (let ⟨x, hx⟩ := pd_mem q hp; ⟨_, hx.2.2.1⟩)) fun p hp => let ⟨x, hx⟩ := pd_mem q hp; let ⟨v, hv⟩ := hx.2.2.2; ⟨v, hv.2⟩
  | set ds => obtain ⟨xs, ks, e0, e1, q⟩ := r; simp only [clO]; rw [e0]; exact strs_cl _
  | ins cc fs =>
    simp only [clO]
    obtain ⟨nd, C, dx, hC, ⟨z, ws, e1, ql, q, q2⟩ | ⟨z, vs, hs, hw, q⟩⟩ := r
    · exact repF_cl fs nd fun f d hf => let ⟨_, v, _, a2⟩ := q f d hf; ⟨v, a2⟩
    · exact repF_cl fs nd fun f d hf => let ⟨_, v, _, _, a3⟩ := q f d hf; ⟨v, a3⟩
mutual
theorem nk_cl : ∀ (d : PV) {k : NestedKey}, nkOf d = some k → clV n d = true
  | .non, _, _ => rfl
  | .bl _, _, _ => rfl
  | .int _, _, _ => rfl
  | .str _, _, _ => rfl
  | .ty _, _, _ => rfl
  | .gl _, _, _ => rfl
  | .scr _, _, _ => rfl
  | .tup ds, _, e => by
    simp only [nkOf] at e
    cases z : nkOfs ds with
    | none => rw [z] at e; cases e
    | some ks => simp only [clV]; exact nks_cl ds z
  | .ref i, _, e => by simp [nkOf] at e
  | .fz _, _, e => by simp [nkOf] at e
theorem nks_cl : ∀ (ds : List PV) {ks : List NestedKey}, nkOfs ds = some ks → clVs n ds = true
  | [], _, _ => rfl
  | d :: ds, _, e => by
    obtain ⟨k, ks, e1, e2, _⟩ := nkOfs_cons e
    simp only [clVs, nk_cl d e1, nks_cl ds e2]; rfl
end
section
variable {f : PV → Option PV}
theorem frz_Vs (P : ∀ {d d' : PV} {v : V}, f d = some d' → RepV G φ1 H1 d v → RepV G φ H2 d' v) : ∀ {ds ds' : List PV} {vs : List V}, mapO f ds = some ds' → RepVs G φ1 H1 ds vs → RepVs G φ H2 ds' vs
  | _, _, _, e, .nil => by simp only [mapO] at e; cases e; exact .nil
  | _, _, _, e, .cons a b => by
    obtain ⟨y, ys, e1, e2, rfl⟩ := mapO_cons e
    exact .cons (P e1 a) (frz_Vs P e2 b)
def frzP (f : PV → Option PV) (p : PV × PV) : Option (PV × PV) := if (nkOf p.1).isSome then (f p.2).map fun v => (p.1, v) else none
theorem frzP_ok {p q : PV × PV} (e : frzP f p = some q) : (nkOf p.1).isSome = true ∧ q.1 = p.1 ∧ f p.2 = some q.2 := by
  unfold frzP at e
  split at e
  · rename_i z
    obtain ⟨y, e1, e2⟩ := omap e
    subst e2
    exact ⟨z, rfl, e1⟩
  · cases e
theorem frz_K (P : ∀ {d d' : PV} {v : V}, f d = some d' → RepV G φ1 H1 d v → RepV G φ H2 d' v) : ∀ {l l' : List (PV × PV)} {m : List (Key × V)}, mapO (frzP f) l = some l' → RepKs G φ1 H1 l m → RepKs G φ H2 l' m ∧ l'.length = l.length
  | _, _, _, e, .nil => by simp only [mapO] at e; cases e; exact ⟨.nil, rfl⟩
  | _, _, _, e, .cons e0 a b => by
    obtain ⟨y, ys, e1, e2, rfl⟩ := mapO_cons e
    obtain ⟨_, q1, q2⟩ := frzP_ok e1
    obtain ⟨i1, i2⟩ := frz_K P e2 b
    exact ⟨.cons (by rw [q1]; exact e0) (P q2 a) i1, by simp [i2]⟩
theorem frz_E (c : CutR G φ φ1 n h' H1 H2 L) (P : ∀ {d d' : PV} {v : V}, f d = some d' → RepV G φ1 H1 d v → RepV G φ H2 d' v) : ∀ {l l' : List (PV × PV)} {m : List (NestedKey × Addr × Value)}, mapO (frzP f) l = some l' → RepEs G φ1 H1 l m → RepEs G φ H2 l' m ∧ l'.length = l.length
  | _, _, _, e, .nil => by simp only [mapO] at e; cases e; exact ⟨.nil, rfl⟩
  | _, _, _, e, .cons e0 d0 k0 r0 a b => by
    obtain ⟨y, ys, e1, e2, rfl⟩ := mapO_cons e
    obtain ⟨q0, q1, q2⟩ := frzP_ok e1
    obtain ⟨i1, i2⟩ := frz_E c P e2 b
    exact ⟨.cons (by rw [q1]; exact e0) d0 (by rw [q1]; exact cut_V c _ (nk_cl _ e0) k0) r0 (P q2 a) i1, by simp [i2]⟩
def frzQ (f : PV → Option PV) (p : Nat × PV) : Option (Nat × PV) := (f p.2).map fun v => (p.1, v)
theorem frz_F : ∀ {l l' : List (Nat × PV)}, mapO (frzQ f) l = some l' → l'.map (·.1) = l.map (·.1) ∧ (∀ g d', l'.lookup g = some d' → ∃ d, l.lookup g = some d ∧ f d = some d') ∧ ∀ g, (l'.lookup g).isSome = (l.lookup g).isSome
  | [], _, e => by simp only [mapO] at e; cases e; exact ⟨rfl, (fun g d' h => by cases h), fun _ => rfl⟩
  | (g0, d0) :: l, _, e => by
    obtain ⟨y, ys, e1, e2, rfl⟩ := mapO_cons e
    obtain ⟨w, q1, q2⟩ := omap e1
    subst q2
    obtain ⟨i1, i2, i3⟩ := frz_F e2
    refine ⟨by simp [i1], fun g d' hg => ?_, fun g => ?_⟩
    · rw [List.lookup_cons] at hg ⊢
      cases z : g == g0 with
      | true => rw [z] at hg; cases hg; exact ⟨d0, rfl, q1⟩
      | false => rw [z] at hg; exact i2 g d' hg
    · rw [List.lookup_cons, List.lookup_cons]
      cases g == g0 with
      | true => rfl
      | false => exact i3 g
end
theorem frzO_eq {f : PV → Option PV} {kvs : List (PV × PV)} : frzO f (.dic kvs) = (mapO (frzP f) kvs).map .dic := rfl
theorem frzO_eq' {f : PV → Option PV} {c : Nat} {fs : List (Nat × PV)} : frzO f (.ins c fs) = (mapO (frzQ f) fs).map (.ins c) := rfl
theorem ne_nil_len {α : Type} {l l' : List α} (h : l'.length = l.length) (ne : l ≠ []) : l' ≠ [] := fun e => ne (List.eq_nil_of_length_eq_zero (by rw [← h, e]; rfl))
theorem cut_frz (c : CutR G φ φ1 n h' H1 H2 L) (l2 : ∀ i o a, n ≤ i → φ1[i]? = some a → h'[i]? = some o → notIns o = true → a ∈ L) : ∀ (k : Nat) {d d' : PV} {v : V}, frzV h' n k d = some d' → RepV G φ1 H1 d v → RepV G φ H2 d' v
  | 0, d, d', v, e, r => by
    unfold frzV at e
    split at e
    · rename_i z; cases e; exact cut_V c d z r
    · cases e
  | k + 1, d, d', v, e, r => by
    unfold frzV at e
    split at e
    · rename_i z; cases e; exact cut_V c d z r
    · rename_i z
      have P : ∀ {d d' : PV} {v : V}, frzV h' n k d = some d' → RepV G φ1 H1 d v → RepV G φ H2 d' v := fun e r => cut_frz c l2 k e r
      split at e
      · obtain ⟨ds', e1, e2⟩ := omap e
        subst e2
        cases r with
        | tup s q => exact .tup (c.sqT s) (frz_Vs P e1 q)
      · obtain ⟨o', e1, e2⟩ := omap e
        subst e2
        cases r with
        | fl s q =>
          obtain ⟨ds', e3, e4⟩ := omap e1
          subst e4
          obtain ⟨o, s⟩ := s
          exact .fl ⟨o, c.keep s id⟩ (frz_Vs P e3 q)
        | fdK zz e5 q =>
          rw [frzO_eq] at e1
          obtain ⟨ds', e3, e4⟩ := omap e1
          subst e4
          obtain ⟨i1, i2⟩ := frz_K P e3 q
          exact .fdK (by omega) (c.keep e5 id) i1
        | fdN zz ne e5 m nd q =>
          rw [frzO_eq] at e1
          obtain ⟨ds', e3, e4⟩ := omap e1
          subst e4
          obtain ⟨i1, i2⟩ := frz_E c P e3 q
          exact .fdN (by omega) (ne_nil_len i2 ne) (c.keep e5 id) m nd i1
        | fset zz e5 p l =>
          simp only [frzO] at e1
          cases e1
          exact .fset zz (c.keep e5 id) p l
        | fiP vs u nn m s e5 l kk q w =>
          rw [frzO_eq'] at e1
          obtain ⟨fs', e3, e4⟩ := omap e1
          subst e4
          obtain ⟨i1, i2, i3⟩ := frz_F e3
          have hl := congrArg List.length i1
          simp only [List.length_map] at hl
          exact .fiP vs (by rw [i1]; exact u) (c.sub nn) m s ((c.keep' nn).trans e5) (by omega) (fun g d' hg => let ⟨d, g1, _⟩ := i2 g d' hg; kk g d g1) (fun g d' hg => let ⟨d, g1, g2⟩ := i2 g d' hg; P g2 (q g d g1)) fun x v hx => let ⟨g, g1, g2⟩ := w x v hx; ⟨g, g1, by rw [i3]; exact g2⟩
        | fiS vs u nn m s e5 l kk q =>
          rw [frzO_eq'] at e1
          obtain ⟨fs', e3, e4⟩ := omap e1
          subst e4
          obtain ⟨i1, i2, i3⟩ := frz_F e3
          exact .fiS vs (by rw [i1]; exact u) (c.sub nn) m s (c.slt (c.keep' nn) e5) (c.slw l) (fun g d' hg => let ⟨d, g1, _⟩ := i2 g d' hg; kk g d g1) (fun g d' hg => let ⟨d, g1, g2⟩ := i2 g d' hg; P g2 (q g d g1))
      · rename_i i
        have hi : n ≤ i := by
          simp only [clV, decide_eq_true_eq] at z
          omega
        cases r with
        | ref er =>
          rename_i a
          have na := c.above er hi
          split at e
          · rename_i o ho
            obtain ⟨o', e1, e2⟩ := omap e
            subst e2
            have ro := c.rel.obj i o a ho er
            cases o with
            | lst ds =>
              obtain ⟨vs, e3, q⟩ := ro
              obtain ⟨ds', e4, e5⟩ := omap e1
              subst e5
              obtain ⟨od, u, e6, _, e7⟩ := c.lk.at_ a (l2 i _ a hi er ho rfl)
              rw [e3] at e6
              cases e6
              exact .fl ⟨od, e7⟩ (frz_Vs P e4 q)
            | dic kvs =>
              rw [frzO_eq] at e1
              obtain ⟨ds', e4, e5⟩ := omap e1
              subst e5
              obtain ⟨od, u, e6, _, e7⟩ := c.lk.at_ a (l2 i _ a hi er ho rfl)
              obtain ⟨zz, ⟨ks, e3, q⟩ | ⟨xs, ne, e3, q1, q2, q⟩⟩ := ro
              · rw [e3] at e6
                cases e6
                obtain ⟨i1, i2⟩ := frz_K P e4 (.of q)
                exact .fdK (by omega) e7 i1
              · rw [e3] at e6
                cases e6
                obtain ⟨i1, i2⟩ := frz_E c P e4 (.of q)
                exact .fdN (by omega) (ne_nil_len i2 ne) e7 q1 q2 i1
            | set ds =>
              simp only [frzO] at e1
              cases e1
              obtain ⟨xs, ks, e0, e3, q1, q2⟩ := ro
              obtain ⟨od, u, e6, _, e7⟩ := c.lk.at_ a (l2 i _ a hi er ho rfl)
              rw [e3] at e6
              cases e6
              exact .fset e0 e7 q1 q2
            | ins cc fs =>
              rw [frzO_eq'] at e1
              obtain ⟨fs', e3, e4⟩ := omap e1
              subst e4
              obtain ⟨i1, i2, i3⟩ := frz_F e3
              have hl : fs'.length = fs.length := by have := congrArg List.length i1; simpa using this
              have eH : H2 a = H1 a := c.lk.out a fun hm => by
                obtain ⟨j, o, _, e5, e6, e7⟩ := c.l1 a hm
                have := nodup_get c.rel.nd er e5
                subst this
                rw [ho] at e6
                cases e6
                cases e7
              obtain ⟨nd, C, dx, hC, ⟨z, ws, e5, ql, q, q2⟩ | ⟨z, vs, hs, hw, q⟩⟩ := ro
              · have q' : ∀ f, ∃ w, ∀ d, fs.lookup f = some d → G.fld cc f = true ∧ ws.lookup (G.nm f) = some w ∧ RepV G φ1 H1 d w := fun f => by
                  cases hf : fs.lookup f with
                  | none => exact ⟨.non, fun d hd => by cases hd⟩
                  | some d => obtain ⟨a0, w, a1, a2⟩ := q f d hf; exact ⟨w, fun d' hd => by cases hd; exact ⟨a0, a1, a2⟩⟩
                obtain ⟨vs, hv⟩ := Classical.axiomOfChoice q'
                exact .fiP vs (by rw [i1]; exact nd) na hC z (eH.trans e5) (by omega) (fun g d' hg => let ⟨d, g1, _⟩ := i2 g d' hg; ⟨(hv g d g1).1, (hv g d g1).2.1⟩) (fun g d' hg => let ⟨d, g1, g2⟩ := i2 g d' hg; P g2 (hv g d g1).2.2) fun x v hx => let ⟨g, g1, g2⟩ := q2 x v hx; ⟨g, g1, by rw [i3]; exact g2⟩
              · have q' : ∀ f, ∃ w, ∀ d, fs.lookup f = some d → (∃ i, G.slot cc f = some i ∧ vs[i]? = some (some w)) ∧ RepV G φ1 H1 d w := fun f => by
                  cases hf : fs.lookup f with
                  | none => exact ⟨.non, fun d hd => by cases hd⟩
                  | some d => obtain ⟨i, w, a1, a2, a3⟩ := q f d hf; exact ⟨w, fun d' hd => by cases hd; exact ⟨⟨i, a1, a2⟩, a3⟩⟩
                obtain ⟨us, hv⟩ := Classical.axiomOfChoice q'
                exact .fiS us (by rw [i1]; exact nd) na hC z (c.slt eH hs) (c.slw hw) (fun g d' hg => let ⟨d, g1, _⟩ := i2 g d' hg; (hv g d g1).1) (fun g d' hg => let ⟨d, g1, g2⟩ := i2 g d' hg; P g2 (hv g d g1).2)
          · cases e
      · cases e
end
theorem sealH_ok {n : Nat} : ∀ {h h' h1 : PHeap}, sealH n h h' = some h1 → h1.length = h.length ∧ ∀ (j : Nat) (o : PObj), h1[j]? = some o → h'[j]? = some o ∧ (h[j]? = some o ∨ clO n o = true)
  | [], h', h1, e => by simp only [sealH] at e; cases e; exact ⟨rfl, fun j o h => by simp at h⟩
  | o :: r, [], h1, e => by simp only [sealH] at e; cases e
  | o :: r, o' :: r', h1, e => by
    simp only [sealH] at e
    split at e
    · rename_i z
      obtain ⟨h2, e1, e2⟩ := omap e
      subst e2
      obtain ⟨i1, i2⟩ := sealH_ok e1
      refine ⟨by simp [i1], fun j ob hj => ?_⟩
      cases j with
      | zero =>
        simp only [List.getElem?_cons_zero, Option.some.injEq] at hj ⊢
        subst hj
        refine ⟨rfl, ?_⟩
        rw [Bool.or_eq_true] at z
        rcases z with z | z
        · exact .inl (PObj.same_eq _ _ z)
        · exact .inr z
      | succ j => simpa using i2 j ob (by simpa using hj)
    · cases e
section
variable {G : Gc} {φ φ1 : List Addr} {h h' h1 : PHeap} {H H1 H2 : Hp} {L : List Addr}
theorem cut_rel (rh : RelH G φ h H) (c : CutR G φ φ1 h.length h' H1 H2 L) (e : sealH h.length h h' = some h1) : RelH G φ h1 H2 where
  tab := fun p hp => by
    obtain ⟨ps, e1, k, f⟩ := c.rel.tab p hp
    refine ⟨ps, c.keep e1 id, k, fun pos cv hc => ?_⟩
    obtain ⟨cc, e2, n, e3⟩ := f pos cv hc
    exact ⟨cc, e2, c.sub n, (c.keep' n).trans e3⟩
  len := by rw [(sealH_ok e).1, rh.len]
  nd := rh.nd
  obj := fun i o a hi ha => by
    obtain ⟨e1, e2⟩ := (sealH_ok e).2 i o hi
    have hl : i < h.length := by rw [← rh.len]; exact (List.getElem?_eq_some_iff.mp ha).1
    have ha1 : φ1[i]? = some a := by rw [c.pre, List.getElem?_take_of_lt hl] at ha; exact ha
    have cl : clO h.length o = true := by
      rcases e2 with e2 | e2
      · rw [← rh.len]; exact repO_cl (rh.obj i o a e2 ha)
      · exact e2
    exact cut_O c (c.below ha1 hl).2 cl (c.rel.obj i o a e1 ha1)
theorem cut_ext (x : Ext φ H φ1 H1) (c : CutR G φ φ1 h.length h' H1 H2 L) (rh : RelH G φ h H) : Ext φ H φ H2 where
  pre := List.prefix_refl _
  new := fun a hm nm => absurd hm nm
  keep := fun a o e n s => (c.keep' (x.nin e n (Stays.nt s))).trans (x.keep a o e n s)
  own := fun a y e n => by rw [c.keep' (x.nin e n fun _ z => nomatch z)]; exact x.own a y e n
open Classical in
theorem cut_locks (rh : RelH G φ h H) (x : Ext φ H φ1 H1) (r1 : RelH G φ1 h' H1) {R : Hp → Prop}
    (k : ∀ L H2, CutR G φ φ1 h.length h' H1 H2 L → (∀ i o a, h.length ≤ i → φ1[i]? = some a → h'[i]? = some o → notIns o = true → a ∈ L) → R H2) : ∃ L, Frzs L H1 R := by
  have pre : φ = φ1.take h.length := by
    obtain ⟨t, rfl⟩ := x.pre
    rw [← rh.len, List.take_left]
  let L := φ1.filter fun a => decide (∃ i o, h.length ≤ i ∧ φ1[i]? = some a ∧ h'[i]? = some o ∧ notIns o = true)
  have hL : ∀ a ∈ L, ∃ i o, h.length ≤ i ∧ φ1[i]? = some a ∧ h'[i]? = some o ∧ notIns o = true := fun a ha => of_decide_eq_true (List.mem_filter.mp ha).2
  refine ⟨L, frzs_of L H1 R (r1.nd.filter _) (fun a ha => ?_) fun H2 lk => k L H2 ⟨pre, r1, lk, hL⟩ fun i o a hi ha ho no => List.mem_filter.mpr ⟨List.mem_of_getElem? ha, decide_eq_true ⟨i, o, hi, ha, ho, no⟩⟩⟩
  obtain ⟨i, o, hi, ea, eo, no⟩ := hL a ha
  have ro := r1.obj i o a eo ea
  cases o with
  | lst ds => obtain ⟨vs, e, _⟩ := ro; exact ⟨_, e, trivial⟩
  | dic kvs =>
    obtain ⟨_, ⟨ks, e, _⟩ | ⟨xs, _, e, _⟩⟩ := ro
    · exact ⟨_, e, trivial⟩
    · exact ⟨_, e, trivial⟩
  | set ds => obtain ⟨xs, ks, _, e, _⟩ := ro; exact ⟨_, e, trivial⟩
  | ins => cases no
theorem seal_post {r : R PV} {Q : VK} {E : XK} (rh : RelH G φ h H) (p : Post G φ H (sealF h r) Q E) : Post G φ H r (fun v H' => ∃ L, Frzs L H' (Q v)) E := by
  cases r with
  | ok d h' =>
    intro φ1 H1 v x r1 rv
    simp only [sealF] at p
    cases e1 : frzV h' h.length 6 d with
    | none => rw [e1] at p; exact p.elim
    | some d1 =>
      cases e2 : sealH h.length h h' with
      | none => rw [e1, e2] at p; exact p.elim
      | some h1 =>
        rw [e1, e2] at p
        exact cut_locks rh x r1 fun L H2 c l2 => p φ H2 v (cut_ext x c rh) (cut_rel rh c e2) (cut_frz c l2 6 e1 rv)
  | exc c fs h' =>
    intro φ1 H1 cls dd x r1 rx
    simp only [sealF] at p
    split at p
    · rename_i z
      rw [Bool.and_eq_true] at z
      cases e2 : sealH h.length h h' with
      | none => rw [e2] at p; exact p.elim
      | some h1 =>
        rw [e2] at p
        have pre : φ = φ1.take h.length := by
          obtain ⟨t, rfl⟩ := x.pre
          rw [← rh.len, List.take_left]
        have c : CutR G φ φ1 h.length h' H1 H1 [] := ⟨pre, r1, ⟨fun _ _ => rfl, fun a ha => nomatch ha⟩, fun a ha => nomatch ha⟩
        refine p φ H1 cls dd (cut_ext x c rh) (cut_rel rh c e2) ⟨rx.1, rx.2.imp id fun ⟨da, ws, q1, q2, q3⟩ => ⟨da, ws, q1, q2, fun f e hf => ?_⟩⟩
        obtain ⟨w, w1, w2⟩ := q3 f e hf
        exact ⟨w, w1, cut_F c fs z.2 f e hf w2⟩
    · exact p.elim
  | stuck => exact p
end
end Zed
end
section
set_option Elab.async false
set_option linter.all false
set_option maxRecDepth 100000
set_option maxHeartbeats 4000000
namespace Zed
open PySem L2
section
variable {S : Sg} {G : Gc} {C : Orc} {k : Nat}
theorem exS_for {t : Tg} {it : Itr} {b : Sxs} : exS C (.for_ t it b) = fun l h => (evI C it l h).toS l fun src h1 => forLoop t src (exSs C b) (srcLen h1 src + 1) 0 l h1 := by funext l h; simp only [exS]
theorem exS_fld {o : Ex} {f : Nat} {e : Ex} : exS C (.fld o f e) = fun l h => (evE C e l h).toS l fun v h1 => (evE C o l h1).toS l fun x h2 => match fldF C.ct x f v h2 with | some h3 => .nx l h3 | none => .stuck := by funext l h; first | (simp only [exS]; done) | (simp only [exS]; rfl)
theorem exS_whl {c : Ex} {b : Sxs} : exS C (.whl c b) = whlLoop (fun l h => truthR (evE C c l h)) (exSs C b) 1000000 := by funext l h; simp only [exS]
theorem noComp_sw {e : Expr} {line : Nat} {env : Env} (h : noComp e = true) : swapsWith e none line env = pure false := by
  cases e <;> first | rfl | (cases h)
mutual
theorem soundS : ∀ (ir : Sx) {X : Cx} {W : WX} {sc : Scope} {st : Stmt}, Glob S G C k X → X.env.scope = sc → Scp sc.names X → Takes X W → PassesOwn (model X.prog X.w) X.A X.env X.xe → chkS S X.N sc ir st = true → PS X st (tEvS G W (exS C ir))
  | .ex e, X, W, sc, st, g, es, sp, tk, po, c => by
    simp only [chkS] at c
    split at c
    · simp only [Bool.and_eq_true] at c
      exact ps_imp (ps_expr (soundE e g sp tk c.2) (noComp_sw c.1)) tDrop_ev
    · cases c
  | .asg t e, X, W, sc, st, g, es, sp, tk, po, c => by
    have hk := g.kind
    simp only [chkS] at c
    split at c
    · rename_i tg v pos
      split at c
      · rename_i sw
        split at c
        · rename_i sw1
          simp only [Bool.and_eq_true, beq_iff_eq] at c
          subst es
          refine ps_imp (soundLc g sp tk c.2 c.1.1 (sp.loc _ c.1.2) ?_) gName_ev
          rw [sw_ok hk, sw]
        · cases c
      · rename_i sw
        have sw' : swapsWithSole [tg] v pos.line X.env = pure false := by
          show swapsWith v (some tg) pos.line X.env = pure false
          rw [sw_ok hk, es]
          simp only [Bool.not_eq_true] at sw
          rw [sw]
        split at c
        · rename_i so
          simp only [Bool.and_eq_true] at c
          exact ps_imp (ps_asg (soundE e g sp tk c.2) (soundG t g.K g.nd g.calm sp c.1) sw' (swp_ok hk (by rw [es]; exact so)) (by rw [assignEach_cons (chkG_noStar c.1)]; rfl)) tAsg_ev
        · rename_i x y so
          split at c
          · simp only [Bool.and_eq_true, beq_iff_eq, bne_iff_ne] at c
            obtain ⟨⟨⟨⟨⟨⟨⟨c1, c2⟩, c3⟩, c4⟩, c5⟩, c6⟩, c7⟩, c8⟩ := c
            subst c1; subst c2
            exact ps_imp (ps_par g.calm g.nd c3 c4 c5 (sp.loc _ c6) (sp.loc _ c7) (soundA _ g sp tk c8) (swp_ok hk (by rw [es]; exact so)) sw') tPar_ev
          · cases c
        · rename_i x y z so
          split at c
          · simp only [Bool.and_eq_true, beq_iff_eq, bne_iff_ne] at c
            obtain ⟨⟨⟨⟨⟨⟨⟨⟨⟨⟨⟨⟨c1, c2⟩, c3⟩, c4⟩, c5⟩, c6⟩, c7⟩, c8⟩, c9⟩, c10⟩, c11⟩, c12⟩, c13⟩ := c
            subst c1; subst c2; subst c3
            exact ps_imp (ps_par3 g.calm g.nd c4 c5 c6 c7 c8 c9 (sp.loc _ c10) (sp.loc _ c11) (sp.loc _ c12) (soundA _ g sp tk c13) (swp_ok hk (by rw [es]; exact so)) sw') tPar3_ev
          · cases c
        · cases c
    · cases c
  | .put o i e, X, W, sc, st, g, es, sp, tk, po, c => by
    have hk := g.kind
    simp only [chkS] at c
    split at c
    · rename_i o' i' p1 v pos
      simp only [Bool.and_eq_true] at c
      refine ps_imp (ps_asg (soundE e g sp tk c.1.1.2) (pg_sub (soundE o g sp tk c.1.2) (soundE i g sp tk c.2) (set_Z g.K g.P g.w g.room.units) ?_) ?_ ?_ rfl) tPut_ev
      · intro u
        have c1 := c.1.1.1
        cases i' <;> first | rfl | (cases c1)
      · show swapsWith v (some (o'.Subscript i' p1)) pos.line X.env = pure false
        rw [sw_ok hk]
        unfold swO
        cases v <;> rfl
      · exact swp_ok hk rfl
    · cases c
  | .fld o f e, X, W, sc, st, g, es, sp, tk, po, c => by
    have hk := g.kind
    simp only [chkS] at c
    split at c
    · simp only [Bool.and_eq_true, beq_iff_eq, Bool.not_eq_true'] at c
      obtain ⟨⟨⟨c1, c2⟩, c3⟩, c4⟩ := c
      subst c1
      rename_i o' p1 v pos
      have := ps_fldZ (pos := pos) (pos' := p1) g (soundE o g sp tk c4) (soundE e g sp tk c3) (by
        rw [sw_ok hk, es]
        have z : swO sc (.Attribute o' (S.nm f) p1) v = swO sc (.Attribute o' (S.nm f) ⟨0, 0, 0, 0⟩) v := by cases v <;> rfl
        rw [z, c2])
      exact ps_imp this fun D σ H q => by rw [exS_fld] at q; exact q
    · cases c
  | .ret e, X, W, sc, st, g, es, sp, tk, po, c => by
    simp only [chkS] at c
    split at c
    · exact ps_imp (ps_ret (soundE e g sp tk c)) tRet_ev
    · cases c
  | .ret0, X, W, sc, st, g, es, sp, tk, po, c => by
    simp only [chkS] at c
    split at c
    · exact ps_imp ps_retN tRetN_ev
    · cases c
  | .iff d a b, X, W, sc, st, g, es, sp, tk, po, c => by
    simp only [chkS] at c
    split at c
    · simp only [Bool.and_eq_true] at c
      exact ps_imp (ps_if (soundT d g sp tk c.1.1) (soundSs a g es sp tk po c.1.2) (soundSs b g es sp tk po c.2)) tIff_ev
    · cases c
  | .for_ t it b, X, W, sc, st, g, es, sp, tk, po, c => by
    simp only [chkS] at c
    split at c
    · simp only [Bool.and_eq_true] at c
      exact ps_imp (ps_for po g.calm (soundI it g sp tk c.1.1.1) (soundG t g.K g.nd g.calm sp c.1.1.2) (soundSs b g es sp tk po c.2) (foldedSet c.1.2)) fun D σ H q => tFor_ev D σ H (by rw [exS_for] at q; exact q)
    · cases c
  | .whl d b, X, W, sc, st, g, es, sp, tk, po, c => by
    simp only [chkS] at c
    split at c
    · simp only [Bool.and_eq_true] at c
      exact ps_imp (ps_while po (soundT d g sp tk c.1) (soundSs b g es sp tk po c.2)) fun D σ H q => tWhl_ev D σ H (by rw [exS_whl] at q; exact q)
    · cases c
  | .pass, X, W, sc, st, g, es, sp, tk, po, c => by
    simp only [chkS] at c
    split at c
    · refine ps_imp ps_pass fun D σ H q => ?_
      obtain ⟨φ, l, h, rh, rl, p⟩ := q
      unfold exS at p
      exact p φ H σ .refl rh rl
    · cases c
  | .brk, X, W, sc, st, g, es, sp, tk, po, c => by
    simp only [chkS] at c
    split at c
    · refine ps_imp ps_break fun D σ H q => ?_
      obtain ⟨φ, l, h, rh, rl, p⟩ := q
      unfold exS at p
      exact p φ H σ .refl rh rl
    · cases c
  | .cnt, X, W, sc, st, g, es, sp, tk, po, c => by
    simp only [chkS] at c
    split at c
    · refine ps_imp ps_continue fun D σ H q => ?_
      obtain ⟨φ, l, h, rh, rl, p⟩ := q
      unfold exS at p
      exact p φ H σ .refl rh rl
    · cases c
  | .rai d m, X, W, sc, st, g, es, sp, tk, po, c => by
    simp only [chkS] at c
    split at c
    · simp only [Bool.and_eq_true, beq_iff_eq] at c
      obtain ⟨⟨⟨⟨c1, c2⟩, c3⟩, c4⟩, c5⟩ := c
      subst c1
      obtain ⟨D, e1, e2, e3, e4, e5⟩ := g.exc d c2
      refine ps_imp (ps_raise g.calm tk (pmk_own PySem.F.excBase_ValueError e3 e1 e2 (raises_own e4 e5) (sp.gl _ c3) (okNm_dbg c4).1)) fun D' σ H q => ?_
      obtain ⟨φ, l, h, rh, rl, p⟩ := q
      unfold exS at p
      exact p φ H σ _ none .refl rh rl ⟨.inl ⟨d, D, rfl, by rw [g.mg, g.nm]; exact e1, rfl⟩, .inl rfl⟩
    · cases c
theorem soundSs : ∀ (ir : Sxs) {X : Cx} {W : WX} {sc : Scope} {sts : List Stmt}, Glob S G C k X → X.env.scope = sc → Scp sc.names X → Takes X W → PassesOwn (model X.prog X.w) X.A X.env X.xe → chkSs S X.N sc ir sts = true → PSs X sts (tEvS G W (exSs C ir))
  | .nil, X, W, sc, sts, g, es, sp, tk, po, c => by
    simp only [chkSs] at c
    split at c
    · exact pss_imp pss_nil tNext_ev
    · cases c
  | .cons s r, X, W, sc, sts, g, es, sp, tk, po, c => by
    simp only [chkSs] at c
    split at c
    · simp only [Bool.and_eq_true] at c
      exact pss_imp (pss_cons (soundS s g es sp tk po c.1) (soundSs r g es sp tk po c.2)) tSeq_ev
    · cases c
end
/-! ### defs -/
/-- here, in the def f -/
def Sg.at_ (S : Sg) (f : Nat) : Sg := { S with gdH := S.rp f, lamH := S.lam f }
/-- a lambda's qualified name in a def -/
def lamQ (qual : Str) : Str := (qual ++ ".<locals>.") ++ "<lambda>"
/-- what is written of a def -/
structure DefOk (S : Sg) (T : List (Addr × Str)) (cs : List (Addr × Addr)) (K : PySem.W.Frag) (mg : Str → Option Value) (f : Nat) (ps : List Str) (fd : Fd) (N : List Str) (st : Stmt) : Prop where
  nm : ∃ a fdt name qual, (S.glo f = true → mg (S.nm f) = some (.ref a)) ∧ (∀ c, S.init c = some f → ∃ D, mg (S.nm c) = some (.ref D) ∧ Mk K D a) ∧
    FunD K name qual (defArgs st) (defBody st) (defScope st) [] [] a fdt ∧ (∀ (s : Shared) (us : List Value), us.length = ps.length → BindsTo s fdt ⟨us, []⟩ (ps.zip us)) ∧
    (S.lam f = true → ∃ c P, fdt.code = .ref c ∧ (c, P) ∈ cs ∧ (P, lamQ qual) ∈ T ∧ ∀ p ∈ T, p.1 = P → p.2 = lamQ qual)
  sc : FnScope N ps (defScope st)
  np : fd.np = ps.length
  n : fd.n = N.length
  chk : chkSs (S.at_ f) N (defScope st) fd.body (defBody st) = true
theorem spF_len {F : List PV → PHeap → R PV} {m : Nat} (h : ∀ ds h, ds.length ≠ m → F ds h = .stuck) {vs : List V} {H : Hp} {Q : VK} {E : XK} (q : spF G F vs H Q E) : vs.length = m := by
  obtain ⟨φ, h0, ds, rh, rv, p⟩ := q
  rw [← rv.length]
  by_cases e : ds.length = m
  · exact e
  · rw [h ds h0 e] at p; exact p.elim
theorem Scp.self {X : Cx} (hf : ∀ x, X.fn x = true) : Scp X.env.scope.names X where
  loc := fun x h => by simpa [isK] using h
  cel := fun x h => ⟨by simpa [isK] using h, hf x⟩
  vis := fun x h => by
    simp only [isVis, isK, Bool.or_eq_true, beq_iff_eq] at h
    rcases h with (h | h) | h
    · exact .inl h
    · exact .inr (.inl h)
    · exact .inr (.inr h)
  gl := fun x h => by
    have z : X.env.scope.names.lookup x = some .globalImplicit := by simpa [isK] using h
    exact z
  cf := fun x h => h
/-- what is written of the text -/
structure TxtOk (S : Sg) (G : Gc) (cs : List (Addr × Addr)) (ct : Ct) (P : Program) (w : World) (K : PySem.W.Frag) (mg : Str → Option Value) : Prop where
  hP : G.P = P
  hw : G.w = w
  hK : G.K = K
  hmg : G.mg = mg
  nm : G.nm = S.nm
  sl : G.isSl = ct.isSl
  slo : G.slot = ct.slot
  fdl : G.fld = ct.fld
  fns : ∀ f ps fd, S.fn f = some (ps, fd) → ∃ N st, DefOk S G.T cs K mg f ps fd N st
  scl : ∀ c D, ct.isSl c = true → mg (S.nm c) = some (.ref D) → SlX.SCls K D
  sls : ∀ c f i D, ct.slot c f = some i → mg (S.nm c) = some (.ref D) → ∃ p, SlX.Slot1 K D (S.nm f) p i
  pcl : ∀ c f D, ct.isSl c = false → ct.fld c f = true → mg (S.nm c) = some (.ref D) → Cls K D ∧ NoAttr K D (S.nm f)
  inj : ∀ c f g i, ct.slot c f = some i → ct.slot c g = some i → f = g
  inn : ∀ c f g, ct.fld c f = true → ct.fld c g = true → S.nm f = S.nm g → f = g
  cst : ∀ x d, S.cst.lookup x = some d → ∃ u v, mg x = some u ∧ RelV v u ∧ ∀ φ H, RepV G φ H d v
  blt : ∀ x, S.blts.contains x = true → mg x = none
  exc : ∀ c, S.exc c = true → ∃ D, mg (S.nm c) = some (.ref D) ∧ PySem.W.keepIn K (.ref D) = true ∧ PySem.W.excIn K D [.type "ValueError", .type "Exception", .type "BaseException", .type "object"] "ValueError.__new__" = true ∧
    PySem.W.subIn K (.ref D) (.type "BaseException") = some true ∧ PySem.W.typeIn K (.ref D) = some (.type "type")
  exm : ∀ c d b, ct.exm c d = some b → ∃ D E, mg (S.nm c) = some (.ref D) ∧ mg (S.nm d) = some (.ref E) ∧ PySem.W.exmOne K (.ref D) (.ref E) = some b
  met : ∀ m, S.met m = true → ∃ hs last g fdt st a Ng, ct.met m = some (hs, last) ∧ mg (S.nm m) = some (.ref g) ∧ FunD K (S.nm m) (S.nm m) (defArgs st) (defBody st) (defScope st) [] [] g fdt ∧ Binds K fdt [a] [] ∧ FnScope Ng [a] (defScope st) ∧
    metB S.nm (defScope st).names a hs last (defBody st) = true ∧ ∀ p ∈ hs, ∃ E, mg (S.nm p.1) = some (.ref E)
/-- a def by its body; what leaves it may be locked -/
theorem Inv.frzs {X : Cx} {pins : List (Addr × Obj)} {σ : St} {s : Shared} {R : Hp → Prop} : ∀ {L : List Addr} {H : Hp}, Inv X pins σ H s → Frzs L H R → ∃ H', Inv X pins σ H' s ∧ R H'
  | [], H, I, q => ⟨H, I, q⟩
  | d :: L, H, I, ⟨u, e, mu, q⟩ => by
    obtain ⟨od, I'⟩ := I.lock e mu
    exact Inv.frzs I' (q od)
/-- behind the body: the call's end -/
theorem end_of {CX : CXT} {P : Program} {w : World} {K : PySem.W.Frag} {mg : Str → Option Value} {base : Heap} {N : List Str} {qual : Str} {scope : Scope} {f : Addr} {cdv : Value} {A : Around} {outer : List Env} {s s' : Shared} {H : Hp} {Q : VK} {E : XK} {fl : Flow}
    (q : SP (cxOf CX P w K mg base N qual scope f cdv A outer s H E) [] { nx := fun _ H' => ∃ L, Frzs L H' (Q .non), rt := fun v H' => ∃ L, Frzs L H' (Q v) } fl s') :
    ∃ u, (fl = .ret u ∨ (fl = .next ∧ u = .none)) ∧ CE outer P w H s Q u s' := by
  have done : ∀ {τ : L2.St} {H' : Hp} {v : V} {u : Value}, Inv (cxOf CX P w K mg base N qual scope f cdv A outer s H E) [] τ H' s' → RelV v u → (∃ L, Frzs L H' (Q v)) → CE outer P w H s Q u s' := fun J rv ⟨L, k⟩ =>
    let ⟨H2, J2, k2⟩ := Inv.frzs J k
    ⟨_, H2, J2.os, J2.bare, J2.base, J2.hok, rv, k2⟩
  match fl, q with
  | .ret u, ⟨v, τ, H', J, rv, k⟩ => exact ⟨u, .inl rfl, done J rv k⟩
  | .next, ⟨τ, H', J, k⟩ => exact ⟨.none, .inr ⟨rfl, rfl⟩, done (v := V.non) J rfl k⟩
  | .brk, ⟨_, _, _, k⟩ => exact k.elim
  | .cont, ⟨_, _, _, k⟩ => exact k.elim
open PySem.Spec PyProof.Rows in
theorem fn_ofZ {gz : Bool} {CX : CXT} {P : Program} {w : World} {K : PySem.W.Frag} {mg : Str → Option Value} {base : Heap} {k : Nat} {f : Addr} {fd : FuncData} {name qual : Str} {params : Arguments} {body : List Stmt} {scope : Scope} {N ps : List Str} {sp : Sp}
    (F : FunD K name qual params body scope [] [] f fd) (S : FnScope N ps scope) (len : ∀ vs H Q E, sp vs H Q E → vs.length = ps.length)
    (bd : ∀ (cdv : Value) (A : Around) (outer : List Env) (s : Shared) (H : Hp) (vs : List V) (Q : VK) (E : XK), fd.code = cdv → (gz = true → (cxOf CX P w K mg base N qual scope f cdv A outer s H E).A.guards = some []) → Room k (A.deeper (envOfC qual scope s.heap.objs.size f cdv)) → sp vs H Q E →
      ∃ t, PSs (cxOf CX P w K mg base N qual scope f cdv A outer s H E) body t ∧ t { nx := fun _ H' => ∃ L, Frzs L H' (Q .non), rt := fun v H' => ∃ L, Frzs L H' (Q v) } (start N vs) H) :
    FnOkZ gz P w K mg base CX (k + 1) f fd ps sp where
  len := len
  run := fun A outer s H args us vs Q E hgd room e0 bind rv hsp => by
    obtain ⟨_, _, _, _, _, _, _, cdv, _, _, rfl, at_, code, _, _⟩ := F.ex
    have old : ∀ b o, base.get? b = some o → s.heap.get? b = some o := fun b o e => (e0.bs b o e).1
    have kin := e0.mod.kin.keeps old
    have known : ∀ y ∈ ps.zip us, scope.names.lookup y.1 = some .local ∨ (scope.names.lookup y.1 = some .cell ∧ ((cellsFrom (s.heap.objs.size + 1) scope.names []).lookup y.1).isSome = true) :=
      fun y hy => (S.par y.1 (List.of_mem_zip hy).1).imp id fun c => ⟨c, PySem.W.cellsFrom_some _ _ _ (.inl c)⟩
    obtain ⟨t, runs, start⟩ := bd cdv A outer s H vs Q E rfl hgd (room.deeper _) hsp
    apply codeAny_call_function room.depth (kin _ _ at_) rfl S.co S.gen rfl (PySem.W.codeRec_of kin code)
    apply bind
    apply wpAny_newFunctionEnv_cells S.kind known
    rintro env rfl s1 x
    refine ⟨(e0.mod.nolimit.keeps old).keeps x.toInCall.keep, codeAny_func (wpAny_mono (runs.run [] s1 _ H _ (inv_start S room.hd e0 (len _ _ _ _ hsp) rv x) start) (fun fl s' q => ?_) fun _ _ q => q)⟩
    obtain ⟨u, rfl | ⟨rfl, rfl⟩, ce⟩ := end_of q
    · exact ce
    · exact ce
def tabOf (S : Sg) : Nat → Option Fd := fun f => (S.fn f).map (·.2)
theorem rep_start {φ : List Addr} {H : Hp} {ds : List PV} {vs : List V} {n m : Nat} (q : RepVs G φ H ds vs) (hm : m = ds.length) (N : List Str) (hn : n = N.length) : RepL G φ H (ds.map some ++ List.replicate (n - m) none) (L2.start N vs) := by
  have l1 := q.length
  subst hm
  subst hn
  refine ⟨by simp [L2.start, l1], fun i d e => ?_⟩
  by_cases hi : i < ds.length
  · rw [List.getElem?_append_left (by simpa using hi), List.getElem?_map] at e
    cases z : ds[i]? with
    | none => rw [z] at e; cases e
    | some d' =>
      rw [z] at e
      cases e
      obtain ⟨v, e1, r⟩ := q.get z
      refine ⟨v, ?_, r⟩
      unfold L2.start
      rw [List.getElem?_append_left (by simp; omega), List.getElem?_map, e1]
      rfl
  · rw [List.getElem?_append_right (by simpa using hi), List.getElem?_replicate] at e
    split at e <;> cases e
theorem binds_of {K : PySem.W.Frag} {fdt : FuncData} {ps : List Str} (b : ∀ (s : Shared) (us : List Value), us.length = ps.length → BindsTo s fdt ⟨us, []⟩ (ps.zip us)) : Binds K fdt ps [] := fun s us _ hl => by
  rw [List.append_nil] at hl ⊢
  exact b s us hl
theorem runFs_len {fd : Fd} {C : Orc} {ds : List PV} {h : PHeap} (hl : ds.length ≠ fd.np) : runFs fd C ds h = .stuck := by
  unfold runFs runFn
  rw [if_neg hl]
  cases fd.fz <;> rfl
theorem all_sound {P : Program} {w : World} {K : PySem.W.Frag} {mg : Str → Option Value} {ct : Ct} {cs : List (Addr × Addr)} (T : TxtOk S G cs ct P w K mg) : ∀ (n : Nat) (f : Nat) (ps : List Str) (fd : Fd), S.fn f = some (ps, fd) →
    ∃ a fdt, (S.glo f = true → mg (S.nm f) = some (.ref a)) ∧ (∀ c, S.init c = some f → ∃ D, mg (S.nm c) = some (.ref D) ∧ Mk K D a) ∧ PySem.W.keepIn K (.ref a) = true ∧
      (∀ (s : Shared) (us : List Value), us.length = ps.length → BindsTo s fdt ⟨us, []⟩ (ps.zip us)) ∧ ∀ base : Heap, (∀ p ∈ cs, LamX.TabB base mg p.1 p.2) → FnOkZ (S.rp f) P w K mg base (L2.CX P w) (4 * n) a fdt ps (spF G (callN ct (tabOf S) n f))
  | 0, f, ps, fd, hf => by
    obtain ⟨N, st, D⟩ := T.fns f ps fd hf
    obtain ⟨a, fdt, name, qual, e1, e2, F, b, _⟩ := D.nm
    have no : ∀ {vs H Q E}, ¬ spF G (callN ct (tabOf S) 0 f) vs H Q E := fun ⟨φ, h0, ds, rh, rv, p⟩ => p
    exact ⟨a, fdt, e1, e2, F.kp, b, fun base _ => ⟨fun vs H Q E q => (no q).elim, fun A outer s H args us vs Q E hgd hr he hb hv hs => (no hs).elim⟩⟩
  | n + 1, f, ps, fd, hf => by
    obtain ⟨N, st, D⟩ := T.fns f ps fd hf
    obtain ⟨a, fdt, name, qual, e1, e2, F, b, lm⟩ := D.nm
    refine ⟨a, fdt, e1, e2, F.kp, b, fun base TB => ?_⟩
    have ht : tabOf S f = some fd := by unfold tabOf; rw [hf]; rfl
    refine fn_ofZ (CX := L2.CX P w) (k := 4 * n + 3) F D.sc (fun vs H Q E q => ?_) (fun cdv A outer s H vs Q E hcd hgd hr q => ?_)
    · refine spF_len (fun ds h hne => ?_) q
      simp only [callN, ht]
      exact runFs_len (by rw [D.np]; exact hne)
    · have ih := all_sound T n
      have g : Glob (S.at_ f) G ⟨callN ct (tabOf S) n, ct⟩ (4 * n) (cxOf (L2.CX P w) P w K mg base N qual (defScope st) a cdv A outer s H E) :=
        { K := T.hK, mg := T.hmg, nm := T.nm, P := T.hP, w := T.hw, sl := T.sl, slo := T.slo, fdl := T.fdl, nd := D.sc.nd, calm := rfl, room := hr.mono (by omega), gd := hgd, kind := D.sc.kind,
          fns := fun f' ps' fd' hf' hg => (let ⟨a, fdt, e1, _, e2, e3, e4⟩ := ih f' ps' fd' hf'; ⟨a, fdt, e1 hg, e2, binds_of e3, e4 base TB⟩),
          mks := fun c f' ps' fd' hf' hc => (let ⟨a, fdt, _, e1, e2, e3, e4⟩ := ih f' ps' fd' hf'; let ⟨D, d1, d2⟩ := e1 c hc; ⟨D, a, fdt, d1, d2, binds_of e3, e4 base TB⟩),
          scl := T.scl, sls := T.sls, pcl := T.pcl, inj := T.inj, inn := T.inn, cst := T.cst, blt := T.blt, exc := T.exc, exm := T.exm, met := T.met, lam := fun z => ⟨hr, by
            obtain ⟨c, P, l1, l2, l3, l4⟩ := lm z
            refine ⟨c, P, ?_, TB _ l2, ?_, ?_⟩
            · exact hcd.symm.trans l1
            · exact l3
            · exact l4⟩ }
      refine ⟨_, soundSs fd.body g rfl (Scp.self fun _ => rfl) (takes_of rfl rfl rfl rfl) (passes_of rfl) D.chk, ?_⟩
      obtain ⟨φ, h, ds, rh, rv, p⟩ := q
      simp only [callN, ht] at p
      have p : Post G φ H (runFn fd ⟨callN ct (tabOf S) n, ct⟩ ds h) (fun v H' => ∃ L, Frzs L H' (Q v)) E := by
        unfold runFs at p
        split at p
        · exact seal_post rh p
        · exact Post.mono p fun v H' q => ⟨[], q⟩
      unfold runFn at p
      split at p
      · rename_i hl
        refine ⟨φ, _, h, rh, rep_start rv hl.symm N D.n, ?_⟩
        cases z : exSs ⟨callN ct (tabOf S) n, ct⟩ fd.body (ds.map some ++ List.replicate (fd.n - fd.np) none) h with
        | nx l1 h1 => rw [z] at p; exact fun φ' H' σ' x rh' rl' => p φ' H' _ x rh' .non
        | rt d h1 => rw [z] at p; exact p
        | bk l1 h1 => rw [z] at p; exact p.elim
        | ct l1 h1 => rw [z] at p; exact p.elim
        | exc c fs l1 h1 => rw [z] at p; exact fun φ' H' σ' cls dd x rh' rl' rx => p φ' H' cls dd x rh' rx
        | stuck => rw [z] at p; exact p.elim
      · exact p.elim
/-- the law: the script goes in, True comes out -/
theorem law_post {F : List PV → PHeap → R PV} {K : PySem.W.Frag} {H : Hp} {a : Addr} {ns : List Int} (hK : G.K = K) (hT : ∀ p ∈ G.T, TabZ [] H p.1 p.2) (hS : FzK K H a (ns.map V.int)) (h : ∃ h', F [.scr ns] [] = .ok (.bl true) h') :
    spF G F [.ref a] H (fun v _ => v = .bl true) (fun _ _ _ => False) := by
  obtain ⟨h', e⟩ := h
  refine ⟨[], [], [.scr ns], ⟨hT, rfl, List.nodup_nil, fun i o a h1 => by simp at h1⟩, .cons (.scr (hK ▸ hS)) .nil, ?_⟩
  rw [e]
  intro φ' H' v x rh rv
  cases rv
  rfl
end
end Zed
end
section
set_option Elab.async false
set_option linter.all false
set_option maxRecDepth 100000
set_option maxHeartbeats 1000000
/-! ZedG: from the head to the law's call; the law's def may want to know that no repr is under way -/
namespace Zed
open PySem PySem.Spec PyProof.Rows L2
def tabO : Obj := { cls := .none, data := .fields #[] }
/-- what is tracked at first: the script, unless it is written; the tables -/
def H0 (K : PySem.W.Frag) (a : Addr) (ob : Obj) (xs : List V) (T : List Addr) : Hp := fun b => if b ∈ T then some (.tbl #[]) else if (K.lookup a).isNone = true ∧ b = a then some (.frz ob (.lst xs)) else none
section
variable {K : PySem.W.Frag} {a b : Addr} {ob o : Obj} {xs : List V} {T : List Addr} {u : HO} {h : Heap}
theorem h0_tab (hb : b ∈ T) : H0 K a ob xs T b = some (.tbl #[]) := if_pos hb
theorem h0_cases (e : H0 K a ob xs T b = some u) : (b ∈ T ∧ u = .tbl #[]) ∨ (K.lookup a = none ∧ b = a ∧ u = .frz ob (.lst xs)) := by
  unfold H0 at e
  split at e
  · rename_i z; cases e; exact .inl ⟨z, rfl⟩
  · split at e
    · rename_i z; cases e; exact .inr ⟨by simpa using z.1, z.2, rfl⟩
    · cases e
/-- where something else stands, nothing is tracked -/
theorem h0_none (isT : ∀ p ∈ T, h.get? p = some tabO) (isA : h.get? a = some ob) (e : h.get? b = some o) (n1 : o ≠ tabO) (n2 : o ≠ ob) : H0 K a ob xs T b = none := by
  cases z : H0 K a ob xs T b with
  | none => rfl
  | some u =>
    rcases h0_cases z with ⟨hb, _⟩ | ⟨_, rfl, _⟩
    · rw [isT b hb] at e; exact absurd (Option.some.inj e).symm n1
    · rw [isA] at e; exact absurd (Option.some.inj e).symm n2
end
theorem law_callZ {gz : Bool} {P : Program} {w : World} {K : PySem.W.Frag} {mg mb : Str → Option Value} {k : Nat} {fa a : Addr} {cs : List (Addr × Addr)} {fd : FuncData} {x : Str} {sp : Sp} {s : Shared} {vs : List Value} {ns : List Int}
    (KX : K.In s.heap) (glob : s.heap.Ns mainGlobals mg) (bns : s.heap.Ns builtinsNs mb) (boot : ∀ x : Str, x ≠ "__name__" → mb x = bootBuiltins x) (lim : s.heap.NoLimit) (gens : s.gens = #[])
    (isT : ∀ p ∈ cs, s.heap.get? p.2 = some tabO) (nT : ∀ p ∈ cs, K.lookup p.2 = none) (hd : ∀ p ∈ cs, PySem.W.codeHdIn K p.1 p.2 = true)
    (bm : ∃ (bm : Addr) (ob : Obj), mg "__builtins__" = some (.ref bm) ∧ bm ≠ builtinsNs ∧ s.heap.get? bm = some ob ∧ ob.cls = .type "module" ∧ ob.dict = some builtinsNs ∧ ob.data = .plain)
    (isA : s.heap.get? a = some { cls := .type "list", data := .seq vs.toArray }) (hints : IntsAre vs ns) (len : ns.length ≤ sizeLine) (room : Room k callerA)
    (F : ∀ base : Heap, (∀ p ∈ cs, LamX.TabB base mg p.1 p.2) → FnOkZ gz P w K mg base (L2.CX P w) k fa fd [x] sp) (bind : ∀ (s : Shared) (u : Value), BindsTo s fd ⟨[u], []⟩ [(x, u)])
    (want : ∀ H : Hp, (∀ p ∈ cs, H p.2 = some (.tbl #[])) → FzK K H a (ns.map V.int) → sp [.ref a] H (fun v _ => v = .bl true) fun _ _ _ => False) :
    codeAny (model P w) callerA (.call (.ref fa) ⟨[.ref a], []⟩) (fun r s' => r = .ok (.ret (.bool true)) ∧ OldK s.heap s'.heap ∧ s'.os = s.os ∧ AllBare s'.gens) s := by
  let ob : Obj := { cls := .type "list", data := .seq vs.toArray }
  let T : List Addr := cs.map (·.2)
  let H : Hp := H0 K a ob (ns.map V.int) T
  have vals := vals_ints hints
  have tT : ∀ p ∈ T, s.heap.get? p = some tabO := fun p hp => by
    obtain ⟨q, hq, e⟩ := List.mem_map.mp hp
    rw [← e]; exact isT q hq
  have free : ∀ {b : Addr} {o : Obj}, s.heap.get? b = some o → o.data ≠ tabO.data → o.data ≠ ob.data → H b = none := fun e n1 n2 => h0_none tT isA e (fun z => n1 (by rw [z])) fun z => n2 (by rw [z])
  have stays : ∀ {b : Addr} {o : Obj}, s.heap.get? b = some o → H b = none → (hidT s.heap H).get? b = some o := fun e n => hidT_get e n
  have spaces : ∀ {b : Addr} {m : Str → Option Value}, s.heap.Ns b m → (hidT s.heap H).Ns b m := fun ⟨o, es, ep, e, d, r⟩ =>
    ⟨o, es, ep, stays e (free e (fun z => by rw [d] at z; cases z) fun z => by rw [d] at z; cases z), d, r⟩
  have kin : K.In (hidT s.heap H) := fun b o e => stays (KX b o e) <| by
    cases z : H b with
    | none => rfl
    | some u =>
      exfalso
      rcases h0_cases z with ⟨hb, _⟩ | ⟨na, rfl, _⟩
      · obtain ⟨q, hq, e2⟩ := List.mem_map.mp hb
        rw [← e2, nT q hq] at e; cases e
      · rw [na] at e; cases e
  have modu : L2.Mod K mg (hidT s.heap H) := ⟨kin, spaces glob, ⟨mb, spaces bns, boot⟩, let ⟨mc, l1, l2⟩ := lim; ⟨mc, spaces l1, l2⟩⟩
  have tabs : ∀ p ∈ cs, LamX.TabB (hidT s.heap H) mg p.1 p.2 := fun p hp => by
    obtain ⟨m, om, b1, b2, b3, b4, b5, b6⟩ := bm
    obtain ⟨og, es, ep, g1, g2, _⟩ := glob
    refine ⟨PySem.W.codeHd_of_K kin (hd p hp), ⟨m, om, b1, b2, fun z => ?_, fun z => ?_, stays b3 (free b3 (fun z => ?_) fun z => ?_), b4, b5, b6⟩, fun z => ?_⟩
    · rw [z, g1] at b3; cases b3; rw [g2] at b6; cases b6
    · rw [z, isT p hp] at b3; cases b3; cases b6
    · rw [b6] at z; cases z
    · rw [b6] at z; cases z
    · rw [z, isT p hp] at g1; cases g1; cases g2
  have holds : HOk P w H s.heap := fun b u e => by
    rcases h0_cases e with ⟨hb, rfl⟩ | ⟨_, rfl, rfl⟩
    · exact tT b hb
    · exact ⟨isA, by simpa using len, vs, _, vals, isA⟩
  have scr : FzK K H a (ns.map V.int) := by
    cases z : K.lookup a with
    | some o =>
      have e := KX a o z
      rw [isA] at e
      cases e
      exact .inr ⟨_, vs.toArray, _, z, rfl, rfl, rfl, by have := vals.length; simp at this; simp; omega, by simpa using vals⟩
    | none =>
      refine .inl ⟨ob, ?_⟩
      have na : a ∉ T := fun hm => by
        have := tT a hm
        rw [isA] at this; cases this
      show (if a ∈ T then _ else _) = _
      rw [if_neg na, if_pos ⟨by rw [z]; rfl, rfl⟩]
  have e0 : Env0 P w K mg (hidT s.heap H) callerA [] s H := ⟨rfl, modu, fun b o e => of_hidT e, Nat.le_of_eq (hidT_size _ _), trivial, (fun b hb => nomatch hb), holds, .of_eq gens⟩
  refine codeAny_mono ((F _ tabs).run callerA [] s H ⟨[.ref a], []⟩ [.ref a] [.ref a] _ _ (fun _ => rfl) room e0 (bind s (.ref a)) (.cons rfl .nil) (want H (fun p hp => h0_tab (List.mem_map.mpr ⟨p, hp, rfl⟩)) scr)) fun r s' end_ => ?_
  match r, end_ with
  | .error e, z => exact (by obtain ⟨_, _, _, _, _, _, _, _, _, _, _, _, q⟩ := z; exact q.elim)
  | .ok (.ret u), ⟨v, H', os, bare, un, ok', rel, q⟩ =>
    have q : v = .bl true := q
    subst q
    obtain rfl : u = Value.bool true := rel
    have same : ∀ b o, b ∉ T → s.heap.get? b = some o → s'.heap.get? b = some o := fun b o nb e => by
      cases z : H b with
      | none => exact un.keep b o e z (fun hm => nomatch hm) (fun hm => nomatch hm)
      | some t =>
        rcases h0_cases z with ⟨hb, _⟩ | ⟨_, rfl, rfl⟩
        · exact absurd hb nb
        · obtain ⟨k1, _⟩ := holds _ _ z
          obtain ⟨k2, _⟩ := ok' _ _ (un.frzs _ _ _ z)
          rw [e] at k1; cases k1; exact k2
    have grew : ∀ b, b ∈ T → ∃ more : Array Value, s'.heap.get? b = some { cls := .none, data := .fields more } := fun b hb => by
      obtain ⟨more, z⟩ := un.tbls b #[] (h0_tab hb)
      exact ⟨_, ok' b _ z⟩
    refine ⟨rfl, ⟨fun b o e => ?_, fun b o e => ?_⟩, os, bare⟩
    · by_cases hb : b ∈ T
      · obtain ⟨p, hp, rfl⟩ := List.mem_map.mp hb
        obtain ⟨more, e2⟩ := grew _ hb
        rw [isT p hp] at e
        cases e
        have code := PySem.W.codeHd_of_K KX (hd p hp)
        exact .inr (.inl ⟨(code.tab (isT p hp)).isCodeTable, rfl, #[], more, rfl, by rw [Array.empty_append]; exact e2⟩)
      · exact .inl (same b o hb e)
    · by_cases hb : b ∈ T
      · obtain ⟨more, e2⟩ := grew b hb
        exact ⟨_, e2⟩
      · exact ⟨o, same b o hb e⟩
end Zed
end
section
set_option Elab.async false
set_option linter.all false
set_option maxRecDepth 100000
set_option maxHeartbeats 4000000
namespace Zed
open PySem L2
/-! ### a law's table -/
/-- a def: its number, where it stands (a module's name; a class and its method), its name, qualified name, parameters, body, slots, text -/
structure Row where
  id : Nat
  at_ : Str × Option Str
  name : Str
  qual : Str
  ps : List Str
  fd : Fd
  N : List Str
  st : Stmt
/-- a class: its number, name, __init__'s number; with slots: the attributes' places; else the plain attributes -/
structure CRow where
  id : Nat
  name : Str
  init : Option Nat
  isSl : Bool
  slots : List (Nat × Nat)
  flds : List Nat
/-- a def that calls a lambda and tells how it ended: its number, parameter, slots, text, what it tells -/
structure MRow where
  id : Nat
  a : Str
  N : List Str
  st : Stmt
  hs : List (Nat × Str)
  last : Str
/-- a law's text -/
structure Tx where
  nms : List (Nat × Str)
  rows : List Row
  crs : List CRow
  cst : List (Str × PV)
  blts : List Str
  /-- own errors; true: made with a text -/
  errs : List (Nat × Bool)
  exms : List (Nat × Nat × Bool)
  mets : List MRow
  rps : List Nat
  lams : List Nat
def Tx.nm (t : Tx) (k : Nat) : Str := (t.nms.lookup k).getD ""
def sgOf (t : Tx) : Sg where
  nm := t.nm
  fn := fun k => (t.rows.find? (fun r => r.id == k)).map fun r => (r.ps, r.fd)
  glo := fun k => match t.rows.find? (fun r => r.id == k) with
    | some r => r.at_.2.isNone
    | none => false
  init := fun c => match t.crs.find? (fun r => r.id == c) with
    | some r => r.init
    | none => none
  cst := t.cst
  blts := t.blts
  rp := t.rps.contains
  exc := fun c => t.errs.contains (c, true)
  met := fun k => (t.mets.find? (fun r => r.id == k)).isSome
  lam := t.lams.contains
  gdH := false
  lamH := false
def ctOf (t : Tx) : Ct where
  isSl := fun c => match t.crs.find? (fun r => r.id == c) with
    | some r => r.isSl
    | none => false
  slot := fun c f => match t.crs.find? (fun r => r.id == c) with
    | some r => if r.isSl then r.slots.lookup f else none
    | none => none
  fld := fun c f => match t.crs.find? (fun r => r.id == c) with
    | some r => r.flds.contains f
    | none => false
  met := fun k => (t.mets.find? (fun r => r.id == k)).map fun r => (r.hs, r.last)
  exm := fun c d => (t.exms.find? (fun p => p.1 == c && p.2.1 == d)).map fun p => p.2.2
def nodupB : List Str → Bool
  | [] => true
  | x :: r => !r.contains x && nodupB r
theorem nodupB_ok : ∀ {l : List Str}, nodupB l = true → l.Nodup
  | [], _ => List.nodup_nil
  | x :: r, h => by
    simp only [nodupB, Bool.and_eq_true, Bool.not_eq_true'] at h
    have nx : x ∉ r := fun q => by
      have z : r.contains x = true := by simpa using q
      rw [z] at h
      exact Bool.noConfusion h.1
    exact List.nodup_cons.mpr ⟨nx, nodupB_ok h.2⟩
def nodupN : List Nat → Bool
  | [] => true
  | x :: r => !r.contains x && nodupN r
theorem slots_inj : ∀ {l : List (Nat × Nat)}, nodupN (l.map (·.2)) = true → ∀ {f g i : Nat}, l.lookup f = some i → l.lookup g = some i → f = g
  | [], _, f, g, i, h1, _ => by cases h1
  | (k, j) :: r, h, f, g, i, h1, h2 => by
    simp only [List.map_cons, nodupN, Bool.and_eq_true, Bool.not_eq_true'] at h
    have mem : ∀ {x : Nat}, r.lookup x = some j → False := fun {x} hx => by
      have : j ∈ r.map (·.2) := by
        clear h h1 h2
        induction r with
        | nil => cases hx
        | cons p t ih =>
          rw [List.lookup_cons] at hx
          cases z : x == p.1 with
          | true => rw [z] at hx; cases hx; exact List.mem_cons_self
          | false => rw [z] at hx; exact List.mem_cons_of_mem _ (ih hx)
      have z : (r.map (·.2)).contains j = true := by simpa using this
      rw [z] at h; cases h.1
    rw [List.lookup_cons] at h1 h2
    cases z1 : f == k with
    | true =>
      rw [z1] at h1
      cases h1
      cases z2 : g == k with
      | true => rw [beq_iff_eq.mp z1, beq_iff_eq.mp z2]
      | false => rw [z2] at h2; exact (mem h2).elim
    | false =>
      rw [z1] at h1
      cases z2 : g == k with
      | true => rw [z2] at h2; cases h2; exact (mem h1).elim
      | false => rw [z2] at h2; exact slots_inj h.2 h1 h2
theorem map_inj {F : Nat → Str} : ∀ {l : List Nat}, nodupB (l.map F) = true → ∀ {f g : Nat}, f ∈ l → g ∈ l → F f = F g → f = g
  | [], _, f, g, h1, _, _ => by cases h1
  | k :: r, h, f, g, h1, h2, e => by
    simp only [List.map_cons, nodupB, Bool.and_eq_true, Bool.not_eq_true'] at h
    have no : ∀ {x : Nat}, x ∈ r → F x = F k → False := fun {x} hx q => by
      have z : (r.map F).contains (F k) = true := by
        have : F k ∈ r.map F := List.mem_map.mpr ⟨x, hx, q⟩
        simpa using this
      rw [z] at h; cases h.1
    rcases List.mem_cons.mp h1 with a | a
    · rcases List.mem_cons.mp h2 with b | b
      · rw [a, b]
      · subst a; exact (no b e.symm).elim
    · rcases List.mem_cons.mp h2 with b | b
      · subst b; exact (no a e).elim
      · exact map_inj h.2 a b e
def scopeB (N ps : List Str) (sc : Scope) : Bool :=
  (sc.kind == .function) && !sc.isCoroutine && !sc.isGenerator && nodupB N && (N.take ps.length == ps) &&
  (ps.all fun x => sc.names.lookup x == some .local || sc.names.lookup x == some .cell) && sc.names.all fun y => y.2 != .free
theorem scopeB_ok {N ps : List Str} {sc : Scope} (h : scopeB N ps sc = true) : FnScope N ps sc := by
  simp only [scopeB, Bool.and_eq_true, beq_iff_eq, Bool.not_eq_true', List.all_eq_true, Bool.or_eq_true, bne_iff_ne] at h
  obtain ⟨⟨⟨⟨⟨⟨h1, h2⟩, h3⟩, h4⟩, h5⟩, h6⟩, h7⟩ := h
  exact ⟨h1, h2, h3, nodupB_ok h4, h5, h6, h7⟩
/-- a row's own look: a def of the module under its name; a method __init__ that its class names -/
def rowB (S : Sg) (crs : List CRow) (r : Row) : Bool := scopeB r.N r.ps (defScope r.st) && (r.fd.np == r.ps.length) && (r.fd.n == r.N.length) && chkSs (S.at_ r.id) r.N (defScope r.st) r.fd.body (defBody r.st) &&
  (match r.at_.2 with
    | none => (r.at_.1 == S.nm r.id) && crs.all fun c => c.init != some r.id
    | some m => crs.all fun c => c.init != some r.id || ((m == ("__init__" : Str)) && (r.at_.1 == c.name)))
def mrB (S : Sg) (r : MRow) : Bool := scopeB r.N [r.a] (defScope r.st) && metB S.nm (defScope r.st).names r.a r.hs r.last (defBody r.st)
def crB (S : Sg) (c : CRow) : Bool := (S.nm c.id == c.name) && nodupN (c.slots.map (·.2)) && nodupB (c.flds.map S.nm)
def BindOk (r : Row) : Prop := ∀ (kV doc pm : Value) (an : Option Addr) (cdv ct : Value) (us : List Value), us.length = r.ps.length → bindArgs (PySem.W.fnOf r.name r.qual (defArgs r.st) (defBody r.st) (defScope r.st) .none kV doc pm an cdv ct) ⟨us, []⟩ = pure (r.ps.zip us)
def BindsAll : List Row → Prop
  | [] => True
  | r :: rs => BindOk r ∧ BindsAll rs
theorem BindsAll.mem : ∀ {rs : List Row}, BindsAll rs → ∀ {r : Row}, r ∈ rs → BindOk r
  | _ :: _, ⟨a, _⟩, _, .head _ => a
  | _ :: _, ⟨_, b⟩, _, .tail _ h => BindsAll.mem b h
/-! ### constants of the module -/
mutual
def relP (K : PySem.W.Frag) : PV → Value → Bool
  | .non, .none => true
  | .bl b, .bool c => b == c
  | .int i, .int j _ => i == j
  | .str x, .str y _ => x == y
  | .tup ds, .ref a => match K.lookup a with
    | some o => (match o.cls, o.data with
      | .type t, .seq its _ => (t == "tuple") && decide (its.size ≤ sizeLine) && relPs K ds its.toList
      | _, _ => false)
    | none => false
  | _, _ => false
def relPs (K : PySem.W.Frag) : List PV → List Value → Bool
  | [], [] => true
  | d :: ds, u :: us => relP K d u && relPs K ds us
  | _, _ => false
end
mutual
theorem relP_ok {G : Gc} : ∀ (d : PV) (u : Value), relP G.K d u = true → ∃ v, RelV v u ∧ ∀ φ H, RepV G φ H d v
  | .non, u, h => by cases u <;> simp [relP] at h; exact ⟨.non, rfl, fun _ _ => .non⟩
  | .bl b, u, h => by cases u <;> simp [relP] at h; subst h; exact ⟨.bl b, rfl, fun _ _ => .bl b⟩
  | .int b, u, h => by cases u <;> simp [relP] at h; subst h; exact ⟨.int b, ⟨_, rfl⟩, fun _ _ => .int b⟩
  | .str b, u, h => by cases u <;> simp [relP] at h; subst h; exact ⟨.str b, ⟨_, rfl⟩, fun _ _ => .str b⟩
  | .fz _, u, h => by simp [relP] at h
  | .scr _, u, h => by simp [relP] at h
  | .ref _, u, h => by simp [relP] at h
  | .ty _, u, h => by simp [relP] at h
  | .gl _, u, h => by simp [relP] at h
  | .tup ds, u, h => by
    cases u with
    | ref a =>
      simp only [relP] at h
      split at h
      · rename_i o ho
        split at h
        · rename_i t its n e1 e2
          simp only [Bool.and_eq_true, beq_iff_eq, decide_eq_true_eq] at h
          obtain ⟨⟨rfl, h2⟩, h3⟩ := h
          obtain ⟨vs, r1, r2⟩ := relPs_ok ds its.toList h3
          exact ⟨.ref a, rfl, fun φ H => .tup (.inr ⟨o, its, n, ho, e1, e2, h2, r1⟩) (r2 φ H)⟩
        · cases h
      · cases h
    | _ => simp [relP] at h
theorem relPs_ok {G : Gc} : ∀ (ds : List PV) (us : List Value), relPs G.K ds us = true → ∃ vs, Vals vs us ∧ ∀ φ H, RepVs G φ H ds vs
  | [], [], _ => ⟨[], .nil, fun _ _ => .nil⟩
  | [], _ :: _, h => by simp [relPs] at h
  | _ :: _, [], h => by simp [relPs] at h
  | d :: ds, u :: us, h => by
    simp only [relPs, Bool.and_eq_true] at h
    obtain ⟨v, a1, a2⟩ := relP_ok d u h.1
    obtain ⟨vs, b1, b2⟩ := relPs_ok ds us h.2
    exact ⟨v :: vs, .cons a1 b1, fun φ H => .cons (a2 φ H) (b2 φ H)⟩
end
def cstB (K : PySem.W.Frag) (e : Str × PV) : Bool := match PySem.W.nsIn K mainGlobals e.1 with
  | some (some u) => relP K e.2 u
  | _ => false
/-! ### the head: one look -/
def faOf (t : Tx) : List He.Fa := (t.rows.filter fun r => r.at_.2.isNone).map (fun r => He.Fa.glo r.at_.1) ++ t.crs.map (fun c => He.Fa.glo c.name) ++ (t.crs.filter fun c => c.init.isSome).map (fun c => He.Fa.mkr c.name) ++ t.blts.map He.Fa.free ++
  t.errs.map (fun e => He.Fa.glo (t.nm e.1)) ++ t.mets.map fun m => He.Fa.glo (t.nm m.id)
def ddOf (r : Row) : He.DefD := ⟨r.at_, r.name, r.qual, defArgs r.st, defBody r.st, defScope r.st, [], []⟩
def dmOf (t : Tx) (m : MRow) : He.DefD := ⟨(t.nm m.id, none), t.nm m.id, t.nm m.id, defArgs m.st, defBody m.st, defScope m.st, [], []⟩
def fnOfR (t : Tx) : List He.DefD := t.rows.map ddOf ++ t.mets.map (dmOf t)
/-- the defs that make lambdas -/
def lmOf (t : Tx) : List Row := t.rows.filter fun r => t.lams.contains r.id
def tfOf (t : Tx) : List He.Defn := (lmOf t).map (·.at_)
/-- a class in the written part -/
def slB (K : PySem.W.Frag) (D : Addr) (f : Str) (i : Nat) : Bool :=
  He.eqO (PySem.W.findIn K (.ref D) f) (some (some (.ref (He.ma K D f)))) && He.eqO (PySem.W.specialIn K (.ref (He.ma K D f)) "__get__") (some (some (.builtin "member_descriptor.__get__"))) &&
  decide (PySem.W.takesIn K (.ref (He.ma K D f)) = some true) && decide (PySem.W.typeIn K (.ref (He.ma K D f)) = some (.type "member_descriptor")) && decide (PySem.W.slotIn K (He.ma K D f) D = some i) && decide (i < 1000)
def clB (nm : Nat → Str) (K : PySem.W.Frag) (c : CRow) : Bool :=
  if c.isSl then
    PySem.W.plainGet K (He.ga K c.name) Str.empty && PySem.W.isClsIn K (He.ga K c.name) && PySem.W.plainOver K (He.ga K c.name) && He.eqO (PySem.W.findIn K (.ref (He.ga K c.name)) "__setattr__") (some (some (.builtin "object.__setattr__"))) &&
    c.slots.all fun p => slB K (He.ga K c.name) (nm p.1) p.2
  else (He.Fa.cls c.name).ok K && c.flds.all fun f => (He.Fa.noat c.name (nm f)).ok K
def errB (nm : Nat → Str) (K : PySem.W.Frag) (e : Nat × Bool) : Bool := !e.2 || (PySem.W.keepIn K (.ref (He.ga K (nm e.1))) && PySem.W.excIn K (He.ga K (nm e.1)) [.type "ValueError", .type "Exception", .type "BaseException", .type "object"] "ValueError.__new__" &&
  decide (PySem.W.subIn K (.ref (He.ga K (nm e.1))) (.type "BaseException") = some true) && decide (PySem.W.typeIn K (.ref (He.ga K (nm e.1))) = some (.type "type")))
def exmB (nm : Nat → Str) (K : PySem.W.Frag) (p : Nat × Nat × Bool) : Bool := decide (PySem.W.exmOne K (.ref (He.ga K (nm p.1))) (.ref (He.ga K (nm p.2.1))) = some p.2.2)
def exOf (t : Tx) (K : PySem.W.Frag) : Bool := t.cst.all (cstB K) && t.crs.all (clB t.nm K) && t.errs.all (errB t.nm K) && t.exms.all (exmB t.nm K) && nodupN ((lmOf t).map fun r => (He.cT K r.at_).2)
abbrev hookZ (n : Nat) (t : Tx) : PySem.W.Hook := He.hookX n (faOf t) (fnOfR t) [] (tfOf t) (exOf t)
/-- the errors that are asked about are known ones -/
def exB (t : Tx) : Bool := t.exms.all fun p => (t.errs.any fun e => e.1 == p.1) && (t.errs.any fun e => e.1 == p.2.1)
def mtB (t : Tx) : Bool := t.mets.all fun m => mrB (sgOf t) m && m.hs.all fun h => t.errs.any fun e => e.1 == h.1
section
variable {t : Tx} {K : PySem.W.Frag} {h : Heap} {mg : Str → Option Value}
theorem lookup_mem {cst : List (Str × PV)} {x : Str} {d : PV} (h : cst.lookup x = some d) : (x, d) ∈ cst := by
  induction cst with
  | nil => cases h
  | cons p r ih =>
    obtain ⟨y, e⟩ := p
    rw [List.lookup_cons] at h
    cases z : x == y with
    | true =>
      rw [z] at h
      cases h
      rw [beq_iff_eq.mp z]
      exact List.mem_cons_self
    | false => rw [z] at h; exact List.mem_cons_of_mem _ (ih h)
theorem lookup_memN {l : List (Nat × Nat)} {x d : Nat} (h : l.lookup x = some d) : (x, d) ∈ l := by
  induction l with
  | nil => cases h
  | cons p r ih =>
    obtain ⟨y, e⟩ := p
    rw [List.lookup_cons] at h
    cases z : x == y with
    | true =>
      rw [z] at h
      cases h
      rw [beq_iff_eq.mp z]
      exact List.mem_cons_self
    | false => rw [z] at h; exact List.mem_cons_of_mem _ (ih h)
def gcOf (t : Tx) (K : PySem.W.Frag) (mg : Str → Option Value) (P : Program) (w : World) : Gc := ⟨K, mg, t.nm, P, w, (ctOf t).isSl, (ctOf t).slot, (ctOf t).fld, (lmOf t).map fun r => ((He.cT K r.at_).2, lamQ r.qual)⟩
def csOf (t : Tx) (K : PySem.W.Frag) : List (Addr × Addr) := (tfOf t).map (He.cT K)
theorem fa_row {r : Row} (h : r ∈ t.rows) (e : r.at_.2 = none) : He.Fa.glo r.at_.1 ∈ faOf t :=
  List.mem_append_left _ (List.mem_append_left _ (List.mem_append_left _ (List.mem_append_left _ (List.mem_append_left _ (List.mem_map.mpr ⟨r, List.mem_filter.mpr ⟨h, by rw [e]; rfl⟩, rfl⟩)))))
theorem fa_cls {c : CRow} (h : c ∈ t.crs) : He.Fa.glo c.name ∈ faOf t :=
  List.mem_append_left _ (List.mem_append_left _ (List.mem_append_left _ (List.mem_append_left _ (List.mem_append_right _ (List.mem_map.mpr ⟨c, h, rfl⟩)))))
theorem fa_mkr {c : CRow} (h : c ∈ t.crs) (e : c.init.isSome = true) : He.Fa.mkr c.name ∈ faOf t :=
  List.mem_append_left _ (List.mem_append_left _ (List.mem_append_left _ (List.mem_append_right _ (List.mem_map.mpr ⟨c, List.mem_filter.mpr ⟨h, e⟩, rfl⟩))))
theorem fa_free {x : Str} (h : x ∈ t.blts) : He.Fa.free x ∈ faOf t :=
  List.mem_append_left _ (List.mem_append_left _ (List.mem_append_right _ (List.mem_map.mpr ⟨x, h, rfl⟩)))
theorem fa_err {e : Nat × Bool} (h : e ∈ t.errs) : He.Fa.glo (t.nm e.1) ∈ faOf t :=
  List.mem_append_left _ (List.mem_append_right _ (List.mem_map.mpr ⟨e, h, rfl⟩))
theorem fa_met {m : MRow} (h : m ∈ t.mets) : He.Fa.glo (t.nm m.id) ∈ faOf t := List.mem_append_right _ (List.mem_map.mpr ⟨m, h, rfl⟩)
def BindMk (t : Tx) (m : MRow) : Prop := ∀ (kV doc pm : Value) (an : Option Addr) (cdv ct : Value) (us : List Value), us.length = 1 → bindArgs (PySem.W.fnOf (t.nm m.id) (t.nm m.id) (defArgs m.st) (defBody m.st) (defScope m.st) .none kV doc pm an cdv ct) ⟨us, []⟩ = pure ([m.a].zip us)
def BindsM (t : Tx) : List MRow → Prop
  | [] => True
  | r :: rs => BindMk t r ∧ BindsM t rs
theorem BindsM.mem : ∀ {rs : List MRow}, BindsM t rs → ∀ {r : MRow}, r ∈ rs → BindMk t r
  | _ :: _, ⟨a, _⟩, _, .head _ => a
  | _ :: _, ⟨_, b⟩, _, .tail _ h => BindsM.mem b h
theorem nodupN_inj {F : Row → Addr} : ∀ {l : List Row}, nodupN (l.map F) = true → ∀ {r q : Row}, r ∈ l → q ∈ l → F r = F q → r = q
  | [], _, r, q, h1, _, _ => by cases h1
  | k :: l, h, r, q, h1, h2, e => by
    simp only [List.map_cons, nodupN, Bool.and_eq_true, Bool.not_eq_true'] at h
    have no : ∀ {x : Row}, x ∈ l → F x = F k → False := fun {x} hx z => by
      have z : (l.map F).contains (F k) = true := by
        have : F k ∈ l.map F := List.mem_map.mpr ⟨x, hx, z⟩
        simpa using this
      rw [z] at h; cases h.1
    rcases List.mem_cons.mp h1 with a | a
    · rcases List.mem_cons.mp h2 with b | b
      · rw [a, b]
      · subst a; exact (no b e.symm).elim
    · rcases List.mem_cons.mp h2 with b | b
      · subst b; exact (no a e).elim
      · exact nodupN_inj h.2 a b e
theorem txt_of (P : Program) (w : World) (X : K.In h) (Gn : h.Ns mainGlobals mg) (c : He.SaysX (faOf t) (fnOfR t) [] (tfOf t) (exOf t) w h K) (st : t.rows.all (rowB (sgOf t) t.crs) = true) (sc : t.crs.all (crB (sgOf t)) = true) (sx : exB t = true) (sm : mtB t = true) (b : BindsAll t.rows) (bm : BindsM t t.mets) :
    TxtOk (sgOf t) (gcOf t K mg P w) (csOf t K) (ctOf t) P w K mg := by
  have c1 : He.SaysD (faOf t) (fnOfR t) K := c.t.d
  have c23 := c.more
  simp only [exOf, Bool.and_eq_true] at c23
  obtain ⟨⟨⟨⟨c2, c3⟩, c4⟩, c5⟩, c6⟩ := c23
  have fact : ∀ f, f ∈ faOf t → f.ok K = true := fun f hf => by
    obtain ⟨i, hi, e⟩ := List.mem_iff_getElem.mp hf
    exact c1.fact i (by rw [List.getElem?_eq_getElem hi, e])
  -- a class, by its number
  have cls : ∀ (c : Nat) (cr : CRow), t.crs.find? (fun r => r.id == c) = some cr → cr ∈ t.crs ∧ (sgOf t).nm c = cr.name ∧ mg cr.name = some (.ref (He.ga K cr.name)) ∧ clB t.nm K cr = true ∧ crB (sgOf t) cr = true := fun c cr hc => by
    have hm := List.mem_of_find?_eq_some hc
    have hid := List.find?_some hc
    have hb := List.all_eq_true.mp sc cr hm
    have hb0 := hb
    simp only [crB, Bool.and_eq_true, beq_iff_eq] at hb0
    refine ⟨hm, ?_, He.glo_ok X Gn (fact (.glo cr.name) (fa_cls hm)), List.all_eq_true.mp c3 cr hm, hb⟩
    rw [← beq_iff_eq.mp hid]; exact hb0.1.1
  have dEq : ∀ {c : Nat} {cr : CRow} {D : Addr}, t.crs.find? (fun r => r.id == c) = some cr → mg ((sgOf t).nm c) = some (.ref D) → D = He.ga K cr.name := fun {c cr D} hc hD => by
    obtain ⟨_, e1, e2, _⟩ := cls c cr hc
    rw [e1, e2] at hD
    cases hD; rfl
  -- an error, by its number
  have err : ∀ (c : Nat), (t.errs.any fun e => e.1 == c) = true → mg (t.nm c) = some (.ref (He.ga K (t.nm c))) := fun c hc => by
    obtain ⟨e, he, z⟩ := List.any_eq_true.mp hc
    rw [← beq_iff_eq.mp z]
    exact He.glo_ok X Gn (fact _ (fa_err he))
  refine ⟨rfl, rfl, rfl, rfl, rfl, rfl, rfl, rfl, fun f ps fd hf => ?_, fun c D hc hD => ?_, fun c f i D hc hD => ?_, fun c f D hs hc hD => ?_, fun c f g i h1 h2 => ?_, fun c f g h1 h2 e => ?_, fun x d hx => ?_, fun x hx => ?_, fun c hc => ?_, fun c d v hv => ?_, fun m hm => ?_⟩
  · have hf0 : (t.rows.find? (fun r => r.id == f)).map (fun r => (r.ps, r.fd)) = some (ps, fd) := hf
    obtain ⟨r, hr, e⟩ := omap hf0
    cases e
    have hm := List.mem_of_find?_eq_some hr
    have hid0 := List.find?_some hr
    have hid : r.id = f := beq_iff_eq.mp hid0
    have hb := List.all_eq_true.mp st r hm
    simp only [rowB, Bool.and_eq_true, beq_iff_eq] at hb
    obtain ⟨⟨⟨⟨b1, b2⟩, b3⟩, b4⟩, b5⟩ := hb
    rw [hid] at b4
    refine ⟨r.N, r.st, ⟨?_, scopeB_ok b1, b2, b3, b4⟩⟩
    obtain ⟨fdt, F0⟩ := c1.defs (d := ddOf r) (List.mem_append_left _ (List.mem_map.mpr ⟨r, hm, rfl⟩))
    have F : FunD K r.name r.qual (defArgs r.st) (defBody r.st) (defScope r.st) [] [] (He.fAd K r.at_) fdt := F0
    refine ⟨_, fdt, r.name, r.qual, fun hg => ?_, fun c hc => ?_, F, FunD.bindsA F (b.mem hm), fun hl => ?_⟩
    · have hg0 : (match t.rows.find? (fun r => r.id == f) with | some r => r.at_.2.isNone | none => false) = true := hg
      rw [hr] at hg0
      have hg0 : r.at_.2.isNone = true := hg0
      have hn : r.at_.2 = none := by
        cases z : r.at_.2 with
        | none => rfl
        | some m => rw [z] at hg0; cases hg0
      rw [hn] at b5
      simp only [Bool.and_eq_true, beq_iff_eq] at b5
      have g := He.glo_ok X Gn (fact (.glo r.at_.1) (fa_row hm hn))
      have e0 : He.fAd K r.at_ = He.ga K r.at_.1 := by unfold He.fAd; rw [hn]
      show mg _ = some (.ref (He.fAd K r.at_))
      rw [e0, ← hid, ← b5.1]
      exact g
    · have hc0 : (match t.crs.find? (fun r => r.id == c) with | some r => r.init | none => none) = some f := hc
      cases hcr : t.crs.find? (fun r => r.id == c) with
      | none => rw [hcr] at hc0; cases hc0
      | some cr =>
        rw [hcr] at hc0
        obtain ⟨m1, m2, m3, m4, m5⟩ := cls c cr hcr
        have hin : cr.init = some r.id := by rw [hid]; exact hc0
        cases z : r.at_.2 with
        | none =>
          rw [z] at b5
          simp only [Bool.and_eq_true] at b5
          have := List.all_eq_true.mp b5.2 cr m1
          rw [hin] at this
          simp at this
        | some m =>
          rw [z] at b5
          simp only at b5
          have := List.all_eq_true.mp b5 cr m1
          rw [hin] at this
          simp only [bne_self_eq_false, Bool.false_or, Bool.and_eq_true, beq_iff_eq] at this
          have mk := He.mkr_ok (fact (.mkr cr.name) (fa_mkr m1 (by rw [hin]; rfl)))
          have e0 : He.fAd K r.at_ = He.ma K (He.ga K cr.name) "__init__" := by
            unfold He.fAd
            rw [z, this.2, this.1]
          refine ⟨He.ga K cr.name, by rw [m2]; exact m3, ?_⟩
          show Mk K _ (He.fAd K r.at_)
          rw [e0]
          exact mk
    · have hmem : r ∈ lmOf t := List.mem_filter.mpr ⟨hm, by rw [hid]; exact hl⟩
      obtain ⟨oc, od, dV, kV, doc, pm, an, cdv, ct, osl, e1, lk, hcd, _, _⟩ := F.ex
      have hc : ∃ cc, cdv = .ref cc := by
        cases cdv <;> first | exact ⟨_, rfl⟩ | (simp [PySem.W.codeIn] at hcd)
      obtain ⟨cc, rfl⟩ := hc
      have ec : fdt.code = .ref cc := by subst e1; rfl
      have eo : He.codeOf K r.at_ = cc := He.codeOf_eq lk ec
      have et : (He.cT K r.at_).1 = cc := eo
      refine ⟨cc, (He.cT K r.at_).2, ec, List.mem_map.mpr ⟨r.at_, List.mem_map.mpr ⟨r, hmem, rfl⟩, by rw [← et]⟩, List.mem_map.mpr ⟨r, hmem, rfl⟩, fun p hp e => ?_⟩
      obtain ⟨q, hq, rfl⟩ := List.mem_map.mp hp
      rw [nodupN_inj c6 hq hmem e]
  · have hc0 : (match t.crs.find? (fun r => r.id == c) with | some r => r.isSl | none => false) = true := hc
    cases hcr : t.crs.find? (fun r => r.id == c) with
    | none => rw [hcr] at hc0; cases hc0
    | some cr =>
      rw [hcr] at hc0
      obtain ⟨m1, m2, m3, m4, m5⟩ := cls c cr hcr
      have hc1 : cr.isSl = true := hc0
      unfold clB at m4
      rw [if_pos hc1] at m4
      simp only [Bool.and_eq_true] at m4
      rw [dEq hcr hD]
      exact ⟨m4.1.1.1.1, m4.1.1.1.2, m4.1.1.2, He.eqO_ok m4.1.2⟩
  · have hc0 : (match t.crs.find? (fun r => r.id == c) with | some r => if r.isSl then r.slots.lookup f else none | none => none) = some i := hc
    cases hcr : t.crs.find? (fun r => r.id == c) with
    | none => rw [hcr] at hc0; cases hc0
    | some cr =>
      rw [hcr] at hc0
      simp only at hc0
      split at hc0
      · rename_i sl
        obtain ⟨m1, m2, m3, m4, m5⟩ := cls c cr hcr
        unfold clB at m4
        rw [if_pos sl] at m4
        simp only [Bool.and_eq_true] at m4
        have s1 := List.all_eq_true.mp m4.2 (f, i) (lookup_memN hc0)
        simp only [slB, Bool.and_eq_true] at s1
        rw [dEq hcr hD]
        exact ⟨_, He.eqO_ok s1.1.1.1.1.1, He.eqO_ok s1.1.1.1.1.2, of_decide_eq_true s1.1.1.1.2, of_decide_eq_true s1.1.1.2, of_decide_eq_true s1.1.2, of_decide_eq_true s1.2⟩
      · cases hc0
  · have hc0 : (match t.crs.find? (fun r => r.id == c) with | some r => r.flds.contains f | none => false) = true := hc
    have hs0 : (match t.crs.find? (fun r => r.id == c) with | some r => r.isSl | none => false) = false := hs
    cases hcr : t.crs.find? (fun r => r.id == c) with
    | none => rw [hcr] at hc0; cases hc0
    | some cr =>
      rw [hcr] at hc0 hs0
      have hs1 : cr.isSl = false := hs0
      have hc1 : cr.flds.contains f = true := hc0
      obtain ⟨m1, m2, m3, m4, m5⟩ := cls c cr hcr
      unfold clB at m4
      rw [hs1, if_neg Bool.false_ne_true] at m4
      rw [Bool.and_eq_true] at m4
      rw [dEq hcr hD]
      exact ⟨He.cls_ok m4.1, He.noat_ok (List.all_eq_true.mp m4.2 f (by simpa using hc1))⟩
  · have h10 : (match t.crs.find? (fun r => r.id == c) with | some r => if r.isSl then r.slots.lookup f else none | none => none) = some i := h1
    have h20 : (match t.crs.find? (fun r => r.id == c) with | some r => if r.isSl then r.slots.lookup g else none | none => none) = some i := h2
    cases hcr : t.crs.find? (fun r => r.id == c) with
    | none => rw [hcr] at h10; cases h10
    | some cr =>
      rw [hcr] at h10 h20
      simp only at h10 h20
      split at h10
      · rename_i sl
        rw [if_pos sl] at h20
        obtain ⟨m1, m2, m3, m4, m5⟩ := cls c cr hcr
        simp only [crB, Bool.and_eq_true] at m5
        exact slots_inj m5.1.2 h10 h20
      · cases h10
  · have h10 : (match t.crs.find? (fun r => r.id == c) with | some r => r.flds.contains f | none => false) = true := h1
    have h20 : (match t.crs.find? (fun r => r.id == c) with | some r => r.flds.contains g | none => false) = true := h2
    cases hcr : t.crs.find? (fun r => r.id == c) with
    | none => rw [hcr] at h10; cases h10
    | some cr =>
      rw [hcr] at h10 h20
      have h11 : cr.flds.contains f = true := h10
      have h21 : cr.flds.contains g = true := h20
      obtain ⟨m1, m2, m3, m4, m5⟩ := cls c cr hcr
      simp only [crB, Bool.and_eq_true] at m5
      exact map_inj m5.2 (by simpa using h11) (by simpa using h21) e
  · have hc := List.all_eq_true.mp c2 _ (lookup_mem hx)
    unfold cstB at hc
    split at hc
    · rename_i u hu
      obtain ⟨v, r1, r2⟩ := relP_ok (G := gcOf t K mg P w) d u hc
      exact ⟨u, v, PySem.W.mg_of X Gn hu, r1, r2⟩
    · cases hc
  · have : x ∈ t.blts := by
      have z : t.blts.contains x = true := hx
      simpa using z
    exact He.free_ok X Gn (fact (.free x) (fa_free this))
  · have hc0 : t.errs.contains (c, true) = true := hc
    have hm : (c, true) ∈ t.errs := by simpa using hc0
    have k := List.all_eq_true.mp c4 _ hm
    simp only [errB, Bool.not_true, Bool.false_or, Bool.and_eq_true, decide_eq_true_eq] at k
    exact ⟨He.ga K (t.nm c), He.glo_ok X Gn (fact _ (fa_err hm)), k.1.1.1, k.1.1.2, k.1.2, k.2⟩
  · have hv0 : (t.exms.find? (fun p => p.1 == c && p.2.1 == d)).map (fun p => p.2.2) = some v := hv
    obtain ⟨p, hp, e⟩ := omap hv0
    have hm := List.mem_of_find?_eq_some hp
    have hq := List.find?_some hp
    simp only [Bool.and_eq_true, beq_iff_eq] at hq
    obtain ⟨rfl, rfl⟩ := hq
    have k := List.all_eq_true.mp c5 _ hm
    have kx := List.all_eq_true.mp sx _ hm
    simp only [Bool.and_eq_true] at kx
    simp only [exmB, decide_eq_true_eq] at k
    exact ⟨_, _, err _ kx.1, err _ kx.2, by rw [← e]; exact k⟩
  · have hm0 : (t.mets.find? (fun r => r.id == m)).isSome = true := hm
    obtain ⟨r, hr⟩ := Option.isSome_iff_exists.mp hm0
    have hmem := List.mem_of_find?_eq_some hr
    have hid0 := List.find?_some hr
    have hid : r.id = m := beq_iff_eq.mp hid0
    have k := List.all_eq_true.mp sm r hmem
    simp only [mrB, Bool.and_eq_true] at k
    obtain ⟨fdt, F0⟩ := c1.defs (d := dmOf t r) (List.mem_append_right _ (List.mem_map.mpr ⟨r, hmem, rfl⟩))
    have F : FunD K (t.nm r.id) (t.nm r.id) (defArgs r.st) (defBody r.st) (defScope r.st) [] [] (He.fAd K (t.nm r.id, none)) fdt := F0
    have e0 : He.fAd K (t.nm r.id, none) = He.ga K (t.nm r.id) := rfl
    rw [e0] at F
    refine ⟨r.hs, r.last, He.ga K (t.nm r.id), fdt, r.st, r.a, r.N, ?_, ?_, ?_, binds_of (ps := [r.a]) (FunD.bindsA F (bm.mem hmem)), scopeB_ok k.1.1, k.1.2, fun p hp => ⟨_, err _ (List.all_eq_true.mp k.2 p hp)⟩⟩
    · show (t.mets.find? (fun r => r.id == m)).map (fun r => (r.hs, r.last)) = _
      rw [hr]; rfl
    · show mg (t.nm m) = _
      rw [← hid]; exact He.glo_ok X Gn (fact _ (fa_met hmem))
    · show FunD K (t.nm m) (t.nm m) _ _ _ _ _ _ _
      rw [← hid]; exact F
end
/-- THE END: what is left of a law is plain -/
theorem law_walk {l : PySem.W.OpenLaw} {q : Program} {loose : List Str} {XP : (Str → Option Value) → Heap → Prop} {d : DefRec} {n : Nat} {t : Tx} {k f : Nat} {x : Str} {r : Row}
    (hn : l.most = some 63) (hdf : d.params.defaults = []) (hr : Room (4 * k) callerA) (hnm : d.name = t.nm f) (hf : t.rows.find? (fun r => r.id == f) = some r) (hg : r.at_.2 = none) (hx : r.ps = [x])
    (st : t.rows.all (rowB (sgOf t) t.crs) = true) (sc : t.crs.all (crB (sgOf t)) = true) (sx : exB t = true) (sm : mtB t = true) (b : BindsAll t.rows) (bm : BindsM t t.mets)
    (law : ∀ ns : List Int, ns.length ≤ 63 → ∃ h', callN (ctOf t) (tabOf (sgOf t)) k f [.scr ns] [] = .ok (.bl true) h') :
    PySem.W.WalkO q loose XP (hookZ n t).says l.row.toRowW d [] (fun f vs => PySem.call f vs) := by
  refine Att.attach_callB hn hdf fun w s₀ s₁ mg mb fa o pm cd doc a vs ns Gd Y ho hd hcd hmg hobj hints hlen hbits hg' => ?_
  obtain ⟨K, KX, c⟩ := Y
  have T := txt_of l.prog w KX Gd.T.g c st sc sx sm b bm
  have hfn : (sgOf t).fn f = some ([x], r.fd) := by
    show (t.rows.find? (fun r => r.id == f)).map (fun r => (r.ps, r.fd)) = _
    rw [hf, ← hx]; rfl
  have hgl : (sgOf t).glo f = true := by
    show (match t.rows.find? (fun r => r.id == f) with | some r => r.at_.2.isNone | none => false) = true
    rw [hf]
    show r.at_.2.isNone = true
    rw [hg]; rfl
  obtain ⟨a1, fdt, e1, _, e2, e3, e4⟩ := all_sound (P := l.prog) (w := w) T k f [x] r.fd hfn
  have e1 := e1 hgl
  have hmg2 : mg ((sgOf t).nm f) = some (.ref fa) := by rw [← hmg, hnm]; rfl
  rw [hmg2] at e1
  cases e1
  have ct : ∀ p ∈ csOf t K, ∃ q ∈ tfOf t, He.cT K q = p := fun p hp => List.mem_map.mp hp
  refine law_callZ KX Gd.T.g Gd.T.b Gd.T.builtins Gd.T.nolimit hg' (cs := csOf t K) (fun p hp => ?_) (fun p hp => ?_) (fun p hp => ?_) Gd.T.bmain hobj hints (Nat.le_trans hlen (by decide)) hr (fun base TB => e4 base TB) (fun s u => e3 s [u] rfl) fun H hT hS => ?_
  · obtain ⟨q, hq, rfl⟩ := ct p hp; exact c.empty q hq
  · obtain ⟨q, hq, rfl⟩ := ct p hp; exact c.out q hq
  · obtain ⟨q, hq, rfl⟩ := ct p hp; exact c.hd q hq
  · refine law_post rfl (fun p hp => ?_) hS (law ns hlen)
    obtain ⟨q, hq, rfl⟩ := List.mem_map.mp hp
    refine ⟨#[], hT _ (List.mem_map.mpr ⟨q.at_, List.mem_map.mpr ⟨q, hq, rfl⟩, rfl⟩), trivial, fun pos cv hc => ?_⟩
    simp [codeAmong] at hc
end Zed
end
section
set_option Elab.async false
set_option linter.all false
set_option maxRecDepth 100000
set_option exponentiation.threshold 10000
/-! ZedP: the plain law's tools: what an answer must be, by the interpreter's own clauses. -/
namespace Zed
open PySem L2
abbrev XP := PV → List (Nat × PV) → PHeap → Prop
/-- no error -/
abbrev NoX : XP := fun _ _ _ => False
def Okx {α : Type} (X : XP) (r : R α) (Q : α → PHeap → Prop) : Prop := match r with
  | .ok a h => Q a h
  | .exc c fs h => X c fs h
  | .stuck => False
abbrev Ok {α : Type} (r : R α) (Q : α → PHeap → Prop) : Prop := Okx NoX r Q
def OkP (o : Option (PV × PHeap)) (Q : PV → PHeap → Prop) : Prop := match o with
  | some (d, h) => Q d h
  | none => False
def OkO {α : Type} (o : Option α) (Q : α → Prop) : Prop := match o with
  | some a => Q a
  | none => False
/-- a statement goes on, or returns, or raises -/
def OkSx (X : XP) (r : RS) (N : Loc → PHeap → Prop) (T : PV → PHeap → Prop) : Prop := match r with
  | .nx l h => N l h
  | .rt d h => T d h
  | .exc c fs _ h => X c fs h
  | _ => False
abbrev OkS (r : RS) (N : Loc → PHeap → Prop) (T : PV → PHeap → Prop) : Prop := OkSx NoX r N T
section
variable {α β : Type} {C : Orc} {l : Loc} {h : PHeap} {Q : PV → PHeap → Prop} {N : Loc → PHeap → Prop} {T : PV → PHeap → Prop} {X : XP}
theorem Okx.mono {r : R α} {Q Q' : α → PHeap → Prop} (k : Okx X r Q) (i : ∀ a h, Q a h → Q' a h) : Okx X r Q' := by
  cases r with
  | ok a h => exact i a h k
  | exc => exact k
  | stuck => exact k
theorem Okx.imp {r : R α} {Q Q' : α → PHeap → Prop} {X' : XP} (k : Okx X r Q) (i : ∀ a h, Q a h → Q' a h) (j : ∀ c fs h, X c fs h → X' c fs h) : Okx X' r Q' := by
  cases r with
  | ok a h => exact i a h k
  | exc => exact j _ _ _ k
  | stuck => exact k
theorem Ok.mono {r : R α} {Q Q' : α → PHeap → Prop} (k : Ok r Q) (i : ∀ a h, Q a h → Q' a h) : Okx X r Q' := Okx.imp k i fun _ _ _ z => z.elim
theorem OkSx.mono {r : RS} {N N' : Loc → PHeap → Prop} {T T' : PV → PHeap → Prop} (k : OkSx X r N T) (i : ∀ l h, N l h → N' l h) (j : ∀ d h, T d h → T' d h) : OkSx X r N' T' := by
  cases r <;> first | exact i _ _ k | exact j _ _ k | exact k
theorem OkS.mono {r : RS} {N N' : Loc → PHeap → Prop} {T T' : PV → PHeap → Prop} (k : OkS r N T) (i : ∀ l h, N l h → N' l h) (j : ∀ d h, T d h → T' d h) : OkSx X r N' T' := by
  cases r <;> first | exact i _ _ k | exact j _ _ k | exact k | exact k.elim
theorem Ok.get {r : R α} {Q : α → PHeap → Prop} (k : Ok r Q) : ∃ a h, r = .ok a h ∧ Q a h := by
  cases r with
  | ok a h => exact ⟨a, h, rfl, k⟩
  | exc => exact k.elim
  | stuck => exact k.elim
theorem Okx.get {r : R α} {Q : α → PHeap → Prop} (k : Okx X r Q) : (∃ a h, r = .ok a h ∧ Q a h) ∨ ∃ c fs h, r = .exc c fs h ∧ X c fs h := by
  cases r with
  | ok a h => exact .inl ⟨a, h, rfl, k⟩
  | exc c fs h => exact .inr ⟨c, fs, h, rfl, k⟩
  | stuck => exact k.elim
theorem ok_ok {a : α} {Q : α → PHeap → Prop} : Okx X (.ok a h) Q ↔ Q a h := Iff.rfl
theorem ok_bind {m : R α} {k : α → PHeap → R β} {Q : β → PHeap → Prop} : Okx X (m.bind k) Q ↔ Okx X m fun a h => Okx X (k a h) Q := by
  cases m <;> exact Iff.rfl
theorem ok_lift {o : Option (PV × PHeap)} : Okx X (liftP o) Q ↔ OkP o Q := by
  cases o <;> exact Iff.rfl
theorem okS_to {m : R α} {k : α → PHeap → RS} : OkSx X (m.toS l k) N T ↔ Okx X m fun a h => OkSx X (k a h) N T := by
  cases m <;> exact Iff.rfl
theorem ok_truth {m : R PV} {Q : Bool → PHeap → Prop} : Okx X (truthR m) Q ↔ Okx X m fun d h => OkO (truthF h d) fun b => Q b h := by
  unfold truthR
  rw [ok_bind]
  cases m with
  | ok d h =>
    show Okx X (match truthF h d with | some b => _ | none => _) Q ↔ OkO (truthF h d) fun b => Q b h
    cases truthF h d <;> exact Iff.rfl
  | exc => exact Iff.rfl
  | stuck => exact Iff.rfl
/-! expressions -/
theorem w_loc {i : Nat} : Okx X (evE C (.loc i) l h) Q ↔ OkO (l[i]?.bind id) fun d => Q d h := by
  show Okx X (match l[i]? with | some (some d) => R.ok d h | _ => .stuck) Q ↔ _
  cases l[i]? with
  | none => exact Iff.rfl
  | some o => cases o <;> exact Iff.rfl
theorem w_con {d : PV} : Okx X (evE C (.con d) l h) Q ↔ Q d h := Iff.rfl
theorem w_bin {op : Bop} {a b : Ex} : Okx X (evE C (.bin op a b) l h) Q ↔ Okx X (evE C a l h) fun x h1 => Okx X (evE C b l h1) fun y h2 => OkP (bopF op [x, y] h2) Q := by
  show Okx X (ev2 _ _ _ _ _) _ ↔ _
  unfold ev2
  simp only [ok_bind, ok_lift]
theorem w_cmp {op : Cop} {a b : Ex} : Okx X (evE C (.cmp op a b) l h) Q ↔ Okx X (evE C a l h) fun x h1 => Okx X (evE C b l h1) fun y h2 => OkO (cmpB op h2 x y) fun b => Q (.bl b) h2 := by
  show Okx X (ev2 _ _ _ _ _) _ ↔ _
  unfold ev2
  simp only [ok_bind, ok_lift]
  refine iff_of_eq (congrArg _ (funext fun x => funext fun h1 => congrArg _ (funext fun y => funext fun h2 => ?_)))
  show OkP ((cmpB op h2 x y).map _) Q = _
  cases cmpB op h2 x y <;> rfl
theorem w_sub {a b : Ex} : Okx X (evE C (.sub a b) l h) Q ↔ Okx X (evE C a l h) fun x h1 => Okx X (evE C b l h1) fun y h2 => OkO (getF x y h2) fun d => Q d h2 := by
  show Okx X (ev2 _ _ _ _ _) _ ↔ _
  unfold ev2
  simp only [ok_bind, ok_lift]
  refine iff_of_eq (congrArg _ (funext fun x => funext fun h1 => congrArg _ (funext fun y => funext fun h2 => ?_)))
  show OkP ((getF x y h2).map _) Q = _
  cases getF x y h2 <;> rfl
theorem w_not {a : Ex} : Okx X (evE C (.not a) l h) Q ↔ Okx X (evE C a l h) fun x h1 => OkO (truthF h1 x) fun b => Q (.bl !b) h1 := by
  show Okx X ((truthR _).bind _) _ ↔ _
  rw [ok_bind, ok_truth]; exact Iff.rfl
theorem w_and {a b : Ex} : Okx X (evE C (.and a b) l h) Q ↔ Okx X (evE C a l h) fun x h1 => OkO (truthF h1 x) fun k => (k = true → Okx X (evE C b l h1) Q) ∧ (k = false → Q x h1) := by
  show Okx X (R.bind _ _) _ ↔ _
  rw [ok_bind]
  refine iff_of_eq (congrArg _ (funext fun x => funext fun h1 => propext ?_))
  cases truthF h1 x with
  | none => exact Iff.rfl
  | some k => cases k <;> simp [OkO, Okx]
theorem w_or {a b : Ex} : Okx X (evE C (.or a b) l h) Q ↔ Okx X (evE C a l h) fun x h1 => OkO (truthF h1 x) fun k => (k = true → Q x h1) ∧ (k = false → Okx X (evE C b l h1) Q) := by
  show Okx X (R.bind _ _) _ ↔ _
  rw [ok_bind]
  refine iff_of_eq (congrArg _ (funext fun x => funext fun h1 => propext ?_))
  cases truthF h1 x with
  | none => exact Iff.rfl
  | some k => cases k <;> simp [OkO, Okx]
theorem w_ite {c a b : Ex} : Okx X (evE C (.ite c a b) l h) Q ↔ Okx X (evE C c l h) fun x h1 => OkO (truthF h1 x) fun k => (k = true → Okx X (evE C a l h1) Q) ∧ (k = false → Okx X (evE C b l h1) Q) := by
  show Okx X (R.bind _ _) _ ↔ _
  rw [ok_bind, ok_truth]
  refine iff_of_eq (congrArg _ (funext fun x => funext fun h1 => propext ?_))
  cases truthF h1 x with
  | none => exact Iff.rfl
  | some k => cases k <;> simp [OkO]
theorem w_chn {op op' : Cop} {a b c : Ex} : Okx X (evE C (.chn op op' a b c) l h) Q ↔ Okx X (evE C a l h) fun x h1 => Okx X (evE C b l h1) fun y h2 => OkO (cmpB op h2 x y) fun k => (k = true → Okx X (evE C c l h2) fun z h3 => OkO (cmpB op' h3 y z) fun b => Q (.bl b) h3) ∧ (k = false → Q (.bl false) h2) := by
  show Okx X (R.bind _ _) _ ↔ _
  simp only [ok_bind, ok_lift]
  refine iff_of_eq (congrArg _ (funext fun x => funext fun h1 => congrArg _ (funext fun y => funext fun h2 => propext ?_)))
  show OkP ((cmpB op h2 x y).map _) _ ↔ _
  cases cmpB op h2 x y with
  | none => exact Iff.rfl
  | some k =>
    cases k with
    | false => simp [OkO, OkP, Okx]
    | true =>
      simp only [Option.map_some, OkP, OkO, ok_bind, ok_lift]
      refine ⟨fun q => ⟨fun _ => ?_, fun z => (nomatch z)⟩, fun q => ?_⟩
      · refine Okx.mono q fun z h3 => ?_
        show OkP ((cmpB op' h3 y z).map _) _ → _
        cases cmpB op' h3 y z <;> exact id
      · refine Okx.mono (q.1 trivial) fun z h3 => ?_
        show _ → OkP ((cmpB op' h3 y z).map _) _
        cases cmpB op' h3 y z <;> exact id
theorem w_tup {es : Exs} : Okx X (evE C (.tup es) l h) Q ↔ Okx X (evA C es l h) fun ds h1 => ds.length ≤ sizeLine ∧ Q (.tup ds) h1 := by
  show Okx X (R.bind _ _) _ ↔ _
  rw [ok_bind]
  refine iff_of_eq (congrArg _ (funext fun ds => funext fun h1 => propext ?_))
  by_cases z : ds.length ≤ sizeLine <;> simp [z, Okx]
theorem w_lst {es : Exs} : Okx X (evE C (.lst true es) l h) Q ↔ Okx X (evA C es l h) fun ds h1 => ds.length ≤ sizeLine ∧ Q (.fl ds) h1 := by
  show Okx X (R.bind _ _) _ ↔ _
  rw [ok_bind]
  refine iff_of_eq (congrArg _ (funext fun ds => funext fun h1 => propext ?_))
  by_cases z : ds.length ≤ sizeLine <;> simp [z, Okx, liftP, mkL]
theorem w_lsh {es : Exs} : Okx X (evE C (.lst false es) l h) Q ↔ Okx X (evA C es l h) fun ds h1 => ds.length ≤ sizeLine ∧ Q (.ref h1.length) (h1 ++ [.lst ds]) := by
  show Okx X (R.bind _ _) _ ↔ _
  rw [ok_bind]
  refine iff_of_eq (congrArg _ (funext fun ds => funext fun h1 => propext ?_))
  by_cases z : ds.length ≤ sizeLine <;> simp [z, Okx, liftP, newO, mkL]
theorem w_call {f : Nat} {es : Exs} : Okx X (evE C (.call f es) l h) Q ↔ Okx X (evA C es l h) fun ds h1 => Okx X (C.call f ds h1) Q := by
  show Okx X (R.bind _ _) _ ↔ _
  rw [ok_bind]
theorem w_blt {b : Bi} {es : Exs} : Okx X (evE C (.blt b es) l h) Q ↔ Okx X (evA C es l h) fun ds h1 => OkP (bltF b ds h1) Q := by
  show Okx X (R.bind _ _) _ ↔ _
  simp only [ok_bind, ok_lift]
theorem w_attr {o : Ex} {f : Nat} : Okx X (evE C (.attr o f) l h) Q ↔ Okx X (evE C o l h) fun x h1 => OkP (attrF C.ct f [x] h1) Q := by
  show Okx X (ev1 _ _ _ _) _ ↔ _
  unfold ev1
  simp only [ok_bind, ok_lift]
theorem w_dic0 : Okx X (evE C (.dic0 true) l h) Q ↔ Q (.fz (.dic [])) h := Iff.rfl
theorem w_dich : Okx X (evE C (.dic0 false) l h) Q ↔ Q (.ref h.length) (h ++ [.dic []]) := Iff.rfl
theorem w_meth {m : Mi} {o : Ex} {es : Exs} : Okx X (evE C (.meth m o es) l h) Q ↔ Okx X (evE C o l h) fun x h1 => rcvOk m x h1 = true ∧ Okx X (evA C es l h1) fun ds h2 => OkP (methF m (x :: ds) h2) Q := by
  show Okx X (R.bind _ _) _ ↔ _
  rw [ok_bind]
  refine iff_of_eq (congrArg _ (funext fun x => funext fun h1 => propext ?_))
  cases z : rcvOk m x h1 with
  | false => simp [Okx]
  | true => simp only [true_and, ok_bind, ok_lift]
theorem w_slc {o : Ex} {lo hi : Op} : Okx X (evE C (.slc o lo hi) l h) Q ↔ Okx X (evE C o l h) fun x h1 => Okx X (evOp C lo l h1) fun a h2 => Okx X (evOp C hi l h2) fun b h3 => OkP (slcF x a b h3) Q := by
  show Okx X (R.bind _ _) _ ↔ _
  simp only [ok_bind, ok_lift]
theorem w_ono {Q : Option Int → PHeap → Prop} : Okx X (evOp C .no l h) Q ↔ Q none h := Iff.rfl
theorem w_oyes {e : Ex} {Q : Option Int → PHeap → Prop} : Okx X (evOp C (.yes e) l h) Q ↔ Okx X (evE C e l h) fun d h1 => match d with
    | .int i => Q (some i) h1
    | _ => False := by
  show Okx X (optI (evE C e l h)) Q ↔ _
  cases evE C e l h with
  | ok d h1 => cases d <;> exact Iff.rfl
  | exc => exact Iff.rfl
  | stuck => exact Iff.rfl
theorem w_nil {Q : List PV → PHeap → Prop} : Okx X (evA C .nil l h) Q ↔ Q [] h := Iff.rfl
theorem w_cons {e : Ex} {es : Exs} {Q : List PV → PHeap → Prop} : Okx X (evA C (.cons e es) l h) Q ↔ Okx X (evE C e l h) fun x h1 => Okx X (evA C es l h1) fun xs h2 => Q (x :: xs) h2 := by
  show Okx X (evCons _ _ _ _) _ ↔ _
  unfold evCons
  simp only [ok_bind, ok_ok]
theorem w_star {e : Ex} {es : Exs} {Q : List PV → PHeap → Prop} : Okx X (evA C (.star e es) l h) Q ↔ Okx X (evE C e l h) fun x h1 => OkO (seqOf h1 x) fun ds => Okx X (evA C es l h1) fun xs h2 => Q (ds ++ xs) h2 := by
  show Okx X (R.bind _ _) _ ↔ _
  rw [ok_bind]
  refine iff_of_eq (congrArg _ (funext fun x => funext fun h1 => propext ?_))
  cases seqOf h1 x with
  | none => exact Iff.rfl
  | some ds => simp only [OkO, ok_bind, ok_ok]
/-! statements -/
theorem s_ex {e : Ex} : OkSx X (exS C (.ex e) l h) N T ↔ Okx X (evE C e l h) fun _ h1 => N l h1 := by
  show OkSx X (R.toS _ _ _) _ _ ↔ _
  rw [okS_to]; exact Iff.rfl
theorem s_asg {t : Tg} {e : Ex} : OkSx X (exS C (.asg t e) l h) N T ↔ Okx X (evE C e l h) fun d h1 => OkO (bindT t d l) fun l1 => N l1 h1 := by
  show OkSx X (R.toS _ _ _) _ _ ↔ _
  rw [okS_to]
  refine iff_of_eq (congrArg _ (funext fun d => funext fun h1 => propext ?_))
  cases bindT t d l <;> exact Iff.rfl
theorem s_put {o i e : Ex} : OkSx X (exS C (.put o i e) l h) N T ↔ Okx X (evE C e l h) fun v h1 => Okx X (evE C o l h1) fun x h2 => Okx X (evE C i l h2) fun y h3 => OkO (putF x y v h3) fun h4 => N l h4 := by
  show OkSx X (R.toS _ _ _) _ _ ↔ _
  simp only [okS_to]
  refine iff_of_eq (congrArg _ (funext fun v => funext fun h1 => congrArg _ (funext fun x => funext fun h2 => congrArg _ (funext fun y => funext fun h3 => propext ?_))))
  cases putF x y v h3 <;> exact Iff.rfl
theorem s_fld {o e : Ex} {f : Nat} : OkSx X (exS C (.fld o f e) l h) N T ↔ Okx X (evE C e l h) fun v h1 => Okx X (evE C o l h1) fun x h2 => OkO (fldF C.ct x f v h2) fun h4 => N l h4 := by
  show OkSx X (R.toS _ _ _) _ _ ↔ _
  simp only [okS_to]
  refine iff_of_eq (congrArg _ (funext fun v => funext fun h1 => congrArg _ (funext fun x => funext fun h2 => propext ?_)))
  cases fldF C.ct x f v h2 <;> exact Iff.rfl
theorem s_ret {e : Ex} : OkSx X (exS C (.ret e) l h) N T ↔ Okx X (evE C e l h) T := by
  show OkSx X (R.toS _ _ _) _ _ ↔ _
  rw [okS_to]; exact Iff.rfl
theorem s_ret0 : OkSx X (exS C .ret0 l h) N T ↔ T .non h := Iff.rfl
theorem s_iff {c : Ex} {a b : Sxs} : OkSx X (exS C (.iff c a b) l h) N T ↔ Okx X (evE C c l h) fun x h1 => OkO (truthF h1 x) fun k => (k = true → OkSx X (exSs C a l h1) N T) ∧ (k = false → OkSx X (exSs C b l h1) N T) := by
  show OkSx X (R.toS _ _ _) _ _ ↔ _
  rw [okS_to, ok_truth]
  refine iff_of_eq (congrArg _ (funext fun x => funext fun h1 => propext ?_))
  cases truthF h1 x with
  | none => exact Iff.rfl
  | some k => cases k <;> simp [OkO]
theorem s_rai {c : Nat} {m : Str} : OkSx X (exS C (.rai c m) l h) N T ↔ X (.gl c) [] h := Iff.rfl
theorem s_nil : OkSx X (exSs C .nil l h) N T ↔ N l h := Iff.rfl
theorem s_cons {s : Sx} {r : Sxs} : OkSx X (exSs C (.cons s r) l h) N T ↔ OkSx X (exS C s l h) (fun l1 h1 => OkSx X (exSs C r l1 h1) N T) T := by
  show OkSx X (match exS C s l h with | .nx l1 h1 => exSs C r l1 h1 | x => x) N T ↔ _
  cases exS C s l h <;> exact Iff.rfl
/-- a def -/
theorem f_run {fd : Fd} {ds : List PV} (hl : ds.length = fd.np) : Okx X (runFn fd C ds h) Q ↔ OkSx X (exSs C fd.body (ds.map some ++ List.replicate (fd.n - fd.np) none) h) (fun _ h1 => Q .non h1) Q := by
  unfold runFn
  rw [if_pos hl]
  cases exSs C fd.body (ds.map some ++ List.replicate (fd.n - fd.np) none) h <;> exact Iff.rfl
/-- what leaves a sealed def -/
def Seal (h : PHeap) (d : PV) (h1 : PHeap) (Q : PV → PHeap → Prop) : Prop := ∃ d2 h2, frzV h1 h.length 6 d = some d2 ∧ sealH h.length h h1 = some h2 ∧ Q d2 h2
/-- an error that leaves a sealed def -/
def SealX (h : PHeap) (X : XP) : XP := fun c fs h1 => (clV h.length c && clFs h.length fs) = true ∧ ∃ h2, sealH h.length h h1 = some h2 ∧ X c fs h2
theorem ok_sealx {r : R PV} : Okx X (sealF h r) Q ↔ Okx (SealX h X) r fun d h1 => Seal h d h1 Q := by
  cases r with
  | ok d h1 =>
    show Okx X (match frzV h1 h.length 6 d, sealH h.length h h1 with | some d1, some h1 => .ok d1 h1 | _, _ => .stuck) Q ↔ Seal h d h1 Q
    unfold Seal
    cases frzV h1 h.length 6 d <;> cases sealH h.length h h1 <;> simp [Okx]
  | exc c fs h1 =>
    show Okx X (if clV h.length c && clFs h.length fs then (match sealH h.length h h1 with | some h1 => .exc c fs h1 | none => .stuck) else .stuck) Q ↔ SealX h X c fs h1
    unfold SealX
    cases clV h.length c && clFs h.length fs <;> cases sealH h.length h h1 <;> simp [Okx]
  | stuck => exact Iff.rfl
theorem ok_seal {r : R PV} : Ok (sealF h r) Q ↔ Ok r fun d h1 => Seal h d h1 Q := by
  refine ok_sealx.trans ?_
  cases r <;> first | exact Iff.rfl | (simp [Okx, SealX, NoX])
theorem f_open {ct : Ct} {Tb : Nat → Option Fd} {n f : Nat} {fd : Fd} {ds : List PV} (e : Tb f = some fd) (z : fd.fz = false) (hl : ds.length = fd.np) :
    Okx X (callN ct Tb (n + 1) f ds h) Q ↔ OkSx X (exSs ⟨callN ct Tb n, ct⟩ fd.body (ds.map some ++ List.replicate (fd.n - fd.np) none) h) (fun _ h1 => Q .non h1) Q := by
  show Okx X (match Tb f with | some fd => runFs fd ⟨callN ct Tb n, ct⟩ ds h | none => .stuck) Q ↔ _
  rw [e]
  show Okx X (runFs fd _ ds h) Q ↔ _
  unfold runFs
  rw [z, if_neg Bool.false_ne_true]
  exact f_run hl
theorem f_call {ct : Ct} {Tb : Nat → Option Fd} {n f : Nat} {fd : Fd} {ds : List PV} (e : Tb f = some fd) (z : fd.fz = true) (hl : ds.length = fd.np) :
    Ok (callN ct Tb (n + 1) f ds h) Q ↔ OkS (exSs ⟨callN ct Tb n, ct⟩ fd.body (ds.map some ++ List.replicate (fd.n - fd.np) none) h) (fun _ h1 => Seal h .non h1 Q) (fun d h1 => Seal h d h1 Q) := by
  show Ok (match Tb f with | some fd => runFs fd ⟨callN ct Tb n, ct⟩ ds h | none => .stuck) Q ↔ _
  rw [e]
  show Ok (runFs fd _ ds h) Q ↔ _
  unfold runFs
  rw [z, if_pos rfl, ok_seal]
  exact f_run hl
theorem f_callx {ct : Ct} {Tb : Nat → Option Fd} {n f : Nat} {fd : Fd} {ds : List PV} (e : Tb f = some fd) (z : fd.fz = true) (hl : ds.length = fd.np) :
    Okx X (callN ct Tb (n + 1) f ds h) Q ↔ OkSx (SealX h X) (exSs ⟨callN ct Tb n, ct⟩ fd.body (ds.map some ++ List.replicate (fd.n - fd.np) none) h) (fun _ h1 => Seal h .non h1 Q) (fun d h1 => Seal h d h1 Q) := by
  show Okx X (match Tb f with | some fd => runFs fd ⟨callN ct Tb n, ct⟩ ds h | none => .stuck) Q ↔ _
  rw [e]
  show Okx X (runFs fd _ ds h) Q ↔ _
  unfold runFs
  rw [z, if_pos rfl, ok_sealx]
  exact f_run hl
/-! closed values -/
mutual
theorem cl_up {n m : Nat} (k : n ≤ m) : ∀ d : PV, clV n d = true → clV m d = true
  | .non, _ => rfl
  | .bl _, _ => rfl
  | .int _, _ => rfl
  | .str _, _ => rfl
  | .ty _, _ => rfl
  | .gl _, _ => rfl
  | .scr _, _ => rfl
  | .tup ds, z => by simp only [clV] at z ⊢; exact cls_up k ds z
  | .ref i, z => by simp only [clV, decide_eq_true_eq] at z ⊢; omega
  | .fz (.lst ds), z => by simp only [clV, clO] at z ⊢; exact cls_up k ds z
  | .fz (.set ds), z => by simp only [clV, clO] at z ⊢; exact cls_up k ds z
  | .fz (.dic kvs), z => by simp only [clV, clO] at z ⊢; exact clK_up k kvs z
  | .fz (.ins _ fs), z => by simp only [clV, clO] at z ⊢; exact clF_up k fs z
theorem cls_up {n m : Nat} (k : n ≤ m) : ∀ ds : List PV, clVs n ds = true → clVs m ds = true
  | [], _ => rfl
  | d :: r, z => by simp only [clVs, Bool.and_eq_true] at z ⊢; exact ⟨cl_up k d z.1, cls_up k r z.2⟩
theorem clK_up {n m : Nat} (k : n ≤ m) : ∀ ds : List (PV × PV), clKs n ds = true → clKs m ds = true
  | [], _ => rfl
  | (a, b) :: r, z => by simp only [clKs, Bool.and_eq_true] at z ⊢; exact ⟨⟨cl_up k a z.1.1, cl_up k b z.1.2⟩, clK_up k r z.2⟩
theorem clF_up {n m : Nat} (k : n ≤ m) : ∀ ds : List (Nat × PV), clFs n ds = true → clFs m ds = true
  | [], _ => rfl
  | (_, b) :: r, z => by simp only [clFs, Bool.and_eq_true] at z ⊢; exact ⟨cl_up k b z.1, clF_up k r z.2⟩
end
theorem frz_cl {d : PV} {h1 : PHeap} {n k : Nat} (z : clV n d = true) : frzV h1 n k d = some d := by
  cases k <;> (unfold frzV; rw [if_pos z])
theorem seal_app' {n : Nat} : ∀ (h g : PHeap), sealH n h (h ++ g) = some h
  | [], g => by cases g <;> rfl
  | o :: r, g => by
    show (if PObj.same o o || clO n o then (sealH n r (r ++ g)).map (o :: ·) else none) = _
    rw [PObj.same_rfl, Bool.true_or, if_pos rfl, seal_app' r g]; rfl
theorem seal_set' {n : Nat} {o : PObj} (z : clO n o = true) : ∀ (h g : PHeap) (i : Nat), sealH n h (h.set i o ++ g) = some (h.set i o)
  | [], g, i => by cases g <;> rfl
  | p :: r, g, 0 => by
    show (if PObj.same p o || clO n o then (sealH n r (r ++ g)).map (o :: ·) else none) = _
    rw [z, Bool.or_true, if_pos rfl, seal_app' r g]; rfl
  | p :: r, g, i + 1 => by
    show (if PObj.same p p || clO n p then (sealH n r (r.set i o ++ g)).map (p :: ·) else none) = _
    rw [PObj.same_rfl, Bool.true_or, if_pos rfl, seal_set' z r g i]; rfl
theorem sl_same {d : PV} (z : clV 0 d = true) (q : Q d h) : Seal h d h Q := ⟨d, h, frz_cl (cl_up (Nat.zero_le _) d z), by simpa using seal_app' h [], q⟩
theorem sl_app {d : PV} {g : PHeap} (z : clV 0 d = true) (q : Q d h) : Seal h d (h ++ g) Q := ⟨d, h, frz_cl (cl_up (Nat.zero_le _) d z), seal_app' h g, q⟩
theorem sl_set {d : PV} {g : PHeap} {i : Nat} {o : PObj} (z : clV 0 d = true) (zo : clO 0 o = true) (q : Q d (h.set i o)) : Seal h d (h.set i o ++ g) Q := by
  refine ⟨d, h.set i o, frz_cl (cl_up (Nat.zero_le _) d z), seal_set' ?_ h g i, q⟩
  have := cl_up (Nat.zero_le h.length) (.fz o) (by simpa only [clV] using zo)
  simpa only [clV] using this
theorem sl_set0 {d : PV} {i : Nat} {o : PObj} (z : clV 0 d = true) (zo : clO 0 o = true) (q : Q d (h.set i o)) : Seal h d (h.set i o) Q := by
  have := sl_set (Q := Q) (g := []) (h := h) z zo q
  simpa using this
/-- a new list that is returned -/
theorem frz_lst {h1 : PHeap} {n i : Nat} {ds : List PV} (e : h1[i]? = some (.lst ds)) (hi : n ≤ i) (z : clVs 0 ds = true) : frzV h1 n 6 (.ref i) = some (.fl ds) := by
  have m : ∀ {k : Nat} (l : List PV), clVs 0 l = true → mapO (frzV h1 n k) l = some l := fun {k} l => by
    induction l with
    | nil => intro _; rfl
    | cons d r ih =>
      intro z
      simp only [clVs, Bool.and_eq_true] at z
      simp only [mapO, frz_cl (cl_up (Nat.zero_le n) d z.1), ih z.2]
  unfold frzV
  rw [if_neg (by simp only [clV, decide_eq_true_eq]; omega)]
  dsimp only
  rw [e]
  show (Option.map PObj.lst (mapO (frzV h1 n 5) ds)).map PV.fz = _
  rw [m ds z]; rfl
theorem sl_lst {h1 g : PHeap} {ds : List PV} {i : Nat} (e : h1 = h ++ g) (ei : h1[i]? = some (.lst ds)) (hi : h.length ≤ i) (z : clVs 0 ds = true) (q : Q (.fl ds) h) : Seal h (.ref i) h1 Q := by
  subst e
  exact ⟨_, h, frz_lst ei hi z, seal_app' h g, q⟩
end

/-! ### steps: one clause at the head of the goal -/
section
variable {C : Orc} {l : Loc} {h : PHeap} {Q : PV → PHeap → Prop}
theorem okP_of {o : Option (PV × PHeap)} {d : PV} {h' : PHeap} (e : o = some (d, h')) (q : Q d h') : OkP o Q := by rw [e]; exact q
theorem okO_of {α : Type} {o : Option α} {a : α} {Q : α → Prop} (e : o = some a) (q : Q a) : OkO o Q := by rw [e]; exact q
theorem x_loc {X : XP} {i : Nat} {d : PV} (e : l[i]? = some (some d)) (q : Q d h) : Okx X (evE C (.loc i) l h) Q := w_loc.mpr (by rw [e]; exact q)
theorem x_int {Q : Option Int → PHeap → Prop} {i : Int} (q : Q (some i) h) : (match PV.int i with | .int i => Q (some i) h | _ => False) := q
theorem get_lst {i : Nat} {ds : List PV} {k : Int} (e : h[i]? = some (.lst ds)) : getF (.ref i) (.int k) h = atI ds k := by
  simp only [getF, objOf, e]
theorem get_dic {i : Nat} {kvs : List (PV × PV)} {k : PV} (e : h[i]? = some (.dic kvs)) : getF (.ref i) k h = dGetF kvs k := by
  simp only [getF, objOf, e]
theorem put_lst {i j : Nat} {ds : List PV} {k : Int} {v : PV} (e : h[i]? = some (.lst ds)) (hj : ixN ds.length k = some j) : putF (.ref i) (.int k) v h = some (h.set i (.lst (ds.set j v))) := by
  simp only [putF, e, hj]; rfl
theorem mod_ok {i j : Int} (hj : 0 < j) : bopF .mod [.int i, .int j] h = some (.int (i % j), h) := by
  simp only [bopF, arI, if_pos hj]; rfl
theorem fdiv_ok {i j : Int} (hj : 0 < j) (hb : j.natAbs < big) : bopF .fdiv [.int i, .int j] h = some (.int (i / j), h) := by
  simp only [bopF, arI, if_pos (And.intro hj hb)]; rfl
theorem mul_ok {i j : Int} (hi : i.natAbs < big) (hj : j.natAbs < big) : bopF .mul [.int i, .int j] h = some (.int (i * j), h) := by
  simp only [bopF, mulF, if_pos (And.intro hi hj)]
theorem lt_big {i : Int} (h1 : -(2 ^ 200) < i) (h2 : i < 2 ^ 200) : i.natAbs < big := by
  have : i.natAbs < 2 ^ 200 := by omega
  exact Nat.lt_of_lt_of_le this (by unfold big; exact Nat.pow_le_pow_right (by decide) (by decide))
end
theorem line_of {n : Nat} (h : n ≤ 1000) : n ≤ sizeLine := Nat.le_trans h (by rw [sizeLine_eq]; decide)
theorem okL {ds : List PV} {P : Prop} (hl : ds.length ≤ 1000) (p : P) : ds.length ≤ sizeLine ∧ P := ⟨line_of hl, p⟩
theorem okO_bind {i : Nat} {d : PV} {l : Loc} {Q : Loc → Prop} (hi : i < l.length) (q : Q (l.set i (some d))) : OkO (bindT (.nm i) d l) Q := by
  unfold bindT
  rw [if_pos hi]; exact q
theorem okO_get {h : PHeap} {i : Nat} {k : Int} {ds : List PV} {d : PV} {Q : PV → Prop} (e : h[i]? = some (.lst ds)) (g : atI ds k = some d) (q : Q d) : OkO (getF (.ref i) (.int k) h) Q := okO_of ((get_lst e).trans g) q
theorem okO_put {h : PHeap} {i j : Nat} {k : Int} {ds : List PV} {v : PV} {Q : PHeap → Prop} (e : h[i]? = some (.lst ds)) (g : ixN ds.length k = some j) (q : Q (h.set i (.lst (ds.set j v)))) : OkO (putF (.ref i) (.int k) v h) Q := okO_of (put_lst e g) q
theorem okP_mod {h : PHeap} {i j : Int} {Q : PV → PHeap → Prop} (hj : 0 < j) (q : Q (.int (i % j)) h) : OkP (bopF .mod [.int i, .int j] h) Q := okP_of (mod_ok hj) q
theorem okP_fdiv {h : PHeap} {i j : Int} {Q : PV → PHeap → Prop} (hj : 0 < j) (hb : j < 2 ^ 200) (q : Q (.int (i / j)) h) : OkP (bopF .fdiv [.int i, .int j] h) Q := okP_of (fdiv_ok hj (lt_big (by omega) hb)) q
theorem okP_mul {h : PHeap} {i j : Int} {Q : PV → PHeap → Prop} (h1 : -2 ^ 200 < i ∧ i < 2 ^ 200) (h2 : -2 ^ 200 < j ∧ j < 2 ^ 200) (q : Q (.int (i * j)) h) : OkP (bopF .mul [.int i, .int j] h) Q := okP_of (mul_ok (lt_big h1.1 h1.2) (lt_big h2.1 h2.2)) q
theorem get_self {h : PHeap} {i : Nat} {o o' : PObj} (e : h[i]? = some o) : (h.set i o')[i]? = some o' := by
  rw [List.getElem?_set_self (List.getElem?_eq_some_iff.mp e).1]
theorem sh_str {x : Str} (hx : PyData.strOk x = true) : SeqAt.shaped (.str x) = true := by
  unfold SeqAt.shaped
  simp only [PyData.canLay0, hx, PyData.depth]; rfl
theorem eqD_str {h : PHeap} {x y : Str} (hx : PyData.strOk x = true) (hy : PyData.strOk y = true) : eqD h (.str x) (.str y) = some (x == y) := by
  unfold eqD
  show (if SeqAt.shaped (.str x) = true ∧ SeqAt.shaped (.str y) = true then _ else _) = _
  rw [if_pos ⟨sh_str hx, sh_str hy⟩]
  simp only [PyData.eqv]
theorem eq_str {h : PHeap} {x y : Str} (hx : PyData.strOk x = true) (hy : PyData.strOk y = true) : eqF h (.str x) (.str y) = some (x == y) := by
  unfold eqF
  rw [eqD_str hx hy]
theorem okO_eqs {h : PHeap} {x y : Str} {Q : Bool → Prop} (hx : PyData.strOk x = true) (hy : PyData.strOk y = true) (q : Q (x == y)) : OkO (cmpB .eq h (.str x) (.str y)) Q := okO_of (show eqF h _ _ = _ from eq_str hx hy) q
theorem okO_nes {h : PHeap} {x y : Str} {Q : Bool → Prop} (hx : PyData.strOk x = true) (hy : PyData.strOk y = true) (q : Q (!(x == y))) : OkO (cmpB .ne h (.str x) (.str y)) Q := okO_of (show (eqD h _ _).map _ = _ by rw [eqD_str hx hy]; rfl) q
theorem br_t {b : Bool} {A B : Prop} (e : b = true) (a : A) : (b = true → A) ∧ (b = false → B) := ⟨fun _ => a, fun z => by rw [e] at z; cases z⟩
theorem br_f {b : Bool} {A B : Prop} (e : b = false) (a : B) : (b = true → A) ∧ (b = false → B) := ⟨fun z => (by rw [e] at z; cases z), fun _ => a⟩
theorem okO_some {α : Type} {a : α} {Q : α → Prop} (q : Q a) : OkO (some a) Q := q
theorem okO_bl {h : PHeap} {b : Bool} {Q : Bool → Prop} (q : Q b) : OkO (truthF h (.bl b)) Q := q
/-! ### walks -/
section
variable {C : Orc} {l : Loc} {h : PHeap} {Q : PV → PHeap → Prop} {N : Loc → PHeap → Prop} {T : PV → PHeap → Prop} {X : XP}
theorem w_val {e : Ex} {Q : Src → PHeap → Prop} : Okx X (evI C (.val e) l h) Q ↔ Okx X (evE C e l h) fun d h1 => OkO (srcOf h1 d) fun s => Q s h1 := by
  show Okx X (R.bind _ _) _ ↔ _
  rw [ok_bind]
  refine iff_of_eq (congrArg _ (funext fun d => funext fun h1 => propext ?_))
  show Okx X (srcR (srcOf h1 d) h1) Q ↔ _
  cases srcOf h1 d <;> exact Iff.rfl
theorem x_rng1 {e : Ex} {Q : Src → PHeap → Prop} (k : Okx X (evE C e l h) fun d h1 => ∃ j : Int, d = .int j ∧ 0 ≤ j ∧ j < 1000 ∧ Q (.seq ((List.range j.toNat).map fun (i : Nat) => .int (0 + i))) h1) : Okx X (evI C (.rng1 e) l h) Q := by
  show Okx X (R.bind _ _) _
  rw [ok_bind]
  refine k.mono fun d h1 ⟨j, e1, j0, j1, q⟩ => ?_
  subst e1
  show Okx X (srcR (rngOf 0 j) h1) Q
  unfold rngOf
  rw [if_pos ⟨by decide, by decide, by omega, by omega⟩, Int.sub_zero]
  exact q
theorem x_rng2 {a b : Ex} {Q : Src → PHeap → Prop} (k : Okx X (evE C a l h) fun d h1 => ∃ i : Int, d = .int i ∧ 0 ≤ i ∧ i < 1000 ∧ Okx X (evE C b l h1) fun d h2 => ∃ j : Int, d = .int j ∧ 0 ≤ j ∧ j < 1000 ∧ Q (.seq ((List.range (j - i).toNat).map fun (n : Nat) => .int (i + n))) h2) : Okx X (evI C (.rng2 a b) l h) Q := by
  show Okx X (R.bind _ _) _
  rw [ok_bind]
  refine k.mono fun d h1 ⟨i, e1, i0, i1, q⟩ => ?_
  subst e1
  rw [ok_bind]
  refine q.mono fun d h2 ⟨j, e2, j0, j1, q⟩ => ?_
  subst e2
  show Okx X (srcR (rngOf i j) h2) Q
  unfold rngOf
  rw [if_pos ⟨by omega, by omega, by omega, by omega⟩]
  exact q
theorem w_lc {elt : Ex} {tg : Tg} {it : Itr} {ifs : Op} {own : List Nat} : Okx X (evE C (.lc true elt tg it ifs own) l h) Q ↔ Okx X (evI C it l h) fun src h1 => Okx X (lcLoop tg src (evT1 C ifs) (evE C elt) (wipeP l own) (srcLen h1 src + 1) 0 [] h1) fun ds h2 => Q (.fl ds) h2 := by
  show Okx X (R.bind _ _) _ ↔ _
  simp only [ok_bind, ok_lift]; exact Iff.rfl
theorem w_lch {elt : Ex} {tg : Tg} {it : Itr} {ifs : Op} {own : List Nat} : Okx X (evE C (.lc false elt tg it ifs own) l h) Q ↔ Okx X (evI C it l h) fun src h1 => Okx X (lcLoop tg src (evT1 C ifs) (evE C elt) (wipeP l own) (srcLen h1 src + 1) 0 [] h1) fun ds h2 => Q (.ref h2.length) (h2 ++ [.lst ds]) := by
  show Okx X (R.bind _ _) _ ↔ _
  simp only [ok_bind, ok_lift]; exact Iff.rfl
theorem x_met {m : Nat} {e : Ex} {hs : List (Nat × Str)} {last : Str} (em : C.ct.met m = some (hs, last)) (k : Okx (fun c _ h1 => ∃ k, c = .gl k ∧ Okx X (metGo C.ct k h1 hs) Q) (evE C e l h) fun _ h1 => Q (.str last) h1) : Okx X (evE C (.met m e) l h) Q := by
  show Okx X (metF C.ct m (evE C e l h)) Q
  unfold metF
  rw [em]
  revert k
  cases evE C e l h with
  | ok d h1 => exact id
  | exc c fs h1 => rintro ⟨k, rfl, q⟩; exact q
  | stuck => exact id
theorem w_for {t : Tg} {it : Itr} {b : Sxs} : OkSx X (exS C (.for_ t it b) l h) N T ↔ Okx X (evI C it l h) fun src h1 => OkSx X (forLoop t src (exSs C b) (srcLen h1 src + 1) 0 l h1) N T := by
  show OkSx X (R.toS _ _ _) _ _ ↔ _
  rw [okS_to]
theorem w_tno {Q : Bool → PHeap → Prop} : Okx X (evT1 C .no l h) Q ↔ Q true h := Iff.rfl
theorem w_tyes {e : Ex} {Q : Bool → PHeap → Prop} : Okx X (evT1 C (.yes e) l h) Q ↔ Okx X (evE C e l h) fun d h1 => OkO (truthF h1 d) fun b => Q b h1 := by
  show Okx X (truthR _) _ ↔ _
  rw [ok_truth]
/-- the turns of a comprehension -/
theorem ok_lc {tg : Tg} {src : Src} {tt : Loc → PHeap → R Bool} {el : Loc → PHeap → R PV} {lw : Loc} {ds : List PV} (P : Nat → List PV → PHeap → Prop) (hz : ds.length ≤ 1000)
    (hs : ∀ i acc h, P i acc h → srcAt h i src = some ds[i]?)
    (st : ∀ i d acc h, ds[i]? = some d → P i acc h → OkO (bindT tg d lw) fun l => Ok (tt l h) fun b h1 => (b = false → P (i + 1) acc h1) ∧ (b = true → Ok (el l h1) fun y h2 => P (i + 1) (acc ++ [y]) h2)) :
    ∀ (n i : Nat) (acc : List PV) (h : PHeap), n + i = ds.length + 1 → i ≤ ds.length → acc.length ≤ i → P i acc h → Okx X (lcLoop tg src tt el lw n i acc h) fun acc h' => P ds.length acc h' := by
  intro n
  induction n with
  | zero => intro i acc h e hi; omega
  | succ n ih =>
    intro i acc h e hi hl p
    unfold lcLoop
    rw [hs i acc h p]
    by_cases q : i < ds.length
    · rw [List.getElem?_eq_getElem q]
      have s := st i ds[i] acc h (List.getElem?_eq_getElem q) p
      dsimp only
      revert s
      cases bindT tg ds[i] lw with
      | none => exact False.elim
      | some l =>
        intro s
        obtain ⟨b, h1, e1, k1, k2⟩ := Ok.get (r := tt l h) s
        dsimp only
        rw [e1]
        cases b with
        | false => exact ih (i + 1) acc h1 (by omega) q (by omega) (k1 rfl)
        | true =>
          obtain ⟨y, h2, e2, k⟩ := (k2 rfl).get
          dsimp only
          rw [e2]
          dsimp only
          rw [if_pos (Nat.lt_of_lt_of_le (by omega : acc.length < 1000) (line_of (Nat.le_refl _)))]
          exact ih (i + 1) (acc ++ [y]) h2 (by omega) q (by rw [List.length_append]; simp; omega) k
    · obtain rfl : i = ds.length := by omega
      rw [List.getElem?_eq_none (Nat.le_refl _)]
      exact p
/-- the turns of a for -/
theorem ok_for {tg : Tg} {src : Src} {body : Loc → PHeap → RS} {ds : List PV} (P : Nat → Loc → PHeap → Prop)
    (hs : ∀ i l h, P i l h → srcAt h i src = some ds[i]?)
    (st : ∀ i d l h, ds[i]? = some d → P i l h → OkO (bindT tg d l) fun l1 => OkSx X (body l1 h) (fun l2 h2 => P (i + 1) l2 h2) T) (pn : ∀ l h, P ds.length l h → N l h) :
    ∀ (n i : Nat) (l : Loc) (h : PHeap), n + i = ds.length + 1 → i ≤ ds.length → P i l h → OkSx X (forLoop tg src body n i l h) N T := by
  intro n
  induction n with
  | zero => intro i l h e hi; omega
  | succ n ih =>
    intro i l h e hi p
    unfold forLoop
    rw [hs i l h p]
    by_cases q : i < ds.length
    · rw [List.getElem?_eq_getElem q]
      have s := st i ds[i] l h (List.getElem?_eq_getElem q) p
      dsimp only
      revert s
      cases bindT tg ds[i] l with
      | none => exact False.elim
      | some l1 =>
        intro s
        have s : OkSx X (body l1 h) (fun l2 h2 => P (i + 1) l2 h2) T := s
        revert s
        dsimp only
        cases body l1 h with
        | nx l2 h2 => intro s; exact ih (i + 1) l2 h2 (by omega) q s
        | rt d h2 => exact id
        | bk => exact False.elim
        | ct => exact False.elim
        | exc => exact id
        | stuck => exact False.elim
    · obtain rfl : i = ds.length := by omega
      rw [List.getElem?_eq_none (Nat.le_refl _)]
      exact pn l h p
end
section
variable {h : PHeap}
theorem okP_lenT {ds : List PV} {Q : PV → PHeap → Prop} (q : Q (.int ds.length) h) : OkP (bltF .len [.tup ds] h) Q := okP_of rfl q
theorem okO_get0 {d : PV} {r : List PV} {Q : PV → Prop} (q : Q d) : OkO (getF (.tup (d :: r)) (.int 0) h) Q := okO_of (show atI (d :: r) 0 = some d by simp [atI, ixN]) q
theorem okO_get1 {d e : PV} {r : List PV} {Q : PV → Prop} (q : Q e) : OkO (getF (.tup (d :: e :: r)) (.int 1) h) Q := okO_of (show atI (d :: e :: r) 1 = some e by
  unfold atI ixN
  rw [if_pos (by decide), if_pos (by simp only [List.length_cons]; omega)]; rfl) q
theorem okO_get2 {d e g : PV} {r : List PV} {Q : PV → Prop} (q : Q g) : OkO (getF (.tup (d :: e :: g :: r)) (.int 2) h) Q := okO_of (show atI (d :: e :: g :: r) 2 = some g by
  unfold atI ixN
  rw [if_pos (by decide), if_pos (by simp only [List.length_cons]; omega)]; rfl) q
end
theorem for_step {tg : Tg} {src : Src} {body : Loc → PHeap → RS} {n i : Nat} {l : Loc} {h : PHeap} {d : PV} {N : Loc → PHeap → Prop} {T : PV → PHeap → Prop} {X : XP} (hs : srcAt h i src = some (some d))
    (k : OkO (bindT tg d l) fun l1 => OkSx X (body l1 h) (fun l2 h2 => OkSx X (forLoop tg src body n (i + 1) l2 h2) N T) T) : OkSx X (forLoop tg src body (n + 1) i l h) N T := by
  unfold forLoop
  rw [hs]
  dsimp only
  revert k
  cases bindT tg d l with
  | none => exact False.elim
  | some l1 =>
    intro k
    have k : OkSx X (body l1 h) (fun l2 h2 => OkSx X (forLoop tg src body n (i + 1) l2 h2) N T) T := k
    revert k
    dsimp only
    cases body l1 h <;> first | exact id | exact False.elim
theorem for_end {tg : Tg} {src : Src} {body : Loc → PHeap → RS} {n i : Nat} {l : Loc} {h : PHeap} {N : Loc → PHeap → Prop} {T : PV → PHeap → Prop} {X : XP} (hs : srcAt h i src = some none) (k : N l h) : OkSx X (forLoop tg src body (n + 1) i l h) N T := by
  unfold forLoop
  rw [hs]
  exact k
theorem okO_seq {h : PHeap} {i : Nat} {ds : List PV} {Q : List PV → Prop} (e : h[i]? = some (.lst ds)) (q : Q ds) : OkO (seqOf h (.ref i)) Q := okO_of (show seqOf h (.ref i) = some ds by simp only [seqOf, lstOf, objOf, e]) q
theorem set_new {h : PHeap} {o o' : PObj} : (h ++ [o]).set h.length o' = h ++ [o'] := by
  rw [List.set_append_right _ _ (Nat.le_refl _), Nat.sub_self]; rfl
theorem up1 {N a : Nat} (k : a + 1 ≤ N) : ∃ n, N = n + 1 := ⟨N - 1, by omega⟩
theorem mapO_len {α β : Type} {f : α → Option β} : ∀ {xs : List α} {ys : List β}, mapO f xs = some ys → ys.length = xs.length
  | [], _, e => by simp only [mapO] at e; cases e; rfl
  | x :: xs, _, e => by
    obtain ⟨b, bs, e1, e2, rfl⟩ := mapO_cons e
    simp [mapO_len e2]
theorem lstOf_fl {h : PHeap} {xs : List PV} : lstOf h (.fl xs) = some xs := rfl
theorem eqG_nil {h : PHeap} {n : Nat} {v : PV} {xs : List PV} (e : lstOf h v = some xs) : eqG h (n + 1) v (.fl []) = some xs.isEmpty := by
  unfold eqG
  have nf : (flatP v && flatP (.fl [])) = false := by cases v <;> rfl
  rw [if_neg (by rw [nf]; decide)]
  cases v with
  | tup ds => simp [lstOf, objOf] at e
  | _ =>
    dsimp only
    rw [e, lstOf_fl]
    dsimp only
    cases xs with
    | nil => rfl
    | cons x r => rfl
theorem toD_lst {h : PHeap} {n : Nat} {v : PV} {xs : List PV} {d : PyData} (e : lstOf h v = some xs) (t : toD h (n + 1) v = some d) : ∃ ys, mapO (toD h n) xs = some ys ∧ d = .list ys := by
  cases v <;> simp only [lstOf, objOf] at e <;> first | (cases e; done) | skip
  · rename_i o
    cases o <;> first | (cases e; done) | skip
    cases e
    simp only [toD] at t
    obtain ⟨ys, e1, rfl⟩ := omap t
    exact ⟨ys, e1, rfl⟩
  · rename_i i
    simp only [toD] at t
    cases hi : h[i]? with
    | none => rw [hi] at e; cases e
    | some o =>
      rw [hi] at e t
      cases o <;> first | (cases e; done) | skip
      cases e
      obtain ⟨ys, e1, rfl⟩ := omap t
      exact ⟨ys, e1, rfl⟩
/-- a list against the empty one -/
theorem eq_nil {h : PHeap} {v : PV} {xs : List PV} (e : lstOf h v = some xs) : eqF h v (.fl []) = some xs.isEmpty := by
  have nt : ∀ ds, v ≠ .tup ds := fun ds z => by subst z; simp [lstOf, objOf] at e
  unfold eqF
  split
  · rename_i b hb
    unfold eqD at hb
    split at hb
    · rename_i p q h1 h2
      split at hb
      · cases hb
        obtain ⟨ys, e1, rfl⟩ := toD_lst e h1
        obtain ⟨zs, e2, rfl⟩ := toD_lst lstOf_fl h2
        simp only [mapO] at e2
        cases e2
        have := mapO_len e1
        cases ys with
        | nil => cases xs with
          | nil => simp [PyData.eqv, PyData.eqvAll]
          | cons => simp at this
        | cons => cases xs with
          | nil => simp at this
          | cons => simp [PyData.eqv, PyData.eqvAll]
      · cases hb
    · cases hb
  · cases v with
    | tup ds => exact absurd rfl (nt ds)
    | _ => exact (if_neg (by simp [flatP])).trans (eqG_nil e)
theorem okO_eq_nil {h : PHeap} {v : PV} {xs : List PV} {Q : Bool → Prop} (e : lstOf h v = some xs) (q : Q xs.isEmpty) : OkO (cmpB .eq h v (.fl [])) Q := okO_of (eq_nil e) q
theorem okO_eq_nilF {h : PHeap} {xs : List PV} {Q : Bool → Prop} (q : Q xs.isEmpty) : OkO (cmpB .eq h (.fl xs) (.fl [])) Q := okO_of (eq_nil lstOf_fl) q
theorem cutP_all {ds : List PV} {lo hi : Option Int} (h0 : HT.sIx ds.length 0 lo = 0) (h1 : HT.sIx ds.length ds.length hi = ds.length) : cutP ds lo hi = ds := by
  simp only [cutP, h0, h1, List.drop_zero, Nat.sub_zero, List.take_length]
theorem okP_slcT {h : PHeap} {ds : List PV} {lo hi : Option Int} {Q : PV → PHeap → Prop} (q : Q (.tup (cutP ds lo hi)) h) : OkP (slcF (.tup ds) lo hi h) Q := by
  simp only [slcF]
  split
  · rename_i z
    rw [cutP_all z.1 z.2] at q; exact q
  · exact q
theorem cutP_nat {ds : List PV} {a : Nat} : cutP ds (some (a : Int)) none = ds.drop a := by
  simp only [cutP, HT.sIx_nat, HT.sIx_none]
  rw [List.take_of_length_le (by rw [List.length_drop]; omega)]
  by_cases z : a ≤ ds.length
  · rw [Nat.min_eq_left z]
  · rw [Nat.min_eq_right (by omega), List.drop_of_length_le (Nat.le_refl _), List.drop_of_length_le (by omega)]
theorem cutP_upto {ds : List PV} {a : Nat} : cutP ds none (some (a : Int)) = ds.take a := by
  simp only [cutP, HT.sIx_nat, HT.sIx_none, List.drop_zero, Nat.sub_zero]
  by_cases z : a ≤ ds.length
  · rw [Nat.min_eq_left z]
  · rw [Nat.min_eq_right (by omega), List.take_of_length_le (Nat.le_refl _), List.take_of_length_le (by omega)]
theorem okP_tail {h : PHeap} {d : PV} {r : List PV} {Q : PV → PHeap → Prop} (q : Q (.tup r) h) : OkP (slcF (.tup (d :: r)) (some 1) none h) Q := okP_slcT (by rw [show (1 : Int) = ((1 : Nat) : Int) from rfl, cutP_nat]; exact q)

/-! ### frames -/
def Fr (S : List Nat) (h h' : PHeap) : Prop := h.length ≤ h'.length ∧ ∀ j, j < h.length → j ∉ S → h'[j]? = h[j]?
section
variable {S S' : List Nat} {h h1 h2 : PHeap} {o : PObj} {i j : Nat}
theorem Fr.refl : Fr S h h := ⟨Nat.le_refl _, fun _ _ _ => rfl⟩
theorem Fr.trans (a : Fr S h h1) (b : Fr S h1 h2) : Fr S h h2 := ⟨Nat.le_trans a.1 b.1, fun j hj n => (b.2 j (Nat.lt_of_lt_of_le hj a.1) n).trans (a.2 j hj n)⟩
theorem Fr.mono (a : Fr S h h1) (s : ∀ x ∈ S, x ∈ S') : Fr S' h h1 := ⟨a.1, fun j hj n => a.2 j hj fun z => n (s j z)⟩
theorem Fr.app (x : PHeap) : Fr S h (h ++ x) := ⟨by rw [List.length_append]; omega, fun j hj _ => List.getElem?_append_left hj⟩
theorem Fr.set (hi : i ∈ S) : Fr S h (h.set i o) := ⟨by rw [List.length_set]; exact Nat.le_refl _, fun j hj n => List.getElem?_set_ne fun z : i = j => n (z ▸ hi)⟩
theorem lt_of_get (e : h[j]? = some o) : j < h.length := (List.getElem?_eq_some_iff.mp e).1
theorem Fr.get (a : Fr S h h1) (e : h[j]? = some o) (n : j ∉ S) : h1[j]? = some o := (a.2 j (lt_of_get e) n).trans e
theorem Fr.get0 (a : Fr [] h h1) (e : h[j]? = some o) : h1[j]? = some o := a.get e List.not_mem_nil
/-- what is written beyond h is free to change -/
theorem Fr.drop (a : Fr S h h1) (n : ∀ x ∈ S, h.length ≤ x ∨ x ∈ S') : Fr S' h h1 := ⟨a.1, fun j hj m => a.2 j hj fun z => (n j z).elim (fun q => by omega) m⟩
theorem Fr.len (a : Fr S h h1) : h.length ≤ h1.length := a.1
theorem get_new : (h ++ [o])[h.length]? = some o := by rw [List.getElem?_append_right (Nat.le_refl _), Nat.sub_self]; rfl
theorem okP_len {ds : List PV} {Q : PV → PHeap → Prop} (e : h[j]? = some (.lst ds)) (q : Q (.int ds.length) h) : OkP (bltF .len [.ref j] h) Q := by
  refine okP_of (d := .int ds.length) (h' := h) ?_ q
  show (seqOf h (.ref j)).map _ = _
  simp only [seqOf, lstOf, objOf, e]; rfl
theorem atI_mem {ds : List PV} {r : Int} (h0 : 0 ≤ r) (h1 : r < ds.length) : ∃ d, atI ds r = some d ∧ d ∈ ds ∧ ds[r.toNat]? = some d := by
  unfold atI ixN
  rw [if_pos h0, if_pos h1]
  have hl : r.toNat < ds.length := by omega
  exact ⟨ds[r.toNat], by simp [List.getElem?_eq_getElem hl], List.getElem_mem hl, List.getElem?_eq_getElem hl⟩
end

section
variable {h : PHeap} {i j : Nat} {xs ys : List PV} {v : PV} {Q : PV → PHeap → Prop}
theorem rcv_lst {m : Mi} (e : h[i]? = some (.lst xs)) : rcvOk m (.ref i) h = true := by simp only [rcvOk, e]
theorem okP_app (e : h[i]? = some (.lst xs)) (hl : xs.length < 1000) (q : Q .non (h.set i (.lst (xs ++ [v])))) : OkP (methF .append [.ref i, v] h) Q := by
  refine okP_of ?_ q
  show appP [.ref i, v] h = _
  simp only [appP, e]
  rw [if_pos (Nat.lt_of_lt_of_le hl (line_of (Nat.le_refl _)))]
theorem okP_ext {v : PV} (e : h[i]? = some (.lst xs)) (e' : lstOf h v = some ys) (ne : neRef i v = true) (hl : xs.length + ys.length ≤ 1000) (q : Q .non (h.set i (.lst (xs ++ ys)))) : OkP (methF .extend [.ref i, v] h) Q := by
  refine okP_of ?_ q
  show extP [.ref i, v] h = _
  simp only [extP, e, e']
  rw [if_pos ⟨line_of hl, ne⟩]
end

/-! dicts with nested keys -/
theorem sameK_iff {p : PV} {q k : NestedKey} (h : nkOf p = some q) : sameK p k = decide (q = k) := by
  unfold sameK; rw [h, NestedKey.decide_eq]
theorem find_map (k : NestedKey) (v : PV) (k' : NestedKey) : ∀ kvs : List (PV × PV), dFind (kvs.map fun p => if sameK p.1 k then (p.1, v) else p) k' = if k = k' then (dFind kvs k).map (fun _ => v) else dFind kvs k'
  | [] => by unfold dFind; simp
  | (a, b) :: r => by
    have ih := find_map k v k' r
    unfold dFind at ih ⊢
    rw [List.map_cons, List.find?_cons, List.find?_cons, List.find?_cons]
    by_cases hk : k = k'
    · subst hk
      rw [if_pos rfl] at ih ⊢
      cases z : sameK a k with
      | true => simp [z]
      | false => simp only [z, Bool.false_eq_true, if_false]; exact ih
    · rw [if_neg hk] at ih ⊢
      cases z : sameK a k with
      | true =>
        have z' : sameK a k' = false := by
          unfold sameK at z ⊢
          cases hn : nkOf a with
          | none => rfl
          | some q =>
            rw [hn] at z
            have := NestedKey.eq_of_beq _ _ z
            subst this
            dsimp only
            cases zz : NestedKey.beq q k' with
            | false => rfl
            | true => exact absurd (NestedKey.eq_of_beq _ _ zz) hk
        simp only [z', if_true, Bool.false_eq_true]; exact ih
      | false =>
        simp only [Bool.false_eq_true, if_false]
        cases z' : sameK a k' with
        | true => rfl
        | false => exact ih
theorem find_store {kvs : List (PV × PV)} {k k' : NestedKey} {kp v : PV} (h : nkOf kp = some k) : dFind (dStore kvs k kp v) k' = if k = k' then some v else dFind kvs k' := by
  unfold dStore
  cases z : dFind kvs k with
  | some u =>
    rw [if_pos (show (some u).isSome = true from rfl), find_map, z]; rfl
  | none =>
    rw [if_neg (by simp)]
    unfold dFind at z ⊢
    rw [List.find?_append]
    by_cases hk : k = k'
    · subst hk
      rw [if_pos rfl]
      have : kvs.find? (fun p => sameK p.1 k) = none := by
        cases y : kvs.find? (fun p => sameK p.1 k) with
        | none => rfl
        | some _ => rw [y] at z; cases z
      rw [this]
      simp [List.find?_cons, sameK_iff h]
    · rw [if_neg hk]
      simp [List.find?_cons, sameK_iff h, hk]
theorem store_len {kvs : List (PV × PV)} {k : NestedKey} {kp v : PV} : (dStore kvs k kp v).length ≤ kvs.length + 1 := by
  unfold dStore
  split
  · rw [List.length_map]; omega
  · rw [List.length_append]; exact Nat.le_refl _
theorem store_all {kvs : List (PV × PV)} {k : NestedKey} {kp v : PV} {f : PV → Bool} (hk : f kp = true) (h : kvs.all (fun p => f p.1) = true) : (dStore kvs k kp v).all (fun p => f p.1) = true := by
  unfold dStore
  rw [List.all_eq_true] at h ⊢
  split
  · intro x hx
    obtain ⟨y, hy, rfl⟩ := List.mem_map.mp hx
    split <;> exact h y hy
  · intro x hx
    rcases List.mem_append.mp hx with hx | hx
    · exact h x hx
    · rw [List.mem_singleton.mp hx]; exact hk
section
variable {C : Orc} {ct : Ct} {l : Loc} {h : PHeap} {i : Nat} {Q : PV → PHeap → Prop} {X : XP}
theorem okO_getD {kvs : List (PV × PV)} {k d : PV} {Q : PV → Prop} (e : h[i]? = some (.dic kvs)) (g : dGetF kvs k = some d) (q : Q d) : OkO (getF (.ref i) k h) Q := okO_of ((get_dic e).trans g) q
theorem okO_putD {kvs kvs' : List (PV × PV)} {k v : PV} {Q : PHeap → Prop} (e : h[i]? = some (.dic kvs)) (g : dPutF kvs k v = some kvs') (q : Q (h.set i (.dic kvs'))) : OkO (putF (.ref i) k v h) Q := by
  refine okO_of ?_ q
  simp only [putF, e, g]; rfl
theorem okP_attr {c f : Nat} {fs : List (Nat × PV)} {d : PV} (e : h[i]? = some (.ins c fs)) (o : ownF ct c f = true) (g : fs.lookup f = some d) (q : Q d h) : OkP (attrF ct f [.ref i] h) Q := by
  refine okP_of ?_ q
  simp only [attrF, objOf, e, o, g]; rfl
theorem okP_attrF {c f : Nat} {fs : List (Nat × PV)} {d : PV} (o : ownF ct c f = true) (g : fs.lookup f = some d) (q : Q d h) : OkP (attrF ct f [.fz (.ins c fs)] h) Q := by
  refine okP_of ?_ q
  simp only [attrF, objOf, o, g]; rfl
theorem okO_getDF {kvs : List (PV × PV)} {k d : PV} {Q : PV → Prop} (g : dGetF kvs k = some d) (q : Q d) : OkO (getF (.fz (.dic kvs)) k h) Q := okO_of g q
theorem okO_fld {c f : Nat} {fs : List (Nat × PV)} {v : PV} {Q : PHeap → Prop} (e : h[i]? = some (.ins c fs)) (o : ownF ct c f = true) (g : fs.length < 900) (q : Q (h.set i (.ins c (setFl fs f v)))) : OkO (fldF ct (.ref i) f v h) Q := by
  refine okO_of ?_ q
  simp only [fldF, e, o, decide_eq_true g]; rfl
theorem w_make {c f : Nat} {es : Exs} : Okx X (evE C (.make c f es) l h) Q ↔ Okx X (evA C es l h) fun ds h1 => Ok (C.call f (.ref h1.length :: ds) (h1 ++ [.ins c []])) fun d h2 => d = .non ∧ Q (.ref h1.length) h2 := by
  show Okx X (R.bind _ _) _ ↔ _
  rw [ok_bind]
  refine iff_of_eq (congrArg _ (funext fun ds => funext fun h1 => propext ?_))
  show Okx X (makeF C.call c f ds h1) Q ↔ _
  unfold makeF
  cases C.call f (.ref h1.length :: ds) (h1 ++ [.ins c []]) with
  | ok d h2 => cases d <;> simp [Okx]
  | exc => exact Iff.rfl
  | stuck => exact Iff.rfl
end
end Zed
end
open PySem L2 Zed
local macro_rules | `(tactic| walk_at "z1") => `(tactic| first | with_reducible refine s_cons.mpr ?_ | with_reducible refine w_val.mpr ?_ | with_reducible refine w_lc.mpr ?_ | with_reducible refine w_lch.mpr ?_ | with_reducible refine w_for.mpr ?_ | with_reducible refine w_tno.mpr ?_ | with_reducible refine w_tyes.mpr ?_ | with_reducible refine s_nil.mpr ?_ | with_reducible refine s_rai.mpr ?_ | with_reducible refine s_asg.mpr ?_ | with_reducible refine s_put.mpr ?_ | with_reducible refine s_fld.mpr ?_ | with_reducible refine s_ret.mpr ?_ | with_reducible refine s_ret0.mpr ?_ | with_reducible refine s_iff.mpr ?_ | with_reducible refine s_ex.mpr ?_ | with_reducible refine w_con.mpr ?_ | with_reducible refine w_bin.mpr ?_ | with_reducible refine w_cmp.mpr ?_ | with_reducible refine w_sub.mpr ?_ | with_reducible refine w_not.mpr ?_ | with_reducible refine w_and.mpr ?_ | with_reducible refine w_or.mpr ?_ | with_reducible refine w_ite.mpr ?_ | with_reducible refine w_chn.mpr ?_ | with_reducible refine w_tup.mpr ?_ | with_reducible refine w_lst.mpr ?_ | with_reducible refine w_lsh.mpr ?_ | with_reducible refine w_call.mpr ?_ | with_reducible refine w_blt.mpr ?_ | with_reducible refine w_attr.mpr ?_ | with_reducible refine w_dic0.mpr ?_ | with_reducible refine w_dich.mpr ?_ | with_reducible refine w_meth.mpr ?_ | with_reducible refine w_slc.mpr ?_ | with_reducible refine w_ono.mpr ?_ | with_reducible refine w_oyes.mpr ?_ | with_reducible refine w_nil.mpr ?_ | with_reducible refine w_cons.mpr ?_ | with_reducible refine w_star.mpr ?_ | ((with_reducible apply x_loc); first | rfl | assumption) | ((with_reducible refine okO_bind ?_ ?_); exact Nat.le_of_ble_eq_true rfl; dsimp only [List.set]) | with_reducible refine okO_bl ?_ | with_reducible refine okO_some ?_ )
local macro_rules | `(tactic| walk_at "zz") => `(tactic| repeat (first | walk_at "z1" | ((with_reducible refine okO_eqs ?_ ?_ ?_); (first | assumption | decide +kernel); (first | assumption | decide +kernel)) | ((with_reducible refine okO_nes ?_ ?_ ?_); (first | assumption | decide +kernel); (first | assumption | decide +kernel)) | ((with_reducible refine br_t ?_ ?_); first | rfl | assumption) | ((with_reducible refine br_f ?_ ?_); first | rfl | assumption) | ((with_reducible refine okL ?_ ?_); exact Nat.le_of_ble_eq_true rfl) | ((with_reducible apply okO_get); assumption; rfl) | ((with_reducible apply okO_put); assumption; rfl; try dsimp only [Int.reduceToNat, List.set]) | ((with_reducible apply okP_of); rfl) | ((with_reducible apply okO_of); rfl)))
local macro_rules | `(tactic| walk_at "zs") => `(tactic| (first | (with_reducible refine x_rng1 ?_) | (with_reducible refine x_rng2 ?_) | walk_at "z1" | (with_reducible refine okO_get0 ?_) | (with_reducible refine okO_get1 ?_) | (with_reducible refine okO_get2 ?_) | (with_reducible refine okP_tail ?_) | (with_reducible refine okO_eq_nilF ?_) | ((with_reducible refine okO_eqs ?_ ?_ ?_); (first | assumption | decide +kernel); (first | assumption | decide +kernel)) | ((with_reducible refine okO_nes ?_ ?_ ?_); (first | assumption | decide +kernel); (first | assumption | decide +kernel)) | ((with_reducible refine br_t ?_ ?_); first | rfl | assumption) | ((with_reducible refine br_f ?_ ?_); first | rfl | assumption) | ((with_reducible refine okL ?_ ?_); exact Nat.le_of_ble_eq_true rfl) | ((with_reducible apply okO_get); assumption; rfl) | ((with_reducible apply okO_put); assumption; rfl; try dsimp only [Int.reduceToNat, List.set]) | ((with_reducible apply okP_of); rfl) | ((with_reducible apply okO_of); rfl)))
local macro_rules | `(tactic| walk_at "zy") => `(tactic| repeat walk_at "zs")
section
set_option Elab.async false
set_option linter.all false
set_option maxRecDepth 100000
set_option maxHeartbeats 0
namespace Zed
namespace Law
open PySem L2
def top (i : Nat) : Stmt := PySem.Challenge.pw_depthmarks_k17_what_is_an_expression.main.body.getD i (.Pass ⟨0, 0, 0, 0⟩)
def inn (i j : Nat) : Stmt := match top i with
  | .ClassDef _ _ _ b _ _ _ _ _ _ _ => b.getD j (.Pass ⟨0, 0, 0, 0⟩)
  | _ => .Pass ⟨0, 0, 0, 0⟩
def f_wall : Fd := ⟨1, 1, (.cons (.whl (.con (.bl true))
  (.cons .pass
  .nil))
  .nil), true⟩
def f_is_index : Fd := ⟨2, 2, (.cons (.ret (.and (.blt .isinstance (.cons (.loc 0) (.cons (.con (.ty "int")) .nil))) (.and (.not (.blt .isinstance (.cons (.loc 0) (.cons (.con (.ty "bool")) .nil)))) (.chn .le .lt (.con (.int 0)) (.loc 0) (.loc 1)))))
  .nil), true⟩
def f_is_name : Fd := ⟨1, 2, (.cons (.iff (.or (.not (.blt .isinstance (.cons (.loc 0) (.cons (.con (.ty "str")) .nil)))) (.not (.chn .le .le (.con (.int 1)) (.blt .len (.cons (.loc 0) .nil)) (.con (.int 8)))))
  (.cons (.ret (.con (.bl false)))
  .nil)
  .nil)
  (.cons (.ret (.blt .all (.cons (.lc true (.chn .le .le (.con (.str "a")) (.loc 1) (.con (.str "z"))) (.nm 1) (.val (.loc 0)) .no [1]) .nil)))
  .nil)), true⟩
def f_is_row : Fd := ⟨1, 2, (.cons (.ret (.and (.blt .isinstance (.cons (.loc 0) (.cons (.con (.ty "tuple")) .nil))) (.blt .all (.cons (.lc true (.call 1 (.cons (.loc 1) .nil)) (.nm 1) (.val (.loc 0)) .no [1]) .nil))))
  .nil), true⟩
def f_is_way : Fd := ⟨1, 1, (.cons (.ret (.and (.call 2 (.cons (.loc 0) .nil)) (.cmp .ne (.loc 0) (.tup .nil))))
  .nil), true⟩
def f_is_atom : Fd := ⟨1, 1, (.cons (.iff (.cmp .eq (.loc 0) (.tup (.cons (.con (.str "root")) .nil)))
  (.cons (.ret (.con (.bl true)))
  .nil)
  .nil)
  (.cons (.iff (.cmp .eq (.sub (.loc 0) (.con (.int 0))) (.con (.str "label")))
  (.cons (.ret (.and (.cmp .eq (.blt .len (.cons (.loc 0) .nil)) (.con (.int 2))) (.call 1 (.cons (.sub (.loc 0) (.con (.int 1))) .nil))))
  .nil)
  .nil)
  (.cons (.iff (.or (.cmp .ne (.sub (.loc 0) (.con (.int 0))) (.con (.str "level"))) (.or (.cmp .ne (.blt .len (.cons (.loc 0) .nil)) (.con (.int 3))) (.or (.not (.call 3 (.cons (.sub (.loc 0) (.con (.int 2))) (.cons (.bin .add (.con (.int 4)) (.con (.int 1))) .nil)))) (.cmp .lt (.sub (.loc 0) (.con (.int 2))) (.con (.int 2))))))
  (.cons (.ret (.con (.bl false)))
  .nil)
  .nil)
  (.cons (.ret (.call 3 (.cons (.sub (.loc 0) (.con (.int 1))) (.cons (.sub (.loc 0) (.con (.int 2))) .nil))))
  .nil)))), true⟩
def f_is_built : Fd := ⟨2, 2, (.cons (.iff (.or (.not (.blt .isinstance (.cons (.loc 0) (.cons (.con (.ty "tuple")) .nil)))) (.or (.cmp .eq (.loc 0) (.tup .nil)) (.or (.not (.blt .isinstance (.cons (.sub (.loc 0) (.con (.int 0))) (.cons (.con (.ty "str")) .nil)))) (.cmp .eq (.loc 1) (.con (.int 0))))))
  (.cons (.ret (.con (.bl false)))
  .nil)
  .nil)
  (.cons (.iff (.cmp .isin (.sub (.loc 0) (.con (.int 0))) (.con (.tup [(.str "parent"), (.str "above"), (.str "not")])))
  (.cons (.ret (.and (.cmp .eq (.blt .len (.cons (.loc 0) .nil)) (.con (.int 2))) (.call 4 (.cons (.sub (.loc 0) (.con (.int 1))) (.cons (.bin .sub (.loc 1) (.con (.int 1))) .nil)))))
  .nil)
  .nil)
  (.cons (.iff (.cmp .isin (.sub (.loc 0) (.con (.int 0))) (.con (.tup [(.str "and"), (.str "or")])))
  (.cons (.ret (.and (.cmp .eq (.blt .len (.cons (.loc 0) .nil)) (.con (.int 3))) (.and (.call 4 (.cons (.sub (.loc 0) (.con (.int 1))) (.cons (.bin .sub (.loc 1) (.con (.int 1))) .nil))) (.call 4 (.cons (.sub (.loc 0) (.con (.int 2))) (.cons (.bin .sub (.loc 1) (.con (.int 1))) .nil))))))
  .nil)
  .nil)
  (.cons (.ret (.call 5 (.cons (.loc 0) .nil)))
  .nil)))), true⟩
def f_inner_of : Fd := ⟨1, 1, (.cons (.ret (.ite (.or (.cmp .isin (.sub (.loc 0) (.con (.int 0))) (.con (.tup [(.str "parent"), (.str "above"), (.str "not")]))) (.cmp .isin (.sub (.loc 0) (.con (.int 0))) (.con (.tup [(.str "and"), (.str "or")])))) (.slc (.loc 0) (.yes (.con (.int 1))) .no) (.tup .nil)))
  .nil), true⟩
def f_parts_of : Fd := ⟨1, 3, (.cons (.asg (.nm 1) (.lst false .nil))
  (.cons (.for_ (.nm 2) (.val (.call 6 (.cons (.loc 0) .nil)))
  (.cons (.ex (.meth .extend (.loc 1) (.cons (.call 7 (.cons (.loc 2) .nil)) .nil)))
  .nil))
  (.cons (.ret (.lst true (.star (.loc 1) (.cons (.loc 0) .nil))))
  .nil))), true⟩
def f_is_expression : Fd := ⟨1, 1, (.cons (.ret (.and (.call 4 (.cons (.loc 0) (.cons (.con (.int 5)) .nil))) (.cmp .le (.blt .len (.cons (.call 7 (.cons (.loc 0) .nil)) .nil)) (.con (.int 9)))))
  .nil), true⟩
def f_require_expression : Fd := ⟨1, 1, (.cons (.iff (.not (.call 8 (.cons (.loc 0) .nil)))
  (.cons (.rai 31 "an expression is expected")
  .nil)
  .nil)
  .nil), true⟩
def f_level_of : Fd := ⟨1, 1, (.cons (.ret (.bin .add (.bin .mod (.bin .sub (.loc 0) (.con (.int 1))) (.con (.int 12))) (.con (.int 1))))
  .nil), true⟩
def f_holds_at : Fd := ⟨5, 6, (.cons (.asg (.nm 5) (.sub (.loc 0) (.con (.int 0))))
  (.cons (.iff (.cmp .eq (.loc 5) (.con (.str "label")))
  (.cons (.ret (.cmp .eq (.loc 1) (.sub (.loc 0) (.con (.int 1)))))
  .nil)
  .nil)
  (.cons (.iff (.cmp .eq (.loc 5) (.con (.str "root")))
  (.cons (.ret (.cmp .is (.loc 3) (.con .non)))
  .nil)
  .nil)
  (.cons (.iff (.cmp .eq (.loc 5) (.con (.str "level")))
  (.cons (.ret (.cmp .eq (.bin .mod (.loc 2) (.sub (.loc 0) (.con (.int 2)))) (.sub (.loc 0) (.con (.int 1)))))
  .nil)
  .nil)
  (.cons (.iff (.cmp .eq (.loc 5) (.con (.str "parent")))
  (.cons (.ret (.and (.cmp .isnot (.loc 3) (.con .non)) (.sub (.attr (.loc 3) 26) (.sub (.loc 0) (.con (.int 1))))))
  .nil)
  .nil)
  (.cons (.iff (.cmp .eq (.loc 5) (.con (.str "above")))
  (.cons (.ret (.and (.cmp .isnot (.loc 3) (.con .non)) (.or (.sub (.attr (.loc 3) 26) (.loc 0)) (.sub (.attr (.loc 3) 26) (.sub (.loc 0) (.con (.int 1)))))))
  .nil)
  .nil)
  (.cons (.iff (.cmp .eq (.loc 5) (.con (.str "not")))
  (.cons (.ret (.not (.sub (.loc 4) (.sub (.loc 0) (.con (.int 1))))))
  .nil)
  .nil)
  (.cons (.iff (.cmp .eq (.loc 5) (.con (.str "and")))
  (.cons (.ret (.and (.sub (.loc 4) (.sub (.loc 0) (.con (.int 1)))) (.sub (.loc 4) (.sub (.loc 0) (.con (.int 2))))))
  .nil)
  .nil)
  (.cons (.ret (.or (.sub (.loc 4) (.sub (.loc 0) (.con (.int 1)))) (.sub (.loc 4) (.sub (.loc 0) (.con (.int 2))))))
  .nil))))))))), true⟩
def f_node_below : Fd := ⟨3, 6, (.cons (.asg (.nm 3) (.ite (.cmp .is (.loc 1) (.con .non)) (.con (.int 1)) (.call 9 (.cons (.bin .add (.attr (.loc 1) 27) (.con (.int 1))) .nil))))
  (.cons (.asg (.nm 4) (.dic0 false))
  (.cons (.for_ (.nm 5) (.val (.loc 0))
  (.cons (.put (.loc 4) (.loc 5) (.call 28 (.cons (.loc 5) (.cons (.loc 2) (.cons (.loc 3) (.cons (.loc 1) (.cons (.loc 4) .nil)))))))
  .nil))
  (.cons (.ret (.make 29 30 (.cons (.loc 3) (.cons (.loc 4) .nil))))
  .nil)))), true⟩
def f_holds : Fd := ⟨2, 5, (.cons (.ex (.call 10 (.cons (.loc 0) .nil)))
  (.cons (.iff (.not (.call 11 (.cons (.loc 1) .nil)))
  (.cons (.rai 31 "a way is expected")
  .nil)
  .nil)
  (.cons (.asg (.tp (.cons (.nm 3) (.cons (.nm 4) .nil))) (.tup (.cons (.call 7 (.cons (.loc 0) .nil)) (.cons (.con .non) .nil))))
  (.cons (.for_ (.nm 2) (.val (.loc 1))
  (.cons (.asg (.nm 4) (.call 12 (.cons (.loc 3) (.cons (.loc 4) (.cons (.loc 2) .nil)))))
  .nil))
  (.cons (.ret (.sub (.attr (.loc 4) 26) (.loc 0)))
  .nil))))), true⟩
def f_law_dice : Fd := ⟨2, 6, (.cons (.asg (.nm 2) (.bin .add (.bin .mul (.con (.int 59)) (.loc 1)) (.con (.int 23))))
  (.cons (.iff (.cmp .lt (.loc 1) (.blt .len (.cons (.loc 0) .nil)))
  (.cons (.asg (.nm 2) (.sub (.loc 0) (.loc 1)))
  .nil)
  .nil)
  (.cons (.asg (.nm 3) (.bin .mod (.blt .int (.cons (.blt .abs (.cons (.loc 2) .nil)) .nil)) (.bin .pow (.bin .pow (.con (.int 10)) (.con (.int 60))) (.con (.int 10)))))
  (.cons (.asg (.nm 4) (.bin .fdiv (.loc 3) (.bin .pow (.con (.int 10)) (.con (.int 18)))))
  (.cons (.asg (.nm 5) (.bin .add (.bin .add (.bin .add (.bin .mul (.bin .mod (.loc 3) (.con (.int 2147483409))) (.con (.int 50053))) (.bin .mul (.con (.int 2801)) (.loc 1))) (.bin .mul (.con (.int 41)) (.blt .int (.cons (.cmp .lt (.loc 2) (.con (.int 0))) .nil)))) (.con (.int 67))))
  (.cons (.ret (.lst false (.cons (.loc 4) (.cons (.bin .mod (.loc 5) (.con (.int 2147483399))) (.cons (.con (.int 0)) .nil)))))
  .nil)))))), false⟩
def f_law_roll : Fd := ⟨2, 6, (.cons (.asg (.nm 2) (.blt .int (.cons (.loc 1) .nil)))
  (.cons (.iff (.cmp .gt (.sub (.loc 0) (.con (.int 0))) (.con (.int 0)))
  (.cons (.asg (.nm 5) (.bin .mod (.sub (.loc 0) (.con (.int 0))) (.loc 2)))
  (.cons (.put (.loc 0) (.con (.int 0)) (.bin .fdiv (.sub (.loc 0) (.con (.int 0))) (.loc 2)))
  (.cons (.ret (.blt .int (.cons (.loc 5) .nil)))
  .nil)))
  .nil)
  (.cons (.put (.loc 0) (.con (.int 2)) (.bin .add (.sub (.loc 0) (.con (.int 2))) (.con (.int 1))))
  (.cons (.asg (.nm 3) (.bin .mod (.bin .add (.sub (.loc 0) (.con (.int 1))) (.bin .mul (.con (.int 1000117)) (.sub (.loc 0) (.con (.int 2))))) (.con (.int 2305843009213693951))))
  (.cons (.asg (.nm 4) (.bin .add (.bin .mul (.bin .mod (.bin .mul (.loc 3) (.loc 3)) (.con (.int 2305843009213693921))) (.loc 3)) (.bin .mul (.con (.int 9421)) (.sub (.loc 0) (.con (.int 2))))))
  (.cons (.asg (.nm 4) (.bin .mod (.loc 4) (.con (.int 2305843009213693907))))
  (.cons (.ret (.blt .int (.cons (.bin .mod (.bin .fdiv (.loc 4) (.con (.int 4096))) (.loc 2)) .nil)))
  .nil))))))), true⟩
def f_law_one_of : Fd := ⟨2, 2, (.cons (.ret (.sub (.loc 1) (.call 13 (.cons (.loc 0) (.cons (.blt .len (.cons (.loc 1) .nil)) .nil)))))
  .nil), true⟩
def f_law_expression : Fd := ⟨3, 7, (.cons (.put (.loc 2) (.con (.int 0)) (.bin .sub (.sub (.loc 2) (.con (.int 0))) (.con (.int 1))))
  (.cons (.asg (.nm 3) (.call 13 (.cons (.loc 0) (.cons (.con (.int 9)) .nil))))
  (.cons (.iff (.or (.cmp .lt (.loc 1) (.con (.int 2))) (.or (.cmp .lt (.sub (.loc 2) (.con (.int 0))) (.con (.int 1))) (.cmp .lt (.loc 3) (.con (.int 2)))))
  (.cons (.asg (.nm 5) (.lst false (.cons (.tup (.cons (.con (.str "label")) (.cons (.call 14 (.cons (.loc 0) (.cons (.lst true (.cons (.con (.str "a")) (.cons (.con (.str "b")) (.cons (.con (.str "node")) (.cons (.con (.str "zz")) .nil))))) .nil))) .nil))) (.cons (.tup (.cons (.con (.str "root")) .nil)) .nil))))
  (.cons (.asg (.nm 6) (.bin .add (.con (.int 2)) (.call 13 (.cons (.loc 0) (.cons (.con (.int 3)) .nil)))))
  (.cons (.ex (.meth .append (.loc 5) (.cons (.tup (.cons (.con (.str "level")) (.cons (.call 13 (.cons (.loc 0) (.cons (.loc 6) .nil))) (.cons (.loc 6) .nil)))) .nil)))
  (.cons (.ret (.call 14 (.cons (.loc 0) (.cons (.bin .add (.loc 5) (.slc (.loc 5) .no (.yes (.con (.int 1))))) .nil))))
  .nil))))
  .nil)
  (.cons (.iff (.or (.cmp .lt (.loc 3) (.con (.int 6))) (.cmp .lt (.sub (.loc 2) (.con (.int 0))) (.con (.int 2))))
  (.cons (.ret (.tup (.cons (.call 14 (.cons (.loc 0) (.cons (.lst true (.cons (.con (.str "parent")) (.cons (.con (.str "above")) (.cons (.con (.str "not")) .nil)))) .nil))) (.cons (.call 15 (.cons (.loc 0) (.cons (.bin .sub (.loc 1) (.con (.int 1))) (.cons (.loc 2) .nil)))) .nil))))
  .nil)
  .nil)
  (.cons (.put (.loc 2) (.con (.int 0)) (.bin .sub (.sub (.loc 2) (.con (.int 0))) (.con (.int 1))))
  (.cons (.asg (.nm 4) (.call 15 (.cons (.loc 0) (.cons (.bin .sub (.loc 1) (.con (.int 1))) (.cons (.loc 2) .nil)))))
  (.cons (.put (.loc 2) (.con (.int 0)) (.bin .add (.sub (.loc 2) (.con (.int 0))) (.con (.int 1))))
  (.cons (.ret (.tup (.cons (.call 14 (.cons (.loc 0) (.cons (.lst true (.cons (.con (.str "and")) (.cons (.con (.str "or")) .nil))) .nil))) (.cons (.loc 4) (.cons (.call 15 (.cons (.loc 0) (.cons (.bin .sub (.loc 1) (.con (.int 1))) (.cons (.loc 2) .nil)))) .nil)))))
  .nil)))))))), true⟩
def f_law_parts : Fd := ⟨1, 3, (.cons (.asg (.nm 1) (.lst false (.cons (.loc 0) .nil)))
  (.cons (.for_ (.nm 2) (.val (.slc (.loc 0) (.yes (.con (.int 1))) .no))
  (.cons (.iff (.blt .isinstance (.cons (.loc 2) (.cons (.con (.ty "tuple")) .nil)))
  (.cons (.ex (.meth .extend (.loc 1) (.cons (.call 17 (.cons (.loc 2) .nil)) .nil)))
  .nil)
  .nil)
  .nil))
  (.cons (.ret (.loc 1))
  .nil))), true⟩
def f_law_is_label : Fd := ⟨1, 2, (.cons (.iff (.or (.not (.blt .isinstance (.cons (.loc 0) (.cons (.con (.ty "str")) .nil)))) (.not (.chn .lt .lt (.con (.int 0)) (.blt .len (.cons (.loc 0) .nil)) (.con (.int 9)))))
  (.cons (.ret (.con (.bl false)))
  .nil)
  .nil)
  (.cons (.ret (.cmp .eq (.lc true (.loc 1) (.nm 1) (.val (.loc 0)) (.yes (.not (.chn .le .le (.con (.str "a")) (.loc 1) (.con (.str "z"))))) [1]) (.lst true .nil)))
  .nil)), true⟩
def f_law_is_number : Fd := ⟨3, 3, (.cons (.ret (.and (.blt .isinstance (.cons (.loc 0) (.cons (.con (.ty "int")) .nil))) (.and (.not (.blt .isinstance (.cons (.loc 0) (.cons (.con (.ty "bool")) .nil)))) (.chn .le .le (.loc 1) (.loc 0) (.loc 2)))))
  .nil), true⟩
def f_law_is_nested : Fd := ⟨2, 5, (.cons (.iff (.or (.cmp .eq (.loc 1) (.con (.int 0))) (.or (.not (.blt .isinstance (.cons (.loc 0) (.cons (.con (.ty "tuple")) .nil)))) (.cmp .eq (.loc 0) (.tup .nil))))
  (.cons (.ret (.con (.bl false)))
  .nil)
  .nil)
  (.cons (.asg (.tp (.cons (.nm 2) (.cons (.nm 3) .nil))) (.tup (.cons (.sub (.loc 0) (.con (.int 0))) (.cons (.slc (.loc 0) (.yes (.con (.int 1))) .no) .nil))))
  (.cons (.iff (.not (.blt .isinstance (.cons (.loc 2) (.cons (.con (.ty "str")) .nil))))
  (.cons (.ret (.con (.bl false)))
  .nil)
  .nil)
  (.cons (.iff (.cmp .isin (.loc 2) (.tup (.cons (.con (.str "parent")) (.cons (.con (.str "above")) (.cons (.con (.str "not")) .nil)))))
  (.cons (.ret (.and (.cmp .eq (.blt .len (.cons (.loc 3) .nil)) (.con (.int 1))) (.call 32 (.cons (.sub (.loc 3) (.con (.int 0))) (.cons (.bin .sub (.loc 1) (.con (.int 1))) .nil)))))
  .nil)
  .nil)
  (.cons (.iff (.cmp .isin (.loc 2) (.tup (.cons (.con (.str "and")) (.cons (.con (.str "or")) .nil))))
  (.cons (.ret (.and (.cmp .eq (.blt .len (.cons (.loc 3) .nil)) (.con (.int 2))) (.cmp .eq (.lc true (.loc 4) (.nm 4) (.val (.loc 3)) (.yes (.not (.call 32 (.cons (.loc 4) (.cons (.bin .sub (.loc 1) (.con (.int 1))) .nil))))) [4]) (.lst true .nil))))
  .nil)
  .nil)
  (.cons (.iff (.cmp .eq (.loc 2) (.con (.str "label")))
  (.cons (.ret (.and (.cmp .eq (.blt .len (.cons (.loc 3) .nil)) (.con (.int 1))) (.call 33 (.cons (.sub (.loc 3) (.con (.int 0))) .nil))))
  .nil)
  .nil)
  (.cons (.iff (.cmp .eq (.loc 2) (.con (.str "level")))
  (.cons (.ret (.and (.cmp .eq (.blt .len (.cons (.loc 3) .nil)) (.con (.int 2))) (.and (.call 34 (.cons (.sub (.loc 3) (.con (.int 1))) (.cons (.con (.int 2)) (.cons (.con (.int 4)) .nil)))) (.call 34 (.cons (.sub (.loc 3) (.con (.int 0))) (.cons (.con (.int 0)) (.cons (.bin .sub (.sub (.loc 3) (.con (.int 1))) (.con (.int 1))) .nil)))))))
  .nil)
  .nil)
  (.cons (.ret (.cmp .eq (.loc 0) (.tup (.cons (.con (.str "root")) .nil))))
  .nil)))))))), true⟩
def f_law_due : Fd := ⟨1, 1, (.cons (.ret (.and (.call 32 (.cons (.loc 0) (.cons (.con (.int 5)) .nil))) (.cmp .lt (.blt .len (.cons (.call 17 (.cons (.loc 0) .nil)) .nil)) (.con (.int 10)))))
  .nil), true⟩
def f_law_spoilt : Fd := ⟨2, 5, (.cons (.asg (.nm 2) (.lst false (.cons (.con .non) (.cons (.con (.int 0)) (.cons (.con (.bl true)) (.cons (.con (.str "")) (.cons (.con (.str "A")) (.cons (.con (.str "label")) (.cons (.con (.str "root")) (.cons (.con (.str "and")) (.cons (.tup .nil) (.cons (.lst true .nil) (.cons (.dic0 true) (.cons (.tup (.cons (.con (.str "root")) .nil)) (.cons (.con (.int 4)) (.cons (.neg (.con (.int 1))) (.cons (.con (.str "abcdefghi")) (.cons (.con (.str "a")) .nil))))))))))))))))))
  (.cons (.ex (.meth .append (.loc 2) (.cons (.tup (.cons (.con (.str "label")) (.cons (.con (.str "a")) .nil))) .nil)))
  (.cons (.iff (.or (.not (.blt .isinstance (.cons (.loc 1) (.cons (.con (.ty "tuple")) .nil)))) (.or (.cmp .eq (.loc 1) (.tup .nil)) (.cmp .eq (.call 13 (.cons (.loc 0) (.cons (.con (.int 6)) .nil))) (.con (.int 0)))))
  (.cons (.ret (.call 14 (.cons (.loc 0) (.cons (.loc 2) .nil))))
  .nil)
  .nil)
  (.cons (.asg (.tp (.cons (.nm 3) (.cons (.nm 4) .nil))) (.tup (.cons (.call 13 (.cons (.loc 0) (.cons (.blt .len (.cons (.loc 1) .nil)) .nil))) (.cons (.call 13 (.cons (.loc 0) (.cons (.con (.int 6)) .nil))) .nil))))
  (.cons (.iff (.cmp .eq (.loc 4) (.con (.int 0)))
  (.cons (.ret (.bin .add (.slc (.loc 1) .no (.yes (.loc 3))) (.slc (.loc 1) (.yes (.bin .add (.loc 3) (.con (.int 1)))) .no)))
  .nil)
  .nil)
  (.cons (.iff (.cmp .eq (.loc 4) (.con (.int 1)))
  (.cons (.ret (.bin .add (.bin .add (.slc (.loc 1) .no (.yes (.loc 3))) (.tup (.cons (.call 14 (.cons (.loc 0) (.cons (.loc 2) .nil))) .nil))) (.slc (.loc 1) (.yes (.loc 3)) .no)))
  .nil)
  .nil)
  (.cons (.iff (.cmp .eq (.loc 4) (.con (.int 2)))
  (.cons (.ret (.blt .list (.cons (.loc 1) .nil)))
  .nil)
  .nil)
  (.cons (.iff (.cmp .eq (.loc 4) (.con (.int 3)))
  (.cons (.ret (.tup (.cons (.call 14 (.cons (.loc 0) (.cons (.lst true (.cons (.con (.str "not")) (.cons (.con (.str "above")) (.cons (.con (.str "or")) (.cons (.con (.str "level")) .nil))))) .nil))) (.cons (.loc 1) .nil))))
  .nil)
  .nil)
  (.cons (.ret (.bin .add (.bin .add (.slc (.loc 1) .no (.yes (.loc 3))) (.tup (.cons (.call 35 (.cons (.loc 0) (.cons (.sub (.loc 1) (.loc 3)) .nil))) .nil))) (.slc (.loc 1) (.yes (.bin .add (.loc 3) (.con (.int 1)))) .no)))
  .nil))))))))), true⟩
def f_law_judged : Fd := ⟨1, 3, (.cons (.asg (.nm 1) (.call 36 (.cons (.loc 0) .nil)))
  (.cons (.asg (.nm 2) (.lst true (.cons (.call 8 (.cons (.loc 0) .nil)) (.cons (.met 37 (.call 21 (.cons (.loc 0) (.cons (.tup (.cons (.con (.str "a")) (.cons (.con (.str "b")) .nil))) .nil)))) .nil))))
  (.cons (.ret (.cmp .eq (.blt .reprc (.cons (.loc 2) .nil)) (.blt .reprc (.cons (.lst true (.cons (.loc 1) (.cons (.ite (.loc 1) (.con (.str "fine")) (.con (.str "operation"))) .nil))) .nil))))
  .nil))), true⟩
def f_law_right : Fd := ⟨1, 4, (.cons (.asg (.nm 1) (.call 15 (.cons (.loc 0) (.cons (.con (.int 5)) (.cons (.lst false (.cons (.con (.int 9)) .nil)) .nil)))))
  (.cons (.iff (.or (.not (.call 38 (.cons (.loc 1) .nil))) (.not (.call 36 (.cons (.loc 1) .nil))))
  (.cons (.ret (.con (.bl false)))
  .nil)
  .nil)
  (.cons (.for_ (.nm 2) (.rng1 (.con (.int 12)))
  (.cons (.asg (.nm 3) (.call 35 (.cons (.loc 0) (.cons (.loc 1) .nil))))
  (.cons (.iff (.cmp .eq (.call 13 (.cons (.loc 0) (.cons (.con (.int 3)) .nil))) (.con (.int 0)))
  (.cons (.asg (.nm 3) (.call 35 (.cons (.loc 0) (.cons (.loc 3) .nil))))
  .nil)
  .nil)
  (.cons (.iff (.not (.call 38 (.cons (.loc 3) .nil)))
  (.cons (.ret (.con (.bl false)))
  .nil)
  .nil)
  .nil))))
  (.cons (.ret (.con (.bl true)))
  .nil)))), true⟩
def f_law : Fd := ⟨1, 10, (.cons (.for_ (.nm 1) (.rng1 (.blt .max (.cons (.con (.int 1)) (.cons (.blt .min (.cons (.con (.int 8)) (.cons (.blt .len (.cons (.loc 0) .nil)) .nil))) .nil))))
  (.cons (.asg (.nm 6) (.call 22 (.cons (.loc 0) (.cons (.loc 1) .nil))))
  (.cons (.for_ (.nm 7) (.rng1 (.con (.int 2)))
  (.cons (.iff (.not (.call 23 (.cons (.loc 6) .nil)))
  (.cons (.ret (.con (.bl false)))
  .nil)
  .nil)
  .nil))
  .nil)))
  (.cons (.asg (.nm 2) (.tup (.cons (.con (.str "root")) .nil)))
  (.cons (.asg (.nm 3) (.tup (.cons (.con (.str "and")) (.cons (.loc 2) (.cons (.loc 2) .nil)))))
  (.cons (.asg (.tp (.cons (.nm 8) (.cons (.nm 9) .nil))) (.tup (.cons (.tup (.cons (.con (.str "not")) (.cons (.tup (.cons (.con (.str "not")) (.cons (.tup (.cons (.con (.str "not")) (.cons (.tup (.cons (.con (.str "not")) (.cons (.loc 2) .nil))) .nil))) .nil))) .nil))) (.cons (.tup (.cons (.con (.str "or")) (.cons (.tup (.cons (.con (.str "or")) (.cons (.loc 3) (.cons (.loc 3) .nil)))) (.cons (.loc 2) .nil)))) .nil))))
  (.cons (.asg (.nm 4) (.lst true (.cons (.call 8 (.cons (.loc 8) .nil)) (.cons (.call 8 (.cons (.tup (.cons (.con (.str "not")) (.cons (.loc 8) .nil))) .nil)) (.cons (.call 8 (.cons (.loc 9) .nil)) (.cons (.call 8 (.cons (.tup (.cons (.con (.str "not")) (.cons (.loc 9) .nil))) .nil)) .nil))))))
  (.cons (.asg (.nm 4) (.bin .add (.loc 4) (.lst true (.cons (.call 8 (.cons (.tup (.cons (.con (.str "level")) (.cons (.con (.int 3)) (.cons (.con (.int 4)) .nil)))) .nil)) (.cons (.call 8 (.cons (.tup (.cons (.con (.str "level")) (.cons (.con (.int 0)) (.cons (.con (.int 5)) .nil)))) .nil)) (.cons (.call 8 (.cons (.tup (.cons (.con (.str "level")) (.cons (.con (.bl true)) (.cons (.con (.int 2)) .nil)))) .nil)) .nil))))))
  (.cons (.asg (.nm 4) (.bin .add (.loc 4) (.lst true (.cons (.call 8 (.cons (.tup (.cons (.con (.str "level")) (.cons (.con (.int 2)) (.cons (.con (.int 2)) .nil)))) .nil)) (.cons (.call 8 (.cons (.tup (.cons (.con (.str "label")) (.cons (.con (.str "level")) .nil))) .nil)) (.cons (.call 8 (.cons (.lst true (.cons (.loc 2) .nil)) .nil)) .nil))))))
  (.cons (.asg (.nm 5) (.lst true (.cons (.con (.bl true)) (.cons (.con (.bl false)) (.cons (.con (.bl true)) (.cons (.con (.bl false)) (.cons (.con (.bl true)) (.cons (.con (.bl false)) (.cons (.con (.bl false)) (.cons (.con (.bl false)) (.cons (.con (.bl true)) (.cons (.con (.bl false)) .nil))))))))))))
  (.cons (.ret (.and (.cmp .eq (.loc 4) (.loc 5)) (.cmp .eq (.lst true (.cons (.con (.int 5)) (.cons (.con (.int 9)) .nil))) (.lst true (.cons (.con (.int 5)) (.cons (.con (.int 9)) .nil))))))
  .nil))))))))), true⟩
def f_Node___init__ : Fd := ⟨3, 3, (.cons (.fld (.loc 0) 27 (.loc 1))
  (.cons (.fld (.loc 0) 26 (.loc 2))
  .nil)), false⟩
def r_wall : Row := ⟨24, ("_wall", none), "_wall", "_wall", ["k"], f_wall, ["k"], top 0⟩
def r_is_index : Row := ⟨3, ("is_index", none), "is_index", "is_index", ["value", "total"], f_is_index, ["value", "total"], top 15⟩
def r_is_name : Row := ⟨1, ("is_name", none), "is_name", "is_name", ["value"], f_is_name, ["value", "letter"], top 16⟩
def r_is_row : Row := ⟨2, ("is_row", none), "is_row", "is_row", ["value"], f_is_row, ["value", "name"], top 17⟩
def r_is_way : Row := ⟨11, ("is_way", none), "is_way", "is_way", ["value"], f_is_way, ["value"], top 18⟩
def r_is_atom : Row := ⟨5, ("is_atom", none), "is_atom", "is_atom", ["value"], f_is_atom, ["value"], top 25⟩
def r_is_built : Row := ⟨4, ("is_built", none), "is_built", "is_built", ["value", "nested"], f_is_built, ["value", "nested"], top 26⟩
def r_inner_of : Row := ⟨6, ("inner_of", none), "inner_of", "inner_of", ["expression"], f_inner_of, ["expression"], top 27⟩
def r_parts_of : Row := ⟨7, ("parts_of", none), "parts_of", "parts_of", ["expression"], f_parts_of, ["expression", "found", "inner"], top 28⟩
def r_is_expression : Row := ⟨8, ("is_expression", none), "is_expression", "is_expression", ["value"], f_is_expression, ["value"], top 29⟩
def r_require_expression : Row := ⟨10, ("require_expression", none), "require_expression", "require_expression", ["value"], f_require_expression, ["value"], top 30⟩
def r_level_of : Row := ⟨9, ("level_of", none), "level_of", "level_of", ["depth"], f_level_of, ["depth"], top 32⟩
def r_holds_at : Row := ⟨28, ("holds_at", none), "holds_at", "holds_at", ["part", "label", "depth", "above", "held"], f_holds_at, ["part", "label", "depth", "above", "held", "word"], top 33⟩
def r_node_below : Row := ⟨12, ("node_below", none), "node_below", "node_below", ["parts", "above", "label"], f_node_below, ["parts", "above", "label", "depth", "held", "part"], top 34⟩
def r_holds : Row := ⟨21, ("holds", none), "holds", "holds", ["expression", "way"], f_holds, ["expression", "way", "label", "parts", "node"], top 35⟩
def r_law_dice : Row := ⟨22, ("_law_dice", none), "_law_dice", "_law_dice", ["_law_script", "_law_at"], f_law_dice, ["_law_script", "_law_at", "_law_cell", "_law_great", "_law_left", "_law_mixed"], top 37⟩
def r_law_roll : Row := ⟨13, ("_law_roll", none), "_law_roll", "_law_roll", ["_law_dice_here", "_law_total"], f_law_roll, ["_law_dice_here", "_law_total", "_law_number", "_law_one", "_law_two", "_law_drawn"], top 38⟩
def r_law_one_of : Row := ⟨14, ("_law_one_of", none), "_law_one_of", "_law_one_of", ["_law_dice_here", "_law_items"], f_law_one_of, ["_law_dice_here", "_law_items"], top 39⟩
def r_law_expression : Row := ⟨15, ("_law_expression", none), "_law_expression", "_law_expression", ["_law_dice_here", "_law_deep", "_law_room"], f_law_expression, ["_law_dice_here", "_law_deep", "_law_room", "_law_way", "_law_one", "_law_some", "_law_most"], top 41⟩
def r_law_parts : Row := ⟨17, ("_law_parts", none), "_law_parts", "_law_parts", ["_law_expression_here"], f_law_parts, ["_law_expression_here", "_law_found", "_law_one"], top 42⟩
def r_law_is_label : Row := ⟨33, ("_law_is_label", none), "_law_is_label", "_law_is_label", ["_law_thing"], f_law_is_label, ["_law_thing", "_law_sign"], top 43⟩
def r_law_is_number : Row := ⟨34, ("_law_is_number", none), "_law_is_number", "_law_is_number", ["_law_thing", "_law_low", "_law_high"], f_law_is_number, ["_law_thing", "_law_low", "_law_high"], top 44⟩
def r_law_is_nested : Row := ⟨32, ("_law_is_nested", none), "_law_is_nested", "_law_is_nested", ["_law_thing", "_law_deep"], f_law_is_nested, ["_law_thing", "_law_deep", "_law_word", "_law_rest", "_law_one"], top 45⟩
def r_law_due : Row := ⟨36, ("_law_due", none), "_law_due", "_law_due", ["_law_thing"], f_law_due, ["_law_thing"], top 46⟩
def r_law_spoilt : Row := ⟨35, ("_law_spoilt", none), "_law_spoilt", "_law_spoilt", ["_law_dice_here", "_law_thing"], f_law_spoilt, ["_law_dice_here", "_law_thing", "_law_odd", "_law_at", "_law_way"], top 47⟩
def r_law_judged : Row := ⟨38, ("_law_judged", none), "_law_judged", "_law_judged", ["_law_thing"], f_law_judged, ["_law_thing", "_law_due_here", "_law_told"], top 48⟩
def r_law_right : Row := ⟨23, ("_law_right", none), "_law_right", "_law_right", ["_law_dice_here"], f_law_right, ["_law_dice_here", "_law_thing", "_law_turn", "_law_other"], top 49⟩
def r_law : Row := ⟨25, ("law", none), "law", "law", ["_law_script"], f_law, ["_law_script", "_law_at", "_law_root", "_law_pair", "_law_told", "_law_due_here", "_law_dice_here", "_law_turn", "_law_four", "_law_wide"], top 50⟩
def r_Node___init__ : Row := ⟨30, ("Node", some "__init__"), "__init__", "Node.__init__", ["self", "depth", "held"], f_Node___init__, ["self", "depth", "held"], inn 31 1⟩
def rows : List Row := ([r_wall, r_is_index, r_is_name, r_is_row, r_is_way, r_is_atom, r_is_built, r_inner_of, r_parts_of, r_is_expression, r_require_expression, r_level_of, r_holds_at, r_node_below, r_holds, r_law_dice, r_law_roll, r_law_one_of, r_law_expression, r_law_parts] : List Row) ++ ([r_law_is_label, r_law_is_number, r_law_is_nested, r_law_due, r_law_spoilt, r_law_judged, r_law_right, r_law, r_Node___init__] : List Row)
def crs : List CRow := [⟨29, "Node", some 30, true, [(27, 0), (26, 1)], []⟩]
def nms : List (Nat × Str) := ([(39, "InvalidDocument"), (31, "InvalidOperation"), (40, "InvalidQuestion"), (41, "InvalidReader"), (29, "Node"), (30, "Node.__init__"), (22, "_law_dice"), (36, "_law_due"), (15, "_law_expression"), (33, "_law_is_label"), (32, "_law_is_nested"), (34, "_law_is_number"), (38, "_law_judged"), (37, "_law_met"), (14, "_law_one_of"), (17, "_law_parts"), (23, "_law_right"), (13, "_law_roll"), (35, "_law_spoilt"), (24, "_wall")] : List (Nat × Str)) ++ ([(21, "holds"), (28, "holds_at"), (6, "inner_of"), (5, "is_atom"), (4, "is_built"), (8, "is_expression"), (3, "is_index"), (1, "is_name"), (2, "is_row"), (11, "is_way"), (25, "law"), (9, "level_of"), (12, "node_below"), (27, "own_depth"), (26, "own_held"), (7, "parts_of"), (10, "require_expression")] : List (Nat × Str))
def cst : List (Str × PV) := [("MAX_LETTERS", (.int 8)), ("MAX_NESTED", (.int 5)), ("MAX_PARTS", (.int 9)), ("MOST_LEVEL", (.int 4)), ("ONE", (.tup [(.str "parent"), (.str "above"), (.str "not")])), ("TWO", (.tup [(.str "and"), (.str "or")]))]
def blts : List Str := ["abs", "all", "bool", "int", "isinstance", "len", "list", "max", "min", "range", "repr", "str", "tuple"]
def m_law_met : MRow := ⟨37, "_law_call", ["_law_call", "e"], top 40, [(39, "document"), (40, "question"), (41, "reader"), (31, "operation")], "fine"⟩
def tx : Tx := ⟨nms, rows, crs, cst, blts, [(39, false), (31, true), (40, false), (41, false)], [(31, 39, false), (31, 31, true), (31, 40, false), (31, 41, false)], [m_law_met], [38, 23, 25], [38]⟩
theorem rows_ok : tx.rows.all (rowB (sgOf tx) tx.crs) = true := by decide +kernel
theorem crs_ok : tx.crs.all (crB (sgOf tx)) = true := by decide +kernel
theorem exb_ok : exB tx = true := by decide +kernel
theorem mts_ok : mtB tx = true := by decide +kernel
theorem bm_law_met : BindMk tx m_law_met := fun _ _ _ _ _ _ us hl => match us, hl with | [_], _ => rfl
theorem bindm_ok : BindsM tx tx.mets := ⟨bm_law_met, trivial⟩
theorem b_wall : BindOk r_wall := fun _ _ _ _ _ _ us hl => match us, hl with | [_], _ => rfl
theorem b_is_index : BindOk r_is_index := fun _ _ _ _ _ _ us hl => match us, hl with | [_, _], _ => rfl
theorem b_is_name : BindOk r_is_name := fun _ _ _ _ _ _ us hl => match us, hl with | [_], _ => rfl
theorem b_is_row : BindOk r_is_row := fun _ _ _ _ _ _ us hl => match us, hl with | [_], _ => rfl
theorem b_is_way : BindOk r_is_way := fun _ _ _ _ _ _ us hl => match us, hl with | [_], _ => rfl
theorem b_is_atom : BindOk r_is_atom := fun _ _ _ _ _ _ us hl => match us, hl with | [_], _ => rfl
theorem b_is_built : BindOk r_is_built := fun _ _ _ _ _ _ us hl => match us, hl with | [_, _], _ => rfl
theorem b_inner_of : BindOk r_inner_of := fun _ _ _ _ _ _ us hl => match us, hl with | [_], _ => rfl
theorem b_parts_of : BindOk r_parts_of := fun _ _ _ _ _ _ us hl => match us, hl with | [_], _ => rfl
theorem b_is_expression : BindOk r_is_expression := fun _ _ _ _ _ _ us hl => match us, hl with | [_], _ => rfl
theorem b_require_expression : BindOk r_require_expression := fun _ _ _ _ _ _ us hl => match us, hl with | [_], _ => rfl
theorem b_level_of : BindOk r_level_of := fun _ _ _ _ _ _ us hl => match us, hl with | [_], _ => rfl
theorem b_holds_at : BindOk r_holds_at := fun _ _ _ _ _ _ us hl => match us, hl with | [_, _, _, _, _], _ => rfl
theorem b_node_below : BindOk r_node_below := fun _ _ _ _ _ _ us hl => match us, hl with | [_, _, _], _ => rfl
theorem b_holds : BindOk r_holds := fun _ _ _ _ _ _ us hl => match us, hl with | [_, _], _ => rfl
theorem b_law_dice : BindOk r_law_dice := fun _ _ _ _ _ _ us hl => match us, hl with | [_, _], _ => rfl
theorem b_law_roll : BindOk r_law_roll := fun _ _ _ _ _ _ us hl => match us, hl with | [_, _], _ => rfl
theorem b_law_one_of : BindOk r_law_one_of := fun _ _ _ _ _ _ us hl => match us, hl with | [_, _], _ => rfl
theorem b_law_expression : BindOk r_law_expression := fun _ _ _ _ _ _ us hl => match us, hl with | [_, _, _], _ => rfl
theorem b_law_parts : BindOk r_law_parts := fun _ _ _ _ _ _ us hl => match us, hl with | [_], _ => rfl
theorem b_law_is_label : BindOk r_law_is_label := fun _ _ _ _ _ _ us hl => match us, hl with | [_], _ => rfl
theorem b_law_is_number : BindOk r_law_is_number := fun _ _ _ _ _ _ us hl => match us, hl with | [_, _, _], _ => rfl
theorem b_law_is_nested : BindOk r_law_is_nested := fun _ _ _ _ _ _ us hl => match us, hl with | [_, _], _ => rfl
theorem b_law_due : BindOk r_law_due := fun _ _ _ _ _ _ us hl => match us, hl with | [_], _ => rfl
theorem b_law_spoilt : BindOk r_law_spoilt := fun _ _ _ _ _ _ us hl => match us, hl with | [_, _], _ => rfl
theorem b_law_judged : BindOk r_law_judged := fun _ _ _ _ _ _ us hl => match us, hl with | [_], _ => rfl
theorem b_law_right : BindOk r_law_right := fun _ _ _ _ _ _ us hl => match us, hl with | [_], _ => rfl
theorem b_law : BindOk r_law := fun _ _ _ _ _ _ us hl => match us, hl with | [_], _ => rfl
theorem b_Node___init__ : BindOk r_Node___init__ := fun _ _ _ _ _ _ us hl => match us, hl with | [_, _, _], _ => rfl
theorem binds_ok : BindsAll tx.rows := ⟨b_wall, b_is_index, b_is_name, b_is_row, b_is_way, b_is_atom, b_is_built, b_inner_of, b_parts_of, b_is_expression, b_require_expression, b_level_of, b_holds_at, b_node_below, b_holds, b_law_dice, b_law_roll, b_law_one_of, b_law_expression, b_law_parts, b_law_is_label, b_law_is_number, b_law_is_nested, b_law_due, b_law_spoilt, b_law_judged, b_law_right, b_law, b_Node___init__, trivial⟩
abbrev R : PySem.W.OpenRow := PySem.W.OpenLaw.row PySem.Challenge.rw_depthmarks_k17_what_is_an_expression
def names : List Str := (["_wall", "__name__", "AskError", "InvalidDocument", "InvalidQuestion", "InvalidReader", "InvalidOperation", "ParseError", "UnknownName", "InvalidNumber", "TooMany", "NothingToUndo", "Refused", "MAX_LETTERS", "is_index", "is_name", "is_row", "is_way", "MAX_PARTS", "MAX_NESTED"] : List Str) ++ (["MOST_LEVEL", "ONE", "TWO", "is_atom", "is_built", "inner_of", "parts_of", "is_expression", "require_expression", "Node", "level_of", "holds_at", "node_below", "holds", "_law_dice", "_law_roll", "_law_one_of", "_law_met", "_law_expression", "_law_parts"] : List Str) ++ (["_law_is_label", "_law_is_number", "_law_is_nested", "_law_due", "_law_spoilt", "_law_judged", "_law_right"] : List Str)
abbrev hk : PySem.W.Hook := hookZ 5 tx
def ob (s : PySem.W.SharedT) : He.AlX := He.obsX 5 (faOf tx) (fnOfR tx) [] (tfOf tx) (exOf tx) (HandSHeadRun.getT s)
theorem ob_eq (s : PySem.W.SharedT) : ob s = hk.obs s.abs := He.obsX_eq (HandSHeadRun.getT_eq s)
theorem run (w : World) : HandSHeadRun.RunEq R (PySem.W.view R.prog [50]) hk ob 4000 names w := by
  intro os
  kernel_rfl
end Law
end Zed
end
section
set_option Elab.async false
set_option linter.all false
set_option maxRecDepth 100000
set_option maxHeartbeats 1000000
namespace Zed
namespace Law
open PySem L2
abbrev TB : Nat → Option Fd := tabOf (sgOf tx)
abbrev CT : Ct := ctOf tx
abbrev cl (n : Nat) := callN CT TB n
theorem t_roll : TB 13 = some f_law_roll := rfl
theorem t_one_of : TB 14 = some f_law_one_of := rfl
/-- the dice at place i: three numbers, the last one at most B -/
def Dc (h : PHeap) (i : Nat) (B : Int) : Prop := ∃ a b c : Int, h[i]? = some (.lst [.int a, .int b, .int c]) ∧ 0 ≤ a ∧ 0 ≤ c ∧ c ≤ B
/-- the dice were rolled, all else is as it was -/
def Dr (i : Nat) (B : Int) (h h' : PHeap) : Prop := i < h.length ∧ ∃ a b c : Int, h' = h.set i (.lst [.int a, .int b, .int c]) ∧ 0 ≤ a ∧ 0 ≤ c ∧ c ≤ B
theorem Dr.dc {i : Nat} {B : Int} {h h' : PHeap} (d : Dr i B h h') : Dc h' i B := by
  obtain ⟨hi, a, b, c, rfl, r⟩ := d
  exact ⟨a, b, c, List.getElem?_set_self hi, r⟩
theorem Dr.trans {i : Nat} {B B' : Int} {h h1 h2 : PHeap} (d : Dr i B h h1) (e : Dr i B' h1 h2) : Dr i B' h h2 := by
  obtain ⟨hi, a, b, c, rfl, r⟩ := d
  obtain ⟨_, a', b', c', rfl, r'⟩ := e
  exact ⟨hi, a', b', c', List.set_set .., r'⟩
theorem Dr.up {i : Nat} {B B' : Int} {h h' : PHeap} (d : Dr i B h h') (k : B ≤ B') : Dr i B' h h' := by
  obtain ⟨hi, a, b, c, e, r1, r2, r3⟩ := d
  exact ⟨hi, a, b, c, e, r1, r2, by omega⟩
theorem Dc.up {i : Nat} {B B' : Int} {h : PHeap} (d : Dc h i B) (k : B ≤ B') : Dc h i B' := by
  obtain ⟨a, b, c, e, r1, r2, r3⟩ := d
  exact ⟨a, b, c, e, r1, r2, by omega⟩
theorem Dc.lt {i : Nat} {B : Int} {h : PHeap} (d : Dc h i B) : i < h.length := by
  obtain ⟨a, b, c, e, _⟩ := d
  exact lt_of_get e
theorem Dr.len {i : Nat} {B : Int} {h h' : PHeap} (d : Dr i B h h') : h'.length = h.length := by
  obtain ⟨hi, a, b, c, rfl, _⟩ := d
  exact List.length_set
theorem Dr.refl {i : Nat} {B : Int} {h : PHeap} (d : Dc h i B) : Dr i B h h := by
  obtain ⟨a, b, c, e, r⟩ := d
  refine ⟨lt_of_get e, a, b, c, ?_, r⟩
  apply List.ext_getElem?
  intro j
  by_cases z : i = j
  · subst z; rw [List.getElem?_set_self (lt_of_get e)]; exact e
  · rw [List.getElem?_set_ne z]
theorem Dr.get {i j : Nat} {B : Int} {h h' : PHeap} (d : Dr i B h h') (n : j ≠ i) : h'[j]? = h[j]? := by
  obtain ⟨hi, a, b, c, rfl, _⟩ := d
  exact List.getElem?_set_ne (Ne.symm n)
/-- with new objects behind -/
theorem Dr.app {i : Nat} {B : Int} {h h' g : PHeap} (d : Dr i B (h ++ g) h') (hi : i < h.length) : ∃ h1, Dr i B h h1 ∧ h' = h1 ++ g := by
  obtain ⟨_, a, b, c, rfl, r⟩ := d
  exact ⟨_, ⟨hi, a, b, c, rfl, r⟩, List.set_append_left _ _ hi⟩
theorem Dc.app {i : Nat} {B : Int} {h g : PHeap} (d : Dc h i B) : Dc (h ++ g) i B := by
  obtain ⟨a, b, c, e, r⟩ := d
  exact ⟨a, b, c, by rw [List.getElem?_append_left (lt_of_get e)]; exact e, r⟩
theorem sl_dr {i : Nat} {B : Int} {h h1 g : PHeap} {d : PV} {Q : PV → PHeap → Prop} (e : Dr i B h h1) (z : clV 0 d = true) (q : Q d h1) : Seal h d (h1 ++ g) Q := by
  obtain ⟨hi, a, b, c, rfl, _⟩ := e
  exact sl_set z rfl q
theorem sl_dr0 {i : Nat} {B : Int} {h h1 : PHeap} {d : PV} {Q : PV → PHeap → Prop} (e : Dr i B h h1) (z : clV 0 d = true) (q : Q d h1) : Seal h d h1 Q := by
  obtain ⟨hi, a, b, c, rfl, _⟩ := e
  exact sl_set0 z rfl q
theorem ok_roll {n i : Nat} {t B : Int} {h : PHeap} (d : Dc h i B) (ht : 0 < t) (hb : B < 2 ^ 100) (ht2 : t < 2 ^ 100) :
    Ok (cl (n + 1) 13 [.ref i, .int t] h) fun d h' => ∃ r : Int, d = .int r ∧ 0 ≤ r ∧ r < t ∧ Dr i (B + 1) h h' := by
  obtain ⟨a, b, c, e, ha, hc, hB⟩ := d
  have hi := lt_of_get e
  refine (f_call t_roll rfl rfl).mpr ?_
  (unfold f_law_roll; dsimp only [List.map, List.append, HAppend.hAppend, Append.append, List.replicate, Nat.reduceSub])
  walk_at "zz"
  refine ⟨fun k => ?_, fun k => ?_⟩
  · have k := of_decide_eq_true k
    walk_at "zz"
    refine okP_mod ht ?_
    walk_at "zz"
    refine okP_fdiv ht (by omega) ?_
    walk_at "zz"
    exact sl_set0 rfl rfl ⟨_, rfl, Int.emod_nonneg _ (by omega), Int.emod_lt_of_pos _ ht, hi, _, _, _, rfl, Int.ediv_nonneg ha (by omega), hc, by omega⟩
  · walk_at "zz"
    have e2 := get_self (o' := .lst [.int a, .int b, .int (c + 1)]) e
    walk_at "zz"
    refine okP_mul (by omega) (by omega) ?_
    walk_at "zz"
    generalize hx : (b + 1000117 * (c + 1)) % 2305843009213693951 = x
    have x1 : 0 ≤ x := by omega
    have x2 : x < 2305843009213693951 := by omega
    refine okP_mul (by omega) (by omega) ?_
    walk_at "zz"
    refine okP_mul (by omega) (by omega) ?_
    walk_at "zz"
    refine okP_mul (by omega) (by omega) ?_
    walk_at "zz"
    refine okP_mod ht ?_
    walk_at "zz"
    exact sl_set0 rfl rfl ⟨_, rfl, Int.emod_nonneg _ (by omega), Int.emod_lt_of_pos _ ht, hi, a, b, c + 1, rfl, ha, by omega, by omega⟩
theorem okO_getF {h : PHeap} {k : Int} {ds : List PV} {d : PV} {Q : PV → Prop} (g : atI ds k = some d) (q : Q d) : OkO (getF (.fl ds) (.int k) h) Q := okO_of g q
theorem ok_one_of {n i : Nat} {B : Int} {h : PHeap} {ds : List PV} (d : Dc h i B) (h0 : ds ≠ []) (hz : ds.length < 1000) (hb : B < 2 ^ 100) (hc : clVs 0 ds = true) :
    Ok (cl (n + 2) 14 [.ref i, .fl ds] h) fun d h' => d ∈ ds ∧ Dr i (B + 1) h h' := by
  refine (f_call t_one_of rfl rfl).mpr ?_
  (unfold f_law_one_of; dsimp only [List.map, List.append, HAppend.hAppend, Append.append, List.replicate, Nat.reduceSub])
  walk_at "zz"
  have hp : 0 < ds.length := List.length_pos_iff.mpr h0
  refine (ok_roll d (by omega) hb (by omega)).mono fun x h' ⟨r, er, r0, r1, f⟩ => ?_
  subst er
  obtain ⟨y, y1, y2, _⟩ := atI_mem r0 r1
  have cy : clV 0 y = true := by
    clear y1
    induction ds with
    | nil => cases y2
    | cons z zs ih =>
      simp only [clVs, Bool.and_eq_true] at hc
      rcases List.mem_cons.mp y2 with e | e
      · rw [e]; exact hc.1
      · by_cases zz0 : zs = []
        · subst zz0; cases e
        · have key : ∀ l : List PV, clVs 0 l = true → y ∈ l → clV 0 y = true := fun l => by
            induction l with
            | nil => intro _ h; cases h
            | cons p l ih => intro h1 h2; simp only [clVs, Bool.and_eq_true] at h1; rcases List.mem_cons.mp h2 with q | q; rw [q]; exact h1.1; exact ih h1.2 q
          exact key zs hc.2 e
  exact okO_getF y1 (sl_dr0 f cy ⟨y2, f⟩)
end Law
end Zed
end
section
set_option Elab.async false
set_option linter.all false
set_option maxRecDepth 100000
set_option maxHeartbeats 1000000
set_option exponentiation.threshold 10000
namespace Zed
namespace Law
open PySem L2
inductive E where
  | label (s : Str) | root | level (r m : Int) | parent (e : E) | above (e : E) | neg (e : E) | conj (a b : E) | disj (a b : E)
def pv : E → PV
  | .label s => .tup [.str "label", .str s]
  | .root => .tup [.str "root"]
  | .level r m => .tup [.str "level", .int r, .int m]
  | .parent e => .tup [.str "parent", pv e]
  | .above e => .tup [.str "above", pv e]
  | .neg e => .tup [.str "not", pv e]
  | .conj a b => .tup [.str "and", pv a, pv b]
  | .disj a b => .tup [.str "or", pv a, pv b]
def lab4 : List Str := ["a", "b", "node", "zz"]
/-- drawn expressions -/
def okE : E → Prop
  | .label s => s ∈ lab4
  | .root => True
  | .level r m => 0 ≤ r ∧ r < m ∧ 2 ≤ m ∧ m ≤ 4
  | .parent e => okE e
  | .above e => okE e
  | .neg e => okE e
  | .conj a b => okE a ∧ okE b
  | .disj a b => okE a ∧ okE b
def sz : E → Nat
  | .label _ => 1
  | .root => 1
  | .level _ _ => 1
  | .parent e => sz e + 1
  | .above e => sz e + 1
  | .neg e => sz e + 1
  | .conj a b => sz a + sz b + 1
  | .disj a b => sz a + sz b + 1
def dp : E → Nat
  | .label _ => 1
  | .root => 1
  | .level _ _ => 1
  | .parent e => dp e + 1
  | .above e => dp e + 1
  | .neg e => dp e + 1
  | .conj a b => max (dp a) (dp b) + 1
  | .disj a b => max (dp a) (dp b) + 1
theorem pv_cl {n : Nat} : ∀ e : E, clV n (pv e) = true
  | .label s => rfl
  | .root => rfl
  | .level _ _ => rfl
  | .parent e => by simp [pv, clV, clVs, pv_cl e]
  | .above e => by simp [pv, clV, clVs, pv_cl e]
  | .neg e => by simp [pv, clV, clVs, pv_cl e]
  | .conj a b => by simp [pv, clV, clVs, pv_cl a, pv_cl b]
  | .disj a b => by simp [pv, clV, clVs, pv_cl a, pv_cl b]
theorem t_expr : TB 15 = some f_law_expression := rfl
theorem seal_gen {n : Nat} {g : PHeap} : ∀ {h h1 : PHeap}, h1.length = h.length → (∀ (k : Nat) (o : PObj), h1[k]? = some o → h[k]? = some o ∨ clO n o = true) → sealH n h (h1 ++ g) = some h1
  | [], h1, l, _ => by
    have : h1 = [] := List.eq_nil_of_length_eq_zero l
    subst this
    cases g <;> rfl
  | o :: r, [], l, _ => by simp at l
  | o :: r, o1 :: r1, l, k => by
    show (if PObj.same o o1 || clO n o1 then (sealH n r (r1 ++ g)).map (o1 :: ·) else none) = _
    have k0 : (PObj.same o o1 || clO n o1) = true := by
      rcases k 0 o1 rfl with z | z
      · simp at z; subst z; rw [PObj.same_rfl]; rfl
      · rw [z, Bool.or_true]
    rw [k0, if_pos rfl, seal_gen (by simpa using l) fun j ob hj => by simpa using k (j + 1) ob (by simpa using hj)]; rfl
/-- the dice were rolled, the room at j is r now -/
def Er (i j : Nat) (B r : Int) (h h' : PHeap) : Prop := ∃ h1, Dr i B h h1 ∧ h' = h1.set j (.lst [.int r])
theorem set_same {h : PHeap} {j : Nat} {o : PObj} (e : h[j]? = some o) : h.set j o = h := by
  apply List.ext_getElem?
  intro k
  by_cases z : j = k
  · subst z; rw [List.getElem?_set_self (lt_of_get e)]; exact e.symm
  · rw [List.getElem?_set_ne z]
section
variable {i j : Nat} {B B' r r' : Int} {h h1 h2 : PHeap}
theorem Er.of (d : Dr i B h h1) (e : h1[j]? = some (.lst [.int r])) : Er i j B r h h1 := ⟨h1, d, (set_same e).symm⟩
theorem Er.put (d : Dc h i B) : Er i j B r h (h.set j (.lst [.int r])) := ⟨h, .refl d, rfl⟩
theorem Er.dc (x : Er i j B r h h1) (ne : i ≠ j) : Dc h1 i B := by
  obtain ⟨h0, d, rfl⟩ := x
  obtain ⟨a, b, c, e, k⟩ := d.dc
  exact ⟨a, b, c, by rw [List.getElem?_set_ne (Ne.symm ne)]; exact e, k⟩
theorem Er.len (x : Er i j B r h h1) : h1.length = h.length := by
  obtain ⟨h0, d, rfl⟩ := x
  rw [List.length_set, d.len]
theorem Er.at_ (x : Er i j B r h h1) (hj : j < h.length) : h1[j]? = some (.lst [.int r]) := by
  obtain ⟨h0, d, rfl⟩ := x
  exact List.getElem?_set_self (by rw [d.len]; exact hj)
theorem Er.trans (x : Er i j B r h h1) (y : Er i j B' r' h1 h2) (ne : i ≠ j) : Er i j B' r' h h2 := by
  obtain ⟨g1, ⟨hi, a, b, c, rfl, k⟩, rfl⟩ := x
  obtain ⟨g2, ⟨_, a', b', c', rfl, k'⟩, rfl⟩ := y
  refine ⟨h.set i (.lst [.int a', .int b', .int c']), ⟨hi, a', b', c', rfl, k'⟩, ?_⟩
  rw [List.set_comm _ _ (Ne.symm ne), List.set_set, List.set_set]
theorem Er.roll (x : Er i j B r h h1) (y : Dr i B' h1 h2) (ne : i ≠ j) (hj : j < h.length) : Er i j B' r h h2 := x.trans (.of y (by rw [y.get (Ne.symm ne)]; exact x.at_ hj)) ne
theorem Er.set (x : Er i j B r h h1) : Er i j B r' h (h1.set j (.lst [.int r'])) := by
  obtain ⟨g, d, rfl⟩ := x
  exact ⟨g, d, by rw [List.set_set]⟩
theorem Er.up (x : Er i j B r h h1) (k : B ≤ B') : Er i j B' r h h1 := by
  obtain ⟨g, d, e⟩ := x
  exact ⟨g, d.up k, e⟩
theorem sl_er {d : PV} {g : PHeap} {Q : PV → PHeap → Prop} (x : Er i j B r h h1) (z : clV 0 d = true) (q : Q d h1) : Seal h d (h1 ++ g) Q := by
  refine ⟨d, h1, frz_cl (cl_up (Nat.zero_le _) d z), seal_gen x.len fun k o e => ?_, q⟩
  obtain ⟨h0, ⟨hi, a, b, c, rfl, _⟩, rfl⟩ := x
  by_cases z1 : j = k
  · subst z1
    rw [List.getElem?_set_self (by have := (List.getElem?_eq_some_iff.mp e).1; simpa using this)] at e
    cases e; exact .inr rfl
  · rw [List.getElem?_set_ne z1] at e
    by_cases z2 : i = k
    · subst z2; rw [List.getElem?_set_self hi] at e; cases e; exact .inr rfl
    · rw [List.getElem?_set_ne z2] at e; exact .inl e
theorem sl_er0 {d : PV} {Q : PV → PHeap → Prop} (x : Er i j B r h h1) (z : clV 0 d = true) (q : Q d h1) : Seal h d h1 Q := by
  have := sl_er (g := []) (Q := Q) x z q
  simpa using this
end
def leafB : Sxs := (.cons (.asg (.nm 5) (.lst false (.cons (.tup (.cons (.con (.str "label")) (.cons (.call 14 (.cons (.loc 0) (.cons (.lst true (.cons (.con (.str "a")) (.cons (.con (.str "b")) (.cons (.con (.str "node")) (.cons (.con (.str "zz")) .nil))))) .nil))) .nil))) (.cons (.tup (.cons (.con (.str "root")) .nil)) .nil))))
  (.cons (.asg (.nm 6) (.bin .add (.con (.int 2)) (.call 13 (.cons (.loc 0) (.cons (.con (.int 3)) .nil)))))
  (.cons (.ex (.meth .append (.loc 5) (.cons (.tup (.cons (.con (.str "level")) (.cons (.call 13 (.cons (.loc 0) (.cons (.loc 6) .nil))) (.cons (.loc 6) .nil)))) .nil)))
  (.cons (.ret (.call 14 (.cons (.loc 0) (.cons (.bin .add (.loc 5) (.slc (.loc 5) .no (.yes (.con (.int 1))))) .nil))))
  .nil))))
theorem okP_slcL' {h : PHeap} {i : Nat} {xs : List PV} {Q : PV → PHeap → Prop} {a b : Option Int} (e : h[i]? = some (.lst xs)) (q : Q (.fl (cutP xs a b)) h) : OkP (slcF (.ref i) a b h) Q := by
  refine okP_of ?_ q
  simp only [slcF, lstOf, objOf, e]
theorem okP_cat' {h : PHeap} {i : Nat} {xs ys : List PV} {Q : PV → PHeap → Prop} (e : h[i]? = some (.lst xs)) (hl : xs.length + ys.length ≤ 1000) (q : Q (.fl (xs ++ ys)) h) : OkP (bopF .add [.ref i, .fl ys] h) Q := by
  refine okP_of ?_ q
  show addF (.ref i) (.fl ys) h = _
  simp only [addF, lstOf, objOf, e]
  rw [if_pos (line_of hl)]
theorem ok_leaf {m i : Nat} {x1 x2 x3 : PV} {h : PHeap} {B : Int} {N : Loc → PHeap → Prop} {T : PV → PHeap → Prop} (d : Dc h i B) (hb : B + 10 < 2 ^ 100)
    (k : ∀ e h' g, okE e → sz e = 1 → dp e = 1 → Dr i (B + 4) h h' → T (pv e) (h' ++ g)) :
    OkS (exSs ⟨cl (m + 2), CT⟩ leafB [some (.ref i), some x1, some x2, some x3, none, none, none] h) N T := by
  unfold leafB
  walk_at "zz"
  have hi := d.lt
  refine (ok_one_of d (by simp) (by decide) (by omega) rfl).mono fun x h1 ⟨mx, f1⟩ => ?_
  walk_at "zz"
  refine (ok_roll f1.dc.app (by decide) (by omega) (by decide)).mono fun y h2 ⟨r, er, r0, r1, f2⟩ => ?_
  subst er
  obtain ⟨h3, f3, rfl⟩ := f2.app (by rw [f1.len]; exact hi)
  have l1 := f1.len
  have l3 := f3.len
  walk_at "zz"
  have e3 : (h3 ++ [PObj.lst [PV.tup [PV.str "label", x], PV.tup [PV.str "root"]]])[h1.length]? = some (.lst [PV.tup [PV.str "label", x], PV.tup [PV.str "root"]]) := by rw [← l3]; exact get_new
  refine ⟨rcv_lst e3, ?_⟩
  walk_at "zz"
  refine (ok_roll f3.dc.app (by omega) (by omega) (by omega)).mono fun y h4 ⟨q, eq, q0, q1, f4⟩ => ?_
  subst eq
  obtain ⟨h5, f5, rfl⟩ := f4.app (by omega)
  have l5 := f5.len
  have e5 : (h5 ++ [PObj.lst [PV.tup [PV.str "label", x], PV.tup [PV.str "root"]]])[h1.length]? = some (.lst [PV.tup [PV.str "label", x], PV.tup [PV.str "root"]]) := by rw [← l3, ← l5]; exact get_new
  walk_at "zz"
  refine okP_app e5 (Nat.le_of_ble_eq_true rfl) ?_
  have es : (h5 ++ [PObj.lst [PV.tup [PV.str "label", x], PV.tup [PV.str "root"]]]).set h1.length (.lst ([PV.tup [PV.str "label", x], PV.tup [PV.str "root"]] ++ [PV.tup [PV.str "level", PV.int q, PV.int (2 + r)]])) = h5 ++ [.lst ([PV.tup [PV.str "label", x], PV.tup [PV.str "root"]] ++ [PV.tup [PV.str "level", PV.int q, PV.int (2 + r)]])] := by
    rw [List.set_append_right _ _ (by omega), l5, l3, Nat.sub_self]; rfl
  rw [es]
  have e6 : (h5 ++ [PObj.lst ([PV.tup [PV.str "label", x], PV.tup [PV.str "root"]] ++ [PV.tup [PV.str "level", PV.int q, PV.int (2 + r)]])])[h1.length]? = some (.lst ([PV.tup [PV.str "label", x], PV.tup [PV.str "root"]] ++ [PV.tup [PV.str "level", PV.int q, PV.int (2 + r)]])) := by rw [← l3, ← l5]; exact get_new
  walk_at "zz"
  refine okP_slcL' e6 ?_
  walk_at "zz"
  refine okP_cat' e6 (Nat.le_of_ble_eq_true rfl) ?_
  walk_at "zz"
  have cx : ∃ s, x = .str s ∧ s ∈ lab4 := by
    simp only [List.mem_cons, List.not_mem_nil, or_false] at mx
    rcases mx with rfl | rfl | rfl | rfl <;> exact ⟨_, rfl, by decide⟩
  obtain ⟨s, rfl, hs⟩ := cx
  refine (ok_one_of f5.dc.app (by simp) (Nat.le_of_ble_eq_true rfl) (by omega) rfl).mono fun y h6 ⟨my, f6⟩ => ?_
  obtain ⟨h7, f7, rfl⟩ := f6.app (by omega)
  have dd : Dr i (B + 4) h h7 := ((f1.trans f3).trans f5).trans (f7.up (by omega))
  have my : y ∈ [PV.tup [PV.str "label", PV.str s], PV.tup [PV.str "root"], PV.tup [PV.str "level", PV.int q, PV.int (2 + r)], PV.tup [PV.str "label", PV.str s]] := my
  simp only [List.mem_cons, List.not_mem_nil, or_false] at my
  rcases my with rfl | rfl | rfl | rfl
  · exact k (.label s) _ _ hs rfl rfl dd
  · exact k .root _ _ trivial rfl rfl dd
  · exact k (.level q (2 + r)) _ _ ⟨q0, q1, by omega, by omega⟩ rfl rfl dd
  · exact k (.label s) _ _ hs rfl rfl dd
end Law
end Zed
end
section
set_option Elab.async false
set_option linter.all false
set_option maxRecDepth 100000
set_option maxHeartbeats 1000000
set_option exponentiation.threshold 10000
namespace Zed
namespace Law
open PySem L2
def K : Nat → Int
  | 0 => 12
  | D + 1 => 2 * K D + 12
theorem K_pos : ∀ D, 12 ≤ K D
  | 0 => by decide
  | D + 1 => by
    have := K_pos D
    show 12 ≤ 2 * K D + 12
    omega
def SpE (D : Nat) : Prop := ∀ ⦃n i j : Nat⦄ ⦃r B : Int⦄ ⦃h : PHeap⦄, Dc h i B → h[j]? = some (.lst [.int r]) → i ≠ j → 1 ≤ r → B + K D < 2 ^ 100 →
  Ok (cl (n + D + 3) 15 [.ref i, .int (D + 1), .ref j] h) fun d h' => ∃ e, d = pv e ∧ okE e ∧ dp e ≤ D + 1 ∧ (sz e : Int) ≤ r ∧ Er i j (B + K D) (r - sz e) h h'
theorem ok_expr1 (D : Nat) (ih : ∀ D', D = D' + 1 → SpE D') : SpE D := by
  intro n i j r B h d e ne hr hB
  have kp := K_pos D
  refine (f_call t_expr rfl rfl).mpr ?_
  (unfold f_law_expression; dsimp only [List.map, List.append, HAppend.hAppend, Append.append, List.replicate, Nat.reduceSub])
  walk_at "zz"
  have hi := d.lt
  have hj := lt_of_get e
  have x1 : Er i j B (r - 1) h (h.set j (.lst [.int (r - 1)])) := .put d
  refine (ok_roll (x1.dc ne) (by decide) (by omega) (by decide)).mono fun y h2 ⟨w, ew, w0, w1, f2⟩ => ?_
  subst ew
  have x2 : Er i j (B + 1) (r - 1) h h2 := x1.roll f2 ne hj
  have e2 := x2.at_ hj
  have leaf : ∀ {N : Loc → PHeap → Prop}, OkS (exSs ⟨cl (n + D + 2), CT⟩ leafB [some (.ref i), some (.int (D + 1)), some (.ref j), some (.int w), none, none, none] h2) N fun d h1 => Seal h d h1 fun d h' => ∃ e, d = pv e ∧ okE e ∧ dp e ≤ D + 1 ∧ (sz e : Int) ≤ r ∧ Er i j (B + K D) (r - sz e) h h' := fun {N} => by
    refine ok_leaf (m := n + D) (x2.dc ne) (by omega) fun ex h' g o1 o2 o3 f3 => ?_
    have x3 := (x2.roll f3 ne hj).up (B' := B + K D) (by omega)
    refine sl_er x3 (pv_cl ex) ⟨ex, rfl, o1, by omega, by omega, ?_⟩
    rw [o2]; exact x3
  walk_at "zz"
  refine ⟨fun k1 => ⟨fun _ => leaf, fun z => by rw [k1] at z; cases z⟩, fun k1 => ?_⟩
  walk_at "zz"
  refine ⟨fun k2 => ⟨fun _ => leaf, fun z => by rw [k2] at z; cases z⟩, fun k2 => ?_⟩
  walk_at "zz"
  refine ⟨fun k3 => leaf, fun k3 => ?_⟩
  have k1 := of_decide_eq_false k1
  have k2 := of_decide_eq_false k2
  have k3 := of_decide_eq_false k3
  obtain ⟨D, rfl⟩ : ∃ D', D = D' + 1 := ⟨D - 1, by omega⟩
  have ih := ih D rfl
  have ee : ((D + 1 : Nat) : Int) + 1 - 1 = (D : Int) + 1 := by omega
  have kk : K (D + 1) = 2 * K D + 12 := rfl
  have kp := K_pos D
  have un : Ok (evE ⟨cl (n + (D + 1) + 2), CT⟩ (.tup (.cons (.call 14 (.cons (.loc 0) (.cons (.lst true (.cons (.con (.str "parent")) (.cons (.con (.str "above")) (.cons (.con (.str "not")) .nil)))) .nil))) (.cons (.call 15 (.cons (.loc 0) (.cons (.bin .sub (.loc 1) (.con (.int 1))) (.cons (.loc 2) .nil)))) .nil))) [some (.ref i), some (.int ((D + 1 : Nat) + 1)), some (.ref j), some (.int w), none, none, none] h2) fun d h1 => Seal h d h1 fun d h' => ∃ e, d = pv e ∧ okE e ∧ dp e ≤ (D + 1) + 1 ∧ (sz e : Int) ≤ r ∧ Er i j (B + K (D + 1)) (r - sz e) h h' := by
    walk_at "zz"
    refine (ok_one_of (n := n + (D + 1)) (x2.dc ne) (by simp) (by decide) (by omega) rfl).mono fun x h3 ⟨mx, f3⟩ => ?_
    have x3 := x2.roll f3 ne hj
    walk_at "zz"
    show Ok (cl (n + D + 3) 15 [.ref i, .int (((D + 1 : Nat) : Int) + 1 - 1), .ref j] h3) _
    rw [ee]
    refine (ih (x3.dc ne) (x3.at_ hj) ne (by omega) (by omega)).mono fun y h4 ⟨ex, hy, o1, o2, o3, x4⟩ => ?_
    subst hy
    walk_at "zz"
    have x5 := (x3.trans x4 ne).up (B' := B + K (D + 1)) (by omega)
    simp only [List.mem_cons, List.not_mem_nil, or_false] at mx
    have er : ∀ s : Nat, s = sz ex + 1 → r - 1 - (sz ex : Int) = r - (s : Int) := fun s hs => by omega
    rcases mx with rfl | rfl | rfl
    · exact sl_er0 x5 (pv_cl (.parent ex)) ⟨.parent ex, rfl, o1, by show dp ex + 1 ≤ _; omega, by show ((sz ex + 1 : Nat) : Int) ≤ _; omega, er (sz (.parent ex)) rfl ▸ x5⟩
    · exact sl_er0 x5 (pv_cl (.above ex)) ⟨.above ex, rfl, o1, by show dp ex + 1 ≤ _; omega, by show ((sz ex + 1 : Nat) : Int) ≤ _; omega, er (sz (.above ex)) rfl ▸ x5⟩
    · exact sl_er0 x5 (pv_cl (.neg ex)) ⟨.neg ex, rfl, o1, by show dp ex + 1 ≤ _; omega, by show ((sz ex + 1 : Nat) : Int) ≤ _; omega, er (sz (.neg ex)) rfl ▸ x5⟩
  walk_at "zz"
  refine ⟨fun k4 => ⟨fun _ => ?_, fun z => by rw [k4] at z; cases z⟩, fun k4 => ?_⟩
  · refine s_cons.mpr (s_ret.mpr un)
  walk_at "zz"
  refine ⟨fun k5 => s_cons.mpr (s_ret.mpr un), fun k5 => ?_⟩
  have k5 := of_decide_eq_false k5
  walk_at "zz"
  have x3 : Er i j (B + 1) (r - 1 - 1) h (h2.set j (.lst [.int (r - 1 - 1)])) := x2.set
  show Ok (cl (n + D + 3) 15 [.ref i, .int (((D + 1 : Nat) : Int) + 1 - 1), .ref j] _) _
  rw [ee]
  refine (ih (x3.dc ne) (x3.at_ hj) ne (by omega) (by omega)).mono fun y h4 ⟨ea, hy, a1, a2, a3, x4⟩ => ?_
  subst hy
  have x4 := x3.trans x4 ne
  have e4 := x4.at_ hj
  walk_at "zz"
  have x5 : Er i j (B + 1 + K D) (r - 1 - 1 - sz ea + 1) h (h4.set j (.lst [.int (r - 1 - 1 - sz ea + 1)])) := x4.set
  refine (ok_one_of (n := n + (D + 1)) (x5.dc ne) (by simp) (by decide) (by omega) rfl).mono fun x h6 ⟨mx, f6⟩ => ?_
  have x6 := x5.roll f6 ne hj
  walk_at "zz"
  show Ok (cl (n + D + 3) 15 [.ref i, .int (((D + 1 : Nat) : Int) + 1 - 1), .ref j] _) _
  rw [ee]
  refine (ih (x6.dc ne) (x6.at_ hj) ne (by omega) (by omega)).mono fun y h7 ⟨eb, hy, b1, b2, b3, x7⟩ => ?_
  subst hy
  have x8 := (x6.trans x7 ne).up (B' := B + K (D + 1)) (by omega)
  walk_at "zz"
  have er : ∀ s : Nat, s = sz ea + sz eb + 1 → r - 1 - 1 - (sz ea : Int) + 1 - (sz eb : Int) = r - (s : Int) := fun s hs => by omega
  simp only [List.mem_cons, List.not_mem_nil, or_false] at mx
  rcases mx with rfl | rfl
  · exact sl_er0 x8 (pv_cl (.conj ea eb)) ⟨.conj ea eb, rfl, ⟨a1, b1⟩, by show max (dp ea) (dp eb) + 1 ≤ _; omega, by show ((sz ea + sz eb + 1 : Nat) : Int) ≤ _; omega, er (sz (.conj ea eb)) rfl ▸ x8⟩
  · exact sl_er0 x8 (pv_cl (.disj ea eb)) ⟨.disj ea eb, rfl, ⟨a1, b1⟩, by show max (dp ea) (dp eb) + 1 ≤ _; omega, by show ((sz ea + sz eb + 1 : Nat) : Int) ≤ _; omega, er (sz (.disj ea eb)) rfl ▸ x8⟩
theorem ok_expr : ∀ D, SpE D
  | 0 => ok_expr1 0 fun _ z => (nomatch z)
  | D + 1 => ok_expr1 (D + 1) fun D' z => by
    obtain rfl : D = D' := by omega
    exact ok_expr D
end Law
end Zed
end
section
set_option Elab.async false
set_option linter.all false
set_option maxRecDepth 100000
set_option maxHeartbeats 1000000
set_option exponentiation.threshold 10000
namespace Zed
/-! ### tuples compared: flat as far as both go -/
open PySem L2
theorem toD_flat {h : PHeap} {n : Nat} {d : PV} {x : PyData} (f : flatP d = true) (e : toD h n d = some x) : (d = .non ∧ x = .none) ∨ (∃ b, d = .bl b ∧ x = .bool b) ∨ (∃ i, d = .int i ∧ x = .int i) ∨ ∃ s, d = .str s ∧ x = .str s := by
  cases d <;> simp only [flatP] at f <;> first | (cases f; done) | skip
  all_goals (cases n <;> simp only [toD, Option.some.injEq] at e <;> subst e <;> simp)
theorem eqv_flat {h : PHeap} {n : Nat} {d e : PV} {x y : PyData} (f : flatP d = true) (g : flatP e = true) (e1 : toD h n d = some x) (e2 : toD h n e = some y) : PyData.eqv x y = eqP d e := by
  rcases toD_flat f e1 with ⟨rfl, rfl⟩ | ⟨b, rfl, rfl⟩ | ⟨i, rfl, rfl⟩ | ⟨s, rfl, rfl⟩ <;> rcases toD_flat g e2 with ⟨rfl, rfl⟩ | ⟨b', rfl, rfl⟩ | ⟨i', rfl, rfl⟩ | ⟨s', rfl, rfl⟩ <;> simp [PyData.eqv, eqP]
theorem eqTup_eqv {h : PHeap} {n : Nat} : ∀ {ds es : List PV} {xs ys : List PyData} {b : Bool}, mapO (toD h n) ds = some xs → mapO (toD h n) es = some ys → eqTup ds es = some b → PyData.eqvAll xs ys = b
  | [], [], _, _, _, e1, e2, e => by simp only [mapO] at e1 e2; cases e1; cases e2; simp only [eqTup] at e; cases e; simp [PyData.eqvAll]
  | [], _ :: _, _, _, _, e1, e2, e => by
    obtain ⟨_, _, _, _, rfl⟩ := mapO_cons e2
    simp only [mapO] at e1; cases e1; simp only [eqTup] at e; cases e; simp [PyData.eqvAll]
  | _ :: _, [], _, _, _, e1, e2, e => by
    obtain ⟨_, _, _, _, rfl⟩ := mapO_cons e1
    simp only [mapO] at e2; cases e2; simp only [eqTup] at e; cases e; simp [PyData.eqvAll]
  | d :: ds, c :: es, _, _, b, e1, e2, e => by
    obtain ⟨x, xs, p1, p2, rfl⟩ := mapO_cons e1
    obtain ⟨y, ys, q1, q2, rfl⟩ := mapO_cons e2
    simp only [eqTup] at e
    split at e
    · rename_i f
      rw [Bool.and_eq_true] at f
      obtain ⟨b', r1, r2⟩ := omap e
      subst r2
      simp only [PyData.eqvAll, eqv_flat f.1 f.2 p1 q1, eqTup_eqv p2 q2 r1]
    · cases e
theorem eq_tup {h : PHeap} {ds es : List PV} {b : Bool} (e : eqTup ds es = some b) : eqF h (.tup ds) (.tup es) = some b := by
  unfold eqF
  split
  · rename_i b' hb
    unfold eqD at hb
    split at hb
    · rename_i x y h1 h2
      split at hb
      · cases hb
        simp only [toD] at h1 h2
        obtain ⟨xs, p1, rfl⟩ := omap h1
        obtain ⟨ys, p2, rfl⟩ := omap h2
        simp only [PyData.eqv, eqTup_eqv p1 p2 e]
      · cases hb
    · cases hb
  · dsimp only; rw [e]
theorem okO_eqt {h : PHeap} {ds es : List PV} {b : Bool} {Q : Bool → Prop} (e : eqTup ds es = some b) (q : Q b) : OkO (cmpB .eq h (.tup ds) (.tup es)) Q := okO_of (eq_tup e) q
theorem eqD_int {h : PHeap} {i j : Int} : eqD h (.int i) (.int j) = some (i == j) := by
  unfold eqD
  show (if SeqAt.shaped (.int i) = true ∧ SeqAt.shaped (.int j) = true then some (PyData.eqv (.int i) (.int j)) else none) = _
  rw [if_pos ⟨rfl, rfl⟩]
  simp only [PyData.eqv]
theorem okO_eqi {h : PHeap} {i j : Int} {Q : Bool → Prop} (q : Q (i == j)) : OkO (cmpB .eq h (.int i) (.int j)) Q := okO_of (show eqF h (.int i) (.int j) = some (i == j) by unfold eqF; rw [eqD_int]) q
theorem okO_nei {h : PHeap} {i j : Int} {Q : Bool → Prop} (q : Q (!(i == j))) : OkO (cmpB .ne h (.int i) (.int j)) Q := okO_of (show (eqD h (.int i) (.int j)).map _ = some (!(i == j)) by rw [eqD_int]; rfl) q
namespace Law
def words : List Str := ["a", "b", "node", "zz", "label", "root", "and", "parent", "above", "not", "or", "level", "", "A", "abcdefghi"]
/-- values that come: by their depth -/
def tm (L : Nat) : Nat → PV → Bool
  | _, .non => true
  | _, .bl _ => true
  | _, .int _ => true
  | _, .str s => words.contains s
  | _, .fz (.dic []) => true
  | k + 1, .tup ds => decide (ds.length ≤ L) && ds.all (tm L k)
  | k + 1, .fz (.lst ds) => decide (ds.length ≤ L) && ds.all (tm L k)
  | _, _ => false
def isT : PV → Bool
  | .tup _ => true
  | _ => false
def isS : PV → Bool
  | .str _ => true
  | _ => false
def isI : PV → Bool
  | .int _ => true
  | .bl _ => true
  | _ => false
def isB : PV → Bool
  | .bl _ => true
  | _ => false
theorem kits : ∀ a ∈ ["NoneType", "bool", "int", "str", "tuple", "list", "dict"], kitB a "tuple" = some (a == "tuple") ∧ kitB a "str" = some (a == "str") ∧ kitB a "int" = some (a == "int" || a == "bool") ∧ kitB a "bool" = some (a == "bool") := by decide +kernel
section
variable {h : PHeap} {k L : Nat} {v : PV} {Q : PV → PHeap → Prop}
theorem ty_tm (t : tm L k v = true) : ∃ a, tyName h v = some a ∧ a ∈ ["NoneType", "bool", "int", "str", "tuple", "list", "dict"] ∧ (a == "tuple") = isT v ∧ (a == "str") = isS v ∧ (a == "int" || a == "bool") = isI v ∧ (a == "bool") = isB v := by
  cases v with
  | non => exact ⟨_, rfl, by decide, by first | (show (_ : Bool) = true; decide) | (show (_ : Bool) = false; decide), by first | (show (_ : Bool) = true; decide) | (show (_ : Bool) = false; decide), by first | (show (_ : Bool) = true; decide) | (show (_ : Bool) = false; decide), by first | (show (_ : Bool) = true; decide) | (show (_ : Bool) = false; decide)⟩
  | bl => exact ⟨_, rfl, by decide, by first | (show (_ : Bool) = true; decide) | (show (_ : Bool) = false; decide), by first | (show (_ : Bool) = true; decide) | (show (_ : Bool) = false; decide), by first | (show (_ : Bool) = true; decide) | (show (_ : Bool) = false; decide), by first | (show (_ : Bool) = true; decide) | (show (_ : Bool) = false; decide)⟩
  | int => exact ⟨_, rfl, by decide, by first | (show (_ : Bool) = true; decide) | (show (_ : Bool) = false; decide), by first | (show (_ : Bool) = true; decide) | (show (_ : Bool) = false; decide), by first | (show (_ : Bool) = true; decide) | (show (_ : Bool) = false; decide), by first | (show (_ : Bool) = true; decide) | (show (_ : Bool) = false; decide)⟩
  | str => exact ⟨_, rfl, by decide, by first | (show (_ : Bool) = true; decide) | (show (_ : Bool) = false; decide), by first | (show (_ : Bool) = true; decide) | (show (_ : Bool) = false; decide), by first | (show (_ : Bool) = true; decide) | (show (_ : Bool) = false; decide), by first | (show (_ : Bool) = true; decide) | (show (_ : Bool) = false; decide)⟩
  | tup => exact ⟨_, rfl, by decide, by first | (show (_ : Bool) = true; decide) | (show (_ : Bool) = false; decide), by first | (show (_ : Bool) = true; decide) | (show (_ : Bool) = false; decide), by first | (show (_ : Bool) = true; decide) | (show (_ : Bool) = false; decide), by first | (show (_ : Bool) = true; decide) | (show (_ : Bool) = false; decide)⟩
  | fz o =>
    cases o with
    | lst => exact ⟨_, rfl, by decide, by first | (show (_ : Bool) = true; decide) | (show (_ : Bool) = false; decide), by first | (show (_ : Bool) = true; decide) | (show (_ : Bool) = false; decide), by first | (show (_ : Bool) = true; decide) | (show (_ : Bool) = false; decide), by first | (show (_ : Bool) = true; decide) | (show (_ : Bool) = false; decide)⟩
    | dic kvs =>
      cases kvs with
      | nil => exact ⟨_, rfl, by decide, by first | (show (_ : Bool) = true; decide) | (show (_ : Bool) = false; decide), by first | (show (_ : Bool) = true; decide) | (show (_ : Bool) = false; decide), by first | (show (_ : Bool) = true; decide) | (show (_ : Bool) = false; decide), by first | (show (_ : Bool) = true; decide) | (show (_ : Bool) = false; decide)⟩
      | cons => cases k <;> simp [tm] at t
    | set => cases k <;> simp [tm] at t
    | ins => cases k <;> simp [tm] at t
  | ref => cases k <;> simp [tm] at t
  | ty => cases k <;> simp [tm] at t
  | gl => cases k <;> simp [tm] at t
  | scr => cases k <;> simp [tm] at t
theorem is_t (t : tm L k v = true) (q : Q (.bl (isT v)) h) : OkP (bltF .isinstance [v, .ty "tuple"] h) Q := by
  obtain ⟨a, e1, m, e2, _⟩ := ty_tm (h := h) t
  refine okP_of (d := .bl (isT v)) (h' := h) ?_ q
  show (match tyName h v with | some t => (kitB t "tuple").map _ | none => none) = _
  rw [e1]
  dsimp only
  rw [(kits a m).1, e2]; rfl
theorem is_s (t : tm L k v = true) (q : Q (.bl (isS v)) h) : OkP (bltF .isinstance [v, .ty "str"] h) Q := by
  obtain ⟨a, e1, m, _, e2, _⟩ := ty_tm (h := h) t
  refine okP_of (d := .bl (isS v)) (h' := h) ?_ q
  show (match tyName h v with | some t => (kitB t "str").map _ | none => none) = _
  rw [e1]
  dsimp only
  rw [(kits a m).2.1, e2]; rfl
theorem is_i (t : tm L k v = true) (q : Q (.bl (isI v)) h) : OkP (bltF .isinstance [v, .ty "int"] h) Q := by
  obtain ⟨a, e1, m, _, _, e2, _⟩ := ty_tm (h := h) t
  refine okP_of (d := .bl (isI v)) (h' := h) ?_ q
  show (match tyName h v with | some t => (kitB t "int").map _ | none => none) = _
  rw [e1]
  dsimp only
  rw [(kits a m).2.2.1, e2]; rfl
theorem is_b (t : tm L k v = true) (q : Q (.bl (isB v)) h) : OkP (bltF .isinstance [v, .ty "bool"] h) Q := by
  obtain ⟨a, e1, m, _, _, _, e2⟩ := ty_tm (h := h) t
  refine okP_of (d := .bl (isB v)) (h' := h) ?_ q
  show (match tyName h v with | some t => (kitB t "bool").map _ | none => none) = _
  rw [e1]
  dsimp only
  rw [(kits a m).2.2.2, e2]; rfl
end
theorem t_is_name : TB 1 = some f_is_name := rfl
theorem t_is_index : TB 3 = some f_is_index := rfl
theorem t_is_label : TB 33 = some f_law_is_label := rfl
theorem t_is_number : TB 34 = some f_law_is_number := rfl
def goodN : List Str := ["a", "b", "node", "zz", "label", "root", "and", "parent", "above", "not", "or", "level"]
def nameV : PV → Bool
  | .str s => goodN.contains s
  | _ => false
/-- a text of the words, computed -/
theorem by_words {P : Str → Prop} (h : P "a" ∧ P "b" ∧ P "node" ∧ P "zz" ∧ P "label" ∧ P "root" ∧ P "and" ∧ P "parent" ∧ P "above" ∧ P "not" ∧ P "or" ∧ P "level" ∧ P "" ∧ P "A" ∧ P "abcdefghi") {s : Str} (w : words.contains s = true) : P s := by
  have w : s ∈ words := by simpa using w
  simp only [words, List.mem_cons, List.not_mem_nil, or_false] at w
  obtain ⟨h1, h2, h3, h4, h5, h6, h7, h8, h9, h10, h11, h12, h13, h14, h15⟩ := h
  rcases w with rfl | rfl | rfl | rfl | rfl | rfl | rfl | rfl | rfl | rfl | rfl | rfl | rfl | rfl | rfl <;> assumption
theorem ok_eq {α : Type} {r : Zed.R α} {a : α} {h' : PHeap} {Q : α → PHeap → Prop} (e : r = .ok a h') (q : Q a h') : Ok r Q := by rw [e]; exact q
end Law
end Zed
end
section
set_option Elab.async false
set_option linter.all false
set_option maxRecDepth 100000
set_option maxHeartbeats 1000000
set_option exponentiation.threshold 10000
namespace Zed
namespace Law
open PySem L2
section
variable {n : Nat} {h : PHeap} {k L : Nat} {v : PV}
theorem not_str (t : tm L k v = true) (s : isS v = false) : nameV v = false := by
  cases v <;> first | rfl | (cases s)
theorem run_name (s : Str) (w : words.contains s = true) : ∀ (C : Orc) (h : PHeap), exSs C f_is_name.body [some (.str s), none] h = .rt (.bl (goodN.contains s)) h :=
  by_words (P := fun s => ∀ (C : Orc) (h : PHeap), exSs C f_is_name.body [some (.str s), none] h = .rt (.bl (goodN.contains s)) h) (by refine ⟨?_, ?_, ?_, ?_, ?_, ?_, ?_, ?_, ?_, ?_, ?_, ?_, ?_, ?_, ?_⟩ <;> (intro C h; rfl)) w
theorem run_label (s : Str) (w : words.contains s = true) : ∀ (C : Orc) (h : PHeap), exSs C f_law_is_label.body [some (.str s), none] h = .rt (.bl (goodN.contains s)) h :=
  by_words (P := fun s => ∀ (C : Orc) (h : PHeap), exSs C f_law_is_label.body [some (.str s), none] h = .rt (.bl (goodN.contains s)) h) (by refine ⟨?_, ?_, ?_, ?_, ?_, ?_, ?_, ?_, ?_, ?_, ?_, ?_, ?_, ?_, ?_⟩ <;> (intro C h; first | rfl | kernel_rfl)) w
theorem ok_is_name (t : tm L k v = true) : Ok (cl (n + 1) 1 [v] h) fun d h' => d = .bl (nameV v) ∧ h' = h := by
  refine (f_call t_is_name rfl rfl).mpr ?_
  by_cases s : isS v = true
  · cases v <;> simp only [isS] at s <;> first | (cases s; done) | skip
    rename_i x
    have w : words.contains x = true := by cases k <;> simpa only [tm] using t
    have e := run_name x w ⟨cl n, CT⟩ h
    show OkS (exSs _ f_is_name.body [some (.str x), none] h) _ _
    rw [e]
    exact sl_same rfl ⟨rfl, rfl⟩
  · have s : isS v = false := by simpa using s
    (unfold f_is_name; dsimp only [List.map, List.append, HAppend.hAppend, Append.append, List.replicate, Nat.reduceSub])
    walk_at "zz"
    refine is_s t ?_
    rw [s]
    walk_at "zz"
    exact sl_same rfl ⟨by rw [not_str t s], rfl⟩
theorem ok_is_label (t : tm L k v = true) : Ok (cl (n + 1) 33 [v] h) fun d h' => d = .bl (nameV v) ∧ h' = h := by
  refine (f_call t_is_label rfl rfl).mpr ?_
  by_cases s : isS v = true
  · cases v <;> simp only [isS] at s <;> first | (cases s; done) | skip
    rename_i x
    have w : words.contains x = true := by cases k <;> simpa only [tm] using t
    have e := run_label x w ⟨cl n, CT⟩ h
    show OkS (exSs _ f_law_is_label.body [some (.str x), none] h) _ _
    rw [e]
    exact sl_same rfl ⟨rfl, rfl⟩
  · have s : isS v = false := by simpa using s
    (unfold f_law_is_label; dsimp only [List.map, List.append, HAppend.hAppend, Append.append, List.replicate, Nat.reduceSub])
    walk_at "zz"
    refine is_s t ?_
    rw [s]
    walk_at "zz"
    exact sl_same rfl ⟨by rw [not_str t s], rfl⟩
/-- a number from low to high -/
def numB (v : PV) (lo hi : Int) : Bool := match v with
  | .int i => decide (lo ≤ i) && decide (i ≤ hi)
  | _ => false
def idxB (v : PV) (t : Int) : Bool := match v with
  | .int i => decide (0 ≤ i) && decide (i < t)
  | _ => false
theorem not_int (t : tm L k v = true) (s : isI v = false) : ∀ i, v ≠ .int i := fun i e => by subst e; cases s
theorem is_int (t : tm L k v = true) (s : isI v = true) (b : isB v = false) : ∃ i, v = .int i := by
  cases v <;> simp only [isI, isB] at s b <;> first | (cases s; done) | (cases b; done) | exact ⟨_, rfl⟩
theorem ok_is_index (t : tm L k v = true) {m : Int} : Ok (cl (n + 1) 3 [v, .int m] h) fun d h' => d = .bl (idxB v m) ∧ h' = h := by
  refine (f_call t_is_index rfl rfl).mpr ?_
  (unfold f_is_index; dsimp only [List.map, List.append, HAppend.hAppend, Append.append, List.replicate, Nat.reduceSub])
  walk_at "zz"
  refine is_i t ?_
  walk_at "zz"
  cases s : isI v with
  | false =>
    refine ⟨fun z => (by cases z), fun _ => sl_same rfl ⟨?_, rfl⟩⟩
    cases v <;> first | rfl | (cases s)
  | true =>
    refine ⟨fun _ => ?_, fun z => (by cases z)⟩
    walk_at "zz"
    refine is_b t ?_
    walk_at "zz"
    cases b : isB v with
    | true =>
      refine ⟨fun z => (by cases z), fun _ => sl_same rfl ⟨?_, rfl⟩⟩
      cases v <;> first | rfl | (cases b)
    | false =>
      refine ⟨fun _ => ?_, fun z => (by cases z)⟩
      obtain ⟨i, rfl⟩ := is_int t s b
      walk_at "zz"
      refine ⟨fun z => ?_, fun z => ?_⟩
      · walk_at "zz"
        exact sl_same rfl ⟨by simp only [idxB, z, Bool.true_and], rfl⟩
      · exact sl_same rfl ⟨by simp only [idxB, z, Bool.false_and], rfl⟩
theorem ok_is_number (t : tm L k v = true) {lo hi : Int} : Ok (cl (n + 1) 34 [v, .int lo, .int hi] h) fun d h' => d = .bl (numB v lo hi) ∧ h' = h := by
  refine (f_call t_is_number rfl rfl).mpr ?_
  (unfold f_law_is_number; dsimp only [List.map, List.append, HAppend.hAppend, Append.append, List.replicate, Nat.reduceSub])
  walk_at "zz"
  refine is_i t ?_
  walk_at "zz"
  cases s : isI v with
  | false =>
    refine ⟨fun z => (by cases z), fun _ => sl_same rfl ⟨?_, rfl⟩⟩
    cases v <;> first | rfl | (cases s)
  | true =>
    refine ⟨fun _ => ?_, fun z => (by cases z)⟩
    walk_at "zz"
    refine is_b t ?_
    walk_at "zz"
    cases b : isB v with
    | true =>
      refine ⟨fun z => (by cases z), fun _ => sl_same rfl ⟨?_, rfl⟩⟩
      cases v <;> first | rfl | (cases b)
    | false =>
      refine ⟨fun _ => ?_, fun z => (by cases z)⟩
      obtain ⟨i, rfl⟩ := is_int t s b
      walk_at "zz"
      refine ⟨fun z => ?_, fun z => ?_⟩
      · walk_at "zz"
        exact sl_same rfl ⟨by simp only [numB, z, Bool.true_and], rfl⟩
      · exact sl_same rfl ⟨by simp only [numB, z, Bool.false_and], rfl⟩
end
end Law
end Zed
end
section
set_option Elab.async false
set_option linter.all false
set_option maxRecDepth 100000
set_option maxHeartbeats 1000000
set_option exponentiation.threshold 10000
namespace Zed
namespace Law
open PySem L2
abbrev oneB (s : Str) : Bool := inP (.str s) [.str "parent", .str "above", .str "not"]
abbrev twoB (s : Str) : Bool := inP (.str s) [.str "and", .str "or"]
def intOf : PV → Int
  | .int i => i
  | _ => 0
def atomB (s : Str) : List PV → Bool
  | [] => s == "root"
  | [a] => s == "label" && nameV a
  | [a, b] => s == "level" && (numB b 2 4 && idxB a (intOf b))
  | _ => false
def nestB : Nat → PV → Bool
  | 0, _ => false
  | k + 1, .tup (.str s :: r) =>
    if oneB s = true then match r with
      | [a] => nestB k a
      | _ => false
    else if twoB s = true then match r with
      | [a, b] => nestB k a && nestB k b
      | _ => false
    else atomB s r
  | _, _ => false
theorem word_ok {s : Str} (w : words.contains s = true) : PyData.strOk s = true :=
  by_words (P := fun s => PyData.strOk s = true) (by refine ⟨?_, ?_, ?_, ?_, ?_, ?_, ?_, ?_, ?_, ?_, ?_, ?_, ?_, ?_, ?_⟩ <;> decide +kernel) w
theorem tm_all {L k : Nat} {ds : List PV} (t : tm L (k + 1) (.tup ds) = true) : ds.length ≤ L ∧ ∀ d ∈ ds, tm L k d = true := by
  simp only [tm, Bool.and_eq_true, decide_eq_true_eq, List.all_eq_true] at t
  exact t
theorem t_is_atom : TB 5 = some f_is_atom := rfl
theorem t_is_built : TB 4 = some f_is_built := rfl
theorem t_is_nested : TB 32 = some f_law_is_nested := rfl
section
variable {n : Nat} {h : PHeap} {k L : Nat} {v : PV}
theorem eqTup1 {s u : Str} {r : List PV} : eqTup (.str s :: r) [.str u] = some ((s == u) && r.isEmpty) := by
  cases r <;> rfl
theorem eqTup0 {d : PV} {r : List PV} : eqTup (d :: r) [] = some false := rfl
theorem lenI {ds : List PV} {m : Nat} : ((ds.length : Int) == (m : Int)) = (ds.length == m) := by
  rw [Bool.eq_iff_iff, beq_iff_eq, beq_iff_eq]; omega
theorem numB_int {b : PV} : idxB b (4 + 1) = true → ∃ i, b = .int i := by
  cases b <;> first | (intro z; exact ⟨_, rfl⟩) | (intro z; cases z)
theorem ok_is_atom {s : Str} {r : List PV} (w : words.contains s = true) (t : ∀ d ∈ r, tm L k d = true) : Ok (cl (n + 2) 5 [.tup (.str s :: r)] h) fun d h' => d = .bl (atomB s r) ∧ h' = h := by
  refine (f_call t_is_atom rfl rfl).mpr ?_
  have so := word_ok w
  (unfold f_is_atom; dsimp only [List.map, List.append, HAppend.hAppend, Append.append, List.replicate, Nat.reduceSub])
  walk_at "zy"
  refine okO_eqt eqTup1 ?_
  walk_at "zy"
  refine ⟨fun k1 => ?_, fun k1 => ?_⟩
  · walk_at "zy"
    rw [Bool.and_eq_true, beq_iff_eq, List.isEmpty_iff] at k1
    obtain ⟨rfl, rfl⟩ := k1
    exact sl_same rfl ⟨rfl, rfl⟩
  walk_at "zy"
  refine ⟨fun k2 => ?_, fun k2 => ?_⟩
  · have s2 := beq_iff_eq.mp k2
    subst s2
    match r, t with
    | [], t => walk_at "zy"; exact sl_same rfl ⟨rfl, rfl⟩
    | [a], t =>
      walk_at "zy"
      exact (ok_is_name (t a (by simp))).mono fun d h' ⟨e1, e2⟩ => by subst e1; subst e2; exact sl_same rfl ⟨rfl, rfl⟩
    | [a, b], t => walk_at "zy"; exact sl_same rfl ⟨rfl, rfl⟩
    | a :: b :: c :: r, t =>
      walk_at "zy"; exact sl_same rfl ⟨rfl, rfl⟩
  walk_at "zy"
  refine ⟨fun k3 => ?_, fun k3 => ?_⟩
  · walk_at "zy"
    refine sl_same rfl ⟨?_, rfl⟩
    have k3 : (s == "level") = false := by simpa using k3
    match r with
    | [] => simp only [atomB, List.isEmpty_nil, Bool.and_true] at k1 ⊢; rw [k1]
    | [a] => simp only [atomB, k2, Bool.false_and]
    | [a, b] => simp only [atomB, k3, Bool.false_and]
    | a :: b :: c :: r => rfl
  have k3 : (s == "level") = true := by simpa using k3
  have s3 := beq_iff_eq.mp k3
  subst s3
  match r, t with
  | [], t => walk_at "zy"; exact sl_same rfl ⟨rfl, rfl⟩
  | [a], t => walk_at "zy"; exact sl_same rfl ⟨rfl, rfl⟩
  | [a, b], t =>
    walk_at "zy"
    refine (ok_is_index (t b (by simp))).mono fun d h' ⟨e1, e2⟩ => ?_
    subst e1; subst e2
    walk_at "zy"
    refine ⟨fun k4 => ?_, fun k4 => ?_⟩
    · walk_at "zy"
      refine sl_same rfl ⟨?_, rfl⟩
      cases b with
      | int m =>
        simp only [idxB, Bool.not_eq_true', Bool.and_eq_false_iff, decide_eq_false_iff_not] at k4
        have : numB (.int m) 2 4 = false := by
          simp only [numB, Bool.and_eq_false_iff, decide_eq_false_iff_not]; omega
        simp only [atomB, this, Bool.false_and, Bool.and_false]
      | _ => rfl
    · have k4 : idxB b (4 + 1) = true := by simpa using k4
      obtain ⟨m, rfl⟩ := numB_int k4
      simp only [idxB, Bool.and_eq_true, decide_eq_true_eq] at k4
      walk_at "zy"
      refine ⟨fun k5 => ?_, fun k5 => ?_⟩
      · walk_at "zy"
        refine sl_same rfl ⟨?_, rfl⟩
        have k5 := of_decide_eq_true k5
        have : numB (.int m) 2 4 = false := by
          simp only [numB, Bool.and_eq_false_iff, decide_eq_false_iff_not]; omega
        simp only [atomB, this, Bool.false_and, Bool.and_false]
      · have k5 := of_decide_eq_false k5
        walk_at "zy"
        refine (ok_is_index (t a (by simp))).mono fun d h' ⟨e1, e2⟩ => ?_
        subst e1; subst e2
        refine sl_same rfl ⟨?_, rfl⟩
        have : numB (.int m) 2 4 = true := by
          simp only [numB, Bool.and_eq_true, decide_eq_true_eq]; omega
        simp only [atomB, this, intOf, beq_self_eq_true, Bool.true_and]
  | a :: b :: c :: r, t => walk_at "zy"; exact sl_same rfl ⟨rfl, rfl⟩
theorem nest_nt {v : PV} (z : isT v = false) : nestB k v = false := by
  cases k <;> cases v <;> first | rfl | (cases z)
theorem isT_tup (z : isT v = true) : ∃ ds, v = .tup ds := by
  cases v <;> first | exact ⟨_, rfl⟩ | (cases z)
theorem nest_ns {d : PV} {r : List PV} (z : isS d = false) : nestB k (.tup (d :: r)) = false := by
  cases k <;> cases d <;> first | rfl | (cases z)
theorem isS_str {d : PV} (z : isS d = true) : ∃ s, d = .str s := by
  cases d <;> first | exact ⟨_, rfl⟩ | (cases z)
theorem tm_word {s : Str} (t : tm L k (.str s) = true) : words.contains s = true := by cases k <;> simpa only [tm] using t
theorem ok_is_built : ∀ (D : Nat) {K : Nat} {v : PV}, tm L K v = true → Ok (cl (n + D + 3) 4 [v, .int D] h) fun d h' => d = .bl (nestB D v) ∧ h' = h := by
  intro D
  induction D with
  | zero =>
    intro K v t
    refine (f_call t_is_built rfl rfl).mpr ?_
    (unfold f_is_built; dsimp only [List.map, List.append, HAppend.hAppend, Append.append, List.replicate, Nat.reduceSub])
    walk_at "zy"
    refine is_t t ?_
    cases z : isT v with
    | false => walk_at "zy"; exact sl_same rfl ⟨rfl, rfl⟩
    | true =>
      obtain ⟨ds, rfl⟩ := isT_tup z
      obtain ⟨K, rfl⟩ : ∃ K', K = K' + 1 := ⟨K - 1, by cases K <;> first | rfl | (simp [tm] at t)⟩
      obtain ⟨_, t⟩ := tm_all t
      cases ds with
      | nil => walk_at "zy"; exact sl_same rfl ⟨rfl, rfl⟩
      | cons d r =>
        walk_at "zy"
        refine okO_eqt eqTup0 ?_
        walk_at "zy"
        refine is_s (t d (by simp)) ?_
        walk_at "zy"
        refine ⟨fun _ => ?_, fun _ => ?_⟩ <;> (walk_at "zy"; exact sl_same rfl ⟨rfl, rfl⟩)
  | succ D ih =>
    intro K v t
    refine (f_call t_is_built rfl rfl).mpr ?_
    (unfold f_is_built; dsimp only [List.map, List.append, HAppend.hAppend, Append.append, List.replicate, Nat.reduceSub])
    walk_at "zy"
    refine is_t t ?_
    cases z : isT v with
    | false => walk_at "zy"; exact sl_same rfl ⟨by rw [nest_nt z], rfl⟩
    | true =>
      obtain ⟨ds, rfl⟩ := isT_tup z
      obtain ⟨K, rfl⟩ : ∃ K', K = K' + 1 := ⟨K - 1, by cases K <;> first | rfl | (simp [tm] at t)⟩
      obtain ⟨_, t⟩ := tm_all t
      have ee : ((D + 1 : Nat) : Int) - 1 = (D : Int) := by omega
      cases ds with
      | nil => walk_at "zy"; exact sl_same rfl ⟨rfl, rfl⟩
      | cons d r =>
        walk_at "zy"
        refine okO_eqt eqTup0 ?_
        walk_at "zy"
        refine is_s (t d (by simp)) ?_
        cases zs : isS d with
        | false => walk_at "zy"; exact sl_same rfl ⟨by rw [nest_ns zs], rfl⟩
        | true =>
          obtain ⟨s, rfl⟩ := isS_str zs
          have w := tm_word (t _ List.mem_cons_self)
          have t : ∀ x ∈ r, tm L K x = true := fun x hx => t x (List.mem_cons_of_mem _ hx)
          walk_at "zy"
          refine ⟨fun k1 => ?_, fun k1 => ?_⟩
          · match r, t with
            | [], t => walk_at "zy"; exact sl_same rfl ⟨by simp only [nestB, k1, if_true]; rfl, rfl⟩
            | [a], t =>
              walk_at "zy"
              rw [ee]
              refine (ih (t a (by simp))).mono fun d h' ⟨e1, e2⟩ => ?_
              subst e1; subst e2
              exact sl_same rfl ⟨by simp only [nestB, k1, if_true], rfl⟩
            | a :: b :: r, t => walk_at "zy"; exact sl_same rfl ⟨by simp only [nestB, k1, if_true]; rfl, rfl⟩
          walk_at "zy"
          refine ⟨fun k2 => ?_, fun k2 => ?_⟩
          · match r, t with
            | [], t => walk_at "zy"; exact sl_same rfl ⟨by simp only [nestB, k1, k2, if_true]; rfl, rfl⟩
            | [a], t => walk_at "zy"; exact sl_same rfl ⟨by simp only [nestB, k1, k2, if_true]; rfl, rfl⟩
            | [a, b], t =>
              walk_at "zy"
              rw [ee]
              refine (ih (t a (by simp))).mono fun d h' ⟨e1, e2⟩ => ?_
              subst e1; subst e2
              walk_at "zy"
              refine ⟨fun k3 => ?_, fun k3 => ?_⟩
              · walk_at "zy"
                rw [ee]
                refine (ih (t b (by simp))).mono fun d h' ⟨e1, e2⟩ => ?_
                subst e1; subst e2
                exact sl_same rfl ⟨by simp only [nestB, k1, k2, k3, if_true, Bool.true_and]; rfl, rfl⟩
              · exact sl_same rfl ⟨by simp only [nestB, k1, k2, k3, if_true, Bool.false_and]; rfl, rfl⟩
            | a :: b :: c :: r, t => walk_at "zy"; exact sl_same rfl ⟨by simp only [nestB, k1, k2, if_true]; rfl, rfl⟩
          walk_at "zy"
          refine (ok_is_atom (n := n + D + 1) w t).mono fun d h' ⟨e1, e2⟩ => ?_
          subst e1; subst e2
          exact sl_same rfl ⟨by simp only [nestB, k1, k2, Bool.false_eq_true, if_false], rfl⟩
end
end Law
end Zed
end
section
set_option Elab.async false
set_option linter.all false
set_option maxRecDepth 100000
set_option maxHeartbeats 1000000
set_option exponentiation.threshold 10000
namespace Zed
namespace Law
open PySem L2
section
variable {n : Nat} {h : PHeap} {k L : Nat} {v : PV}
theorem ok_is_nested : ∀ (D : Nat) {K : Nat} {v : PV}, tm L K v = true → Ok (cl (n + D + 3) 32 [v, .int D] h) fun d h' => d = .bl (nestB D v) ∧ h' = h := by
  intro D
  induction D with
  | zero =>
    intro K v t
    refine (f_call t_is_nested rfl rfl).mpr ?_
    (unfold f_law_is_nested; dsimp only [List.map, List.append, HAppend.hAppend, Append.append, List.replicate, Nat.reduceSub])
    walk_at "zy"
    exact sl_same rfl ⟨rfl, rfl⟩
  | succ D ih =>
    intro K v t
    refine (f_call t_is_nested rfl rfl).mpr ?_
    (unfold f_law_is_nested; dsimp only [List.map, List.append, HAppend.hAppend, Append.append, List.replicate, Nat.reduceSub])
    walk_at "zy"
    refine is_t t ?_
    cases z : isT v with
    | false => walk_at "zy"; exact sl_same rfl ⟨by rw [nest_nt z], rfl⟩
    | true =>
      obtain ⟨ds, rfl⟩ := isT_tup z
      obtain ⟨K, rfl⟩ : ∃ K', K = K' + 1 := ⟨K - 1, by cases K <;> first | rfl | (simp [tm] at t)⟩
      obtain ⟨_, t⟩ := tm_all t
      have ee : ((D + 1 : Nat) : Int) - 1 = (D : Int) := by omega
      cases ds with
      | nil => walk_at "zy"; exact sl_same rfl ⟨rfl, rfl⟩
      | cons d r =>
        walk_at "zy"
        refine okO_eqt eqTup0 ?_
        walk_at "zy"
        refine is_s (t d (by simp)) ?_
        cases zs : isS d with
        | false => walk_at "zy"; exact sl_same rfl ⟨by rw [nest_ns zs], rfl⟩
        | true =>
          obtain ⟨s, rfl⟩ := isS_str zs
          have w := tm_word (t _ List.mem_cons_self)
          have so := word_ok w
          have t : ∀ x ∈ r, tm L K x = true := fun x hx => t x (List.mem_cons_of_mem _ hx)
          walk_at "zy"
          refine ⟨fun k1 => ?_, fun k1 => ?_⟩
          · match r, t with
            | [], t => walk_at "zy"; exact sl_same rfl ⟨by simp only [nestB, k1, if_true]; rfl, rfl⟩
            | [a], t =>
              walk_at "zy"
              rw [ee]
              refine (ih (t a (by simp))).mono fun d h' ⟨e1, e2⟩ => ?_
              subst e1; subst e2
              exact sl_same rfl ⟨by simp only [nestB, k1, if_true], rfl⟩
            | a :: b :: r, t => walk_at "zy"; exact sl_same rfl ⟨by simp only [nestB, k1, if_true]; rfl, rfl⟩
          walk_at "zy"
          refine ⟨fun k2 => ?_, fun k2 => ?_⟩
          · match r, t with
            | [], t => walk_at "zy"; exact sl_same rfl ⟨by simp only [nestB, k1, k2, if_true]; rfl, rfl⟩
            | [a], t => walk_at "zy"; exact sl_same rfl ⟨by simp only [nestB, k1, k2, if_true]; rfl, rfl⟩
            | [a, b], t =>
              walk_at "zy"
              refine (ok_lc (ds := [a, b]) (fun i acc h' => h' = h ∧ acc = ([a, b].take i).filter fun x => !nestB D x) (by simp) ?_ ?_ _ 0 [] h rfl (Nat.zero_le _) (Nat.le_refl _) ⟨rfl, rfl⟩).mono fun acc h3 ⟨e3, ea⟩ => ?_
              · intro i acc h' _; rfl
              · intro i d acc h' hd ⟨e1, ea⟩
                subst e1; subst ea
                dsimp only [wipeP, List.set]
                walk_at "zy"
                rw [ee]
                have md : d ∈ [a, b] := List.mem_of_getElem? hd
                refine (ih (t d md)).mono fun x h' ⟨e1, e2⟩ => ?_
                subst e1; subst e2
                walk_at "zy"
                have tk : [a, b].take (i + 1) = [a, b].take i ++ [d] := by rw [List.take_succ, hd]; rfl
                rw [tk, List.filter_append]
                refine ⟨fun z => ?_, fun z => ?_⟩
                · exact ⟨rfl, by simp [z]⟩
                · walk_at "zy"; exact ⟨rfl, by simp [z]⟩
              subst e3; subst ea
              walk_at "zy"
              exact sl_same rfl ⟨by
                simp only [nestB, k1, k2, if_true]
                simp only [List.length_cons, List.length_nil, List.take, List.filter]
                cases nestB D a <;> cases nestB D b <;> rfl, rfl⟩
            | a :: b :: c :: r, t => walk_at "zy"; exact sl_same rfl ⟨by simp only [nestB, k1, k2, if_true]; rfl, rfl⟩
          have un : nestB (D + 1) (.tup (.str s :: r)) = atomB s r := by simp only [nestB, k1, k2, Bool.false_eq_true, if_false]
          rw [un]
          walk_at "zy"
          refine ⟨fun k3 => ?_, fun k3 => ?_⟩
          · have s3 := beq_iff_eq.mp k3
            subst s3
            match r, t with
            | [], t => walk_at "zy"; exact sl_same rfl ⟨rfl, rfl⟩
            | [a], t =>
              walk_at "zy"
              refine (ok_is_label (t a (by simp))).mono fun d h' ⟨e1, e2⟩ => ?_
              subst e1; subst e2; exact sl_same rfl ⟨rfl, rfl⟩
            | a :: b :: r, t => walk_at "zy"; exact sl_same rfl ⟨by cases r <;> rfl, rfl⟩
          walk_at "zy"
          refine ⟨fun k4 => ?_, fun k4 => ?_⟩
          · have s4 := beq_iff_eq.mp k4
            subst s4
            match r, t with
            | [], t => walk_at "zy"; exact sl_same rfl ⟨rfl, rfl⟩
            | [a], t => walk_at "zy"; exact sl_same rfl ⟨rfl, rfl⟩
            | [a, b], t =>
              walk_at "zy"
              refine (ok_is_number (t b (by simp))).mono fun d h' ⟨e1, e2⟩ => ?_
              subst e1; subst e2
              walk_at "zy"
              refine ⟨fun k5 => ?_, fun k5 => ?_⟩
              · obtain ⟨m, rfl⟩ : ∃ m, b = .int m := by cases b <;> first | exact ⟨_, rfl⟩ | (cases k5)
                walk_at "zy"
                refine (ok_is_number (t a (by simp))).mono fun d h' ⟨e1, e2⟩ => ?_
                subst e1; subst e2
                refine sl_same rfl ⟨?_, rfl⟩
                have : numB a 0 (m - 1) = idxB a m := by
                  cases a <;> first | rfl | skip
                  simp only [numB, idxB]
                  congr 1
                  rw [decide_eq_decide]; omega
                simp only [atomB, k5, this, intOf, beq_self_eq_true, Bool.true_and]
              · exact sl_same rfl ⟨by simp only [atomB, k5, Bool.false_and, Bool.and_false], rfl⟩
            | a :: b :: c :: r, t => walk_at "zy"; exact sl_same rfl ⟨rfl, rfl⟩
          walk_at "zy"
          refine okO_eqt eqTup1 ?_
          refine sl_same rfl ⟨?_, rfl⟩
          match r with
          | [] => simp only [atomB, List.isEmpty_nil, Bool.and_true]
          | [a] => simp only [atomB, k3, Bool.false_and, List.isEmpty_cons, Bool.and_false]
          | [a, b] => simp only [atomB, k4, Bool.false_and, List.isEmpty_cons, Bool.and_false]
          | a :: b :: c :: r => simp only [atomB, List.isEmpty_cons, Bool.and_false]
end
end Law
end Zed
end
section
set_option Elab.async false
set_option linter.all false
set_option maxRecDepth 100000
set_option maxHeartbeats 1000000
set_option exponentiation.threshold 10000
namespace Zed
namespace Law
open PySem L2
def kids : E → List E
  | .parent e => [e]
  | .above e => [e]
  | .neg e => [e]
  | .conj a b => [a, b]
  | .disj a b => [a, b]
  | _ => []
def post : E → List E
  | .parent e => post e ++ [.parent e]
  | .above e => post e ++ [.above e]
  | .neg e => post e ++ [.neg e]
  | .conj a b => post a ++ post b ++ [.conj a b]
  | .disj a b => post a ++ post b ++ [.disj a b]
  | e => [e]
def pre : E → List E
  | .parent e => .parent e :: pre e
  | .above e => .above e :: pre e
  | .neg e => .neg e :: pre e
  | .conj a b => .conj a b :: (pre a ++ pre b)
  | .disj a b => .disj a b :: (pre a ++ pre b)
  | e => [e]
theorem post_kids (e : E) : post e = (kids e).flatMap post ++ [e] := by cases e <;> simp [post, kids]
theorem pre_kids (e : E) : pre e = e :: (kids e).flatMap pre := by cases e <;> simp [pre, kids]
theorem post_len : ∀ e, (post e).length = sz e
  | .parent e => by simp [post, sz, post_len e]
  | .above e => by simp [post, sz, post_len e]
  | .neg e => by simp [post, sz, post_len e]
  | .conj a b => by simp [post, sz, post_len a, post_len b]; omega
  | .disj a b => by simp [post, sz, post_len a, post_len b]; omega
  | .label _ => rfl
  | .root => rfl
  | .level _ _ => rfl
theorem pre_len : ∀ e, (pre e).length = sz e
  | .parent e => by simp [pre, sz, pre_len e]
  | .above e => by simp [pre, sz, pre_len e]
  | .neg e => by simp [pre, sz, pre_len e]
  | .conj a b => by simp [pre, sz, pre_len a, pre_len b]
  | .disj a b => by simp [pre, sz, pre_len a, pre_len b]
  | .label _ => rfl
  | .root => rfl
  | .level _ _ => rfl
theorem kid_sz {e c : E} (m : c ∈ kids e) : sz c < sz e ∧ dp c < dp e := by
  cases e <;> simp only [kids, List.mem_cons, List.not_mem_nil, or_false] at m <;> first | (cases m; done) | skip
  all_goals (simp only [sz, dp]; rcases m with rfl | rfl <;> omega)
theorem flat_le {f : E → List E} {l : List E} (i : Nat) : ((l.take i).flatMap f).length ≤ (l.flatMap f).length := by
  conv => rhs; rw [← List.take_append_drop i l, List.flatMap_append, List.length_append]
  omega
theorem flat_step {f : E → List E} {l : List E} {i : Nat} {c : E} (hc : l[i]? = some c) : (l.take (i + 1)).flatMap f = (l.take i).flatMap f ++ f c := by
  rw [List.take_succ, hc, List.flatMap_append]; simp
theorem pvs_cl {n : Nat} : ∀ l : List E, clVs n (l.map pv) = true
  | [] => rfl
  | e :: r => by simp [clVs, pv_cl e, pvs_cl r]
theorem t_inner : TB 6 = some f_inner_of := rfl
theorem t_parts : TB 7 = some f_parts_of := rfl
theorem t_lparts : TB 17 = some f_law_parts := rfl
theorem ok_inner {n : Nat} {h : PHeap} (e : E) : Ok (cl (n + 1) 6 [pv e] h) fun d h' => d = .tup ((kids e).map pv) ∧ h' = h := by
  refine (f_call t_inner rfl rfl).mpr ?_
  have c := pvs_cl (n := 0) (kids e)
  cases e <;> ((unfold f_inner_of; dsimp only [List.map, List.append, HAppend.hAppend, Append.append, List.replicate, Nat.reduceSub]); walk_at "zy"; exact sl_same c ⟨rfl, rfl⟩)
theorem ok_parts : ∀ (z : Nat) (e : E), sz e ≤ z → sz e ≤ 100 → ∀ (N : Nat) (h : PHeap), dp e + 2 ≤ N → Ok (cl N 7 [pv e] h) fun d h' => d = .fl ((post e).map pv) ∧ h' = h := by
  intro z
  induction z with
  | zero => intro e hz; cases e <;> simp only [sz] at hz <;> omega
  | succ z ih =>
    intro e hz h100 N h hN
    obtain ⟨n, rfl⟩ := up1 hN
    refine (f_call t_parts rfl rfl).mpr ?_
    (unfold f_parts_of; dsimp only [List.map, List.append, HAppend.hAppend, Append.append, List.replicate, Nat.reduceSub])
    walk_at "zy"
    obtain ⟨m, rfl⟩ := up1 (a := 0) (show 1 ≤ n by omega)
    refine (ok_inner e).mono fun d h1 ⟨e1, e2⟩ => ?_
    subst e1; subst e2
    walk_at "zy"
    have pl := post_len e
    rw [post_kids, List.length_append, List.length_singleton] at pl
    refine ok_for (ds := (kids e).map pv) (fun i l h' => (∃ x, l = [some (pv e), some (.ref h.length), x]) ∧ h' = h ++ [.lst ((((kids e).take i).flatMap post).map pv)]) ?_ ?_ ?_ _ 0 _ _ rfl (Nat.zero_le _) ⟨⟨_, rfl⟩, rfl⟩
    · intro i l h' _; rfl
    · intro i d l h' hd ⟨⟨x, el⟩, eh⟩
      subst el; subst eh
      rw [List.getElem?_map] at hd
      cases hc : (kids e)[i]? with
      | none => rw [hc] at hd; cases hd
      | some c =>
        rw [hc] at hd; cases hd
        have kc := kid_sz (List.mem_of_getElem? hc)
        walk_at "zy"
        refine ⟨rcv_lst get_new, ?_⟩
        walk_at "zy"
        refine (ih c (by omega) (by omega) (m + 1) _ (by omega)).mono fun d h1 ⟨e1, e2⟩ => ?_
        subst e1; subst e2
        walk_at "zy"
        have fl := flat_le (f := post) (l := kids e) (i + 1)
        rw [flat_step hc, List.length_append] at fl
        refine okP_ext get_new rfl rfl (by rw [List.length_map, List.length_map]; omega) ?_
        refine ⟨⟨_, rfl⟩, ?_⟩
        rw [set_new, flat_step hc, List.map_append]
    · intro l h' ⟨⟨x, el⟩, eh⟩
      subst el; subst eh
      rw [List.length_map, List.take_length]
      walk_at "zy"
      refine okO_seq get_new ?_
      walk_at "zy"
      refine okL (by rw [List.length_append, List.length_map, List.length_singleton]; omega) ?_
      have e3 : ((kids e).flatMap post).map pv ++ [pv e] = (post e).map pv := by rw [post_kids, List.map_append]; rfl
      rw [e3]
      exact sl_app (by simpa only [clV, clO] using pvs_cl (post e)) ⟨rfl, rfl⟩
theorem okP_isT {h : PHeap} {Q : PV → PHeap → Prop} (c : E) (q : Q (.bl true) h) : OkP (bltF .isinstance [pv c, .ty "tuple"] h) Q := by
  cases c <;> exact okP_of rfl q
/-- the items behind the word: expressions, or none is a tuple -/
theorem pv_args (e : E) : ∃ s r, pv e = .tup (.str s :: r) ∧ ((r = (kids e).map pv) ∨ (kids e = [] ∧ ∀ d ∈ r, (∃ x, d = .str x) ∨ ∃ i, d = .int i)) := by
  cases e <;> first | exact ⟨_, _, rfl, .inl rfl⟩ | exact ⟨_, _, rfl, .inr ⟨rfl, by simp⟩⟩
theorem ok_lparts : ∀ (z : Nat) (e : E), sz e ≤ z → sz e ≤ 100 → ∀ (N : Nat) (h : PHeap), dp e + 2 ≤ N → Ok (cl N 17 [pv e] h) fun d h' => d = .fl ((pre e).map pv) ∧ h' = h := by
  intro z
  induction z with
  | zero => intro e hz; cases e <;> simp only [sz] at hz <;> omega
  | succ z ih =>
    intro e hz h100 N h hN
    obtain ⟨n, rfl⟩ := up1 hN
    refine (f_call t_lparts rfl rfl).mpr ?_
    (unfold f_law_parts; dsimp only [List.map, List.append, HAppend.hAppend, Append.append, List.replicate, Nat.reduceSub])
    obtain ⟨s, r, er, hr⟩ := pv_args e
    walk_at "zy"
    have pl := pre_len e
    rw [pre_kids, List.length_cons] at pl
    have fin : ∀ h1 : PHeap, h1 = h ++ [.lst ((pre e).map pv)] → Seal h (.ref h.length) h1 fun d h' => d = .fl ((pre e).map pv) ∧ h' = h := fun h1 e1 => by
      subst e1
      exact sl_lst rfl get_new (Nat.le_refl _) (pvs_cl (pre e)) ⟨rfl, rfl⟩
    rw [er]
    walk_at "zy"
    rcases hr with rfl | ⟨k0, hr⟩
    · refine ok_for (ds := (kids e).map pv) (fun i l h' => (∃ x, l = [some (.tup (.str s :: (kids e).map pv)), some (.ref h.length), x]) ∧ h' = h ++ [.lst (pv e :: (((kids e).take i).flatMap pre).map pv)]) ?_ ?_ ?_ _ 0 _ _ rfl (Nat.zero_le _) ⟨⟨_, rfl⟩, by rw [er]; rfl⟩
      · intro i l h' _; rfl
      · intro i d l h' hd ⟨⟨x, el⟩, eh⟩
        subst el; subst eh
        rw [List.getElem?_map] at hd
        cases hc : (kids e)[i]? with
        | none => rw [hc] at hd; cases hd
        | some c =>
          rw [hc] at hd; cases hd
          have kc := kid_sz (List.mem_of_getElem? hc)
          walk_at "zy"
          refine okP_isT c ?_
          walk_at "zy"
          refine ⟨rcv_lst get_new, ?_⟩
          walk_at "zy"
          refine (ih c (by omega) (by omega) n _ (by omega)).mono fun d h1 ⟨e1, e2⟩ => ?_
          subst e1; subst e2
          walk_at "zy"
          have fl := flat_le (f := pre) (l := kids e) (i + 1)
          rw [flat_step hc, List.length_append] at fl
          refine okP_ext get_new rfl rfl (by rw [List.length_cons, List.length_map, List.length_map]; omega) ?_
          walk_at "zy"
          refine ⟨⟨_, rfl⟩, ?_⟩
          rw [set_new, flat_step hc, List.map_append]; rfl
      · intro l h' ⟨⟨x, el⟩, eh⟩
        subst el; subst eh
        rw [List.length_map, List.take_length]
        walk_at "zy"
        exact fin _ (by rw [pre_kids]; rfl)
    · refine ok_for (ds := r) (fun i l h' => (∃ x, l = [some (.tup (.str s :: r)), some (.ref h.length), x]) ∧ h' = h ++ [.lst [pv e]]) ?_ ?_ ?_ _ 0 _ _ rfl (Nat.zero_le _) ⟨⟨_, rfl⟩, by rw [er]⟩
      · intro i l h' _; rfl
      · intro i d l h' hd ⟨⟨x, el⟩, eh⟩
        subst el; subst eh
        walk_at "zy"
        rcases hr d (List.mem_of_getElem? hd) with ⟨x, rfl⟩ | ⟨i, rfl⟩
        · walk_at "zy"; exact ⟨⟨_, rfl⟩, rfl⟩
        · walk_at "zy"; exact ⟨⟨_, rfl⟩, rfl⟩
      · intro l h' ⟨⟨x, el⟩, eh⟩
        subst el; subst eh
        walk_at "zy"
        exact fin _ (by rw [pre_kids, k0]; rfl)
/-! what is an expression -/
def okN : E → Prop
  | .label s => goodN.contains s = true
  | .root => True
  | .level r m => 0 ≤ r ∧ r < m ∧ 2 ≤ m ∧ m ≤ 4
  | .parent e => okN e
  | .above e => okN e
  | .neg e => okN e
  | .conj a b => okN a ∧ okN b
  | .disj a b => okN a ∧ okN b
theorem one_word {s : Str} (k : oneB s = true) : s = "parent" ∨ s = "above" ∨ s = "not" := by
  simp only [oneB, inP, List.any_cons, List.any_nil, eqP, Bool.or_eq_true, Bool.or_false, beq_iff_eq] at k
  rcases k with rfl | rfl | rfl <;> simp
theorem two_word {s : Str} (k : twoB s = true) : s = "and" ∨ s = "or" := by
  simp only [twoB, inP, List.any_cons, List.any_nil, eqP, Bool.or_eq_true, Bool.or_false, beq_iff_eq] at k
  rcases k with rfl | rfl <;> simp
theorem nest_E : ∀ (D : Nat) (v : PV), nestB D v = true → ∃ e, v = pv e ∧ okN e ∧ dp e ≤ D := by
  intro D
  induction D with
  | zero => intro v k; cases k
  | succ D ih =>
    intro v k
    cases z : isT v with
    | false => rw [nest_nt z] at k; cases k
    | true =>
      obtain ⟨ds, rfl⟩ := isT_tup z
      cases ds with
      | nil => cases k
      | cons d r =>
      cases zs : isS d with
      | false => rw [nest_ns zs] at k; cases k
      | true =>
      obtain ⟨s, rfl⟩ := isS_str zs
      simp only [nestB] at k
      split at k
      · rename_i k1
        split at k
        · rename_i a
          obtain ⟨e, rfl, o, d⟩ := ih a k
          rcases one_word k1 with rfl | rfl | rfl
          · exact ⟨.parent e, rfl, o, by simp only [dp]; omega⟩
          · exact ⟨.above e, rfl, o, by simp only [dp]; omega⟩
          · exact ⟨.neg e, rfl, o, by simp only [dp]; omega⟩
        · cases k
      · split at k
        · rename_i k2
          split at k
          · rename_i a b
            rw [Bool.and_eq_true] at k
            obtain ⟨e, rfl, o, d⟩ := ih a k.1
            obtain ⟨e', rfl, o', d'⟩ := ih b k.2
            rcases two_word k2 with rfl | rfl
            · exact ⟨.conj e e', rfl, ⟨o, o'⟩, by simp only [dp]; omega⟩
            · exact ⟨.disj e e', rfl, ⟨o, o'⟩, by simp only [dp]; omega⟩
          · cases k
        · unfold atomB at k
          split at k
          · rw [beq_iff_eq] at k; subst k; exact ⟨.root, rfl, trivial, by simp only [dp]; omega⟩
          · rename_i a
            rw [Bool.and_eq_true, beq_iff_eq] at k
            obtain ⟨rfl, k⟩ := k
            cases a <;> first | (cases k; done) | skip
            rename_i x
            exact ⟨.label x, rfl, k, by simp only [dp]; omega⟩
          · rename_i a b
            simp only [Bool.and_eq_true, beq_iff_eq] at k
            obtain ⟨rfl, k1, k2⟩ := k
            cases b <;> first | (cases k1; done) | skip
            cases a <;> first | (cases k2; done) | skip
            simp only [numB, idxB, intOf, Bool.and_eq_true, decide_eq_true_eq] at k1 k2
            exact ⟨.level _ _, rfl, ⟨by simpa using k2.1, of_decide_eq_true k2.2, by simpa using k1.1, by simpa using k1.2⟩, by simp only [dp]; omega⟩
          · cases k
end Law
end Zed
end
section
set_option Elab.async false
set_option linter.all false
set_option maxRecDepth 100000
set_option maxHeartbeats 1000000
set_option exponentiation.threshold 10000
namespace Zed
namespace Law
open PySem L2
def nk : E → NestedKey
  | .label s => .tup [.text "label", .text s]
  | .root => .tup [.text "root"]
  | .level r m => .tup [.text "level", .num r, .num m]
  | .parent e => .tup [.text "parent", nk e]
  | .above e => .tup [.text "above", nk e]
  | .neg e => .tup [.text "not", nk e]
  | .conj a b => .tup [.text "and", nk a, nk b]
  | .disj a b => .tup [.text "or", nk a, nk b]
theorem nk_pv : ∀ e, nkOf (pv e) = some (nk e)
  | .label s => by simp only [pv, nk, nkOf, nkOfs]; rfl
  | .root => by simp only [pv, nk, nkOf, nkOfs]; rfl
  | .level r m => by simp only [pv, nk, nkOf, nkOfs]; rfl
  | .parent e => by simp only [pv, nk, nkOf, nkOfs, nk_pv e]; rfl
  | .above e => by simp only [pv, nk, nkOf, nkOfs, nk_pv e]; rfl
  | .neg e => by simp only [pv, nk, nkOf, nkOfs, nk_pv e]; rfl
  | .conj a b => by simp only [pv, nk, nkOf, nkOfs, nk_pv a, nk_pv b]; rfl
  | .disj a b => by simp only [pv, nk, nkOf, nkOfs, nk_pv a, nk_pv b]; rfl
theorem nk_depth : ∀ e, (nk e).depth = dp e
  | .label s => rfl
  | .root => rfl
  | .level r m => rfl
  | .parent e => by have := nk_depth e; simp only [nk, dp, NestedKey.depth, NestedKey.depthAll]; omega
  | .above e => by have := nk_depth e; simp only [nk, dp, NestedKey.depth, NestedKey.depthAll]; omega
  | .neg e => by have := nk_depth e; simp only [nk, dp, NestedKey.depth, NestedKey.depthAll]; omega
  | .conj a b => by have h1 := nk_depth a; have h2 := nk_depth b; simp only [nk, dp, NestedKey.depth, NestedKey.depthAll]; omega
  | .disj a b => by have h1 := nk_depth a; have h2 := nk_depth b; simp only [nk, dp, NestedKey.depth, NestedKey.depthAll]; omega
def wd : NestedKey → Str
  | .tup (.text x :: _) => x
  | _ => ""
theorem nk_inj (a : E) : ∀ b, nk a = nk b → a = b := by
  induction a with
  | label s =>
    intro b h
    have hw := congrArg wd h
    cases b <;> simp only [nk, wd] at hw <;> first | exact absurd hw (by decide +kernel) | skip
    simp only [nk, NestedKey.tup.injEq, List.cons.injEq, NestedKey.text.injEq, and_true, true_and] at h
    rw [h]
  | root =>
    intro b h
    have hw := congrArg wd h
    cases b <;> simp only [nk, wd] at hw <;> first | exact absurd hw (by decide +kernel) | rfl
  | level r m =>
    intro b h
    have hw := congrArg wd h
    cases b <;> simp only [nk, wd] at hw <;> first | exact absurd hw (by decide +kernel) | skip
    simp only [nk, NestedKey.tup.injEq, List.cons.injEq, NestedKey.num.injEq, and_true, true_and] at h
    rw [h.1, h.2]
  | parent e ih =>
    intro b h
    have hw := congrArg wd h
    cases b <;> simp only [nk, wd] at hw <;> first | exact absurd hw (by decide +kernel) | skip
    simp only [nk, NestedKey.tup.injEq, List.cons.injEq, and_true, true_and] at h
    rw [ih _ h]
  | above e ih =>
    intro b h
    have hw := congrArg wd h
    cases b <;> simp only [nk, wd] at hw <;> first | exact absurd hw (by decide +kernel) | skip
    simp only [nk, NestedKey.tup.injEq, List.cons.injEq, and_true, true_and] at h
    rw [ih _ h]
  | neg e ih =>
    intro b h
    have hw := congrArg wd h
    cases b <;> simp only [nk, wd] at hw <;> first | exact absurd hw (by decide +kernel) | skip
    simp only [nk, NestedKey.tup.injEq, List.cons.injEq, and_true, true_and] at h
    rw [ih _ h]
  | conj x y ih1 ih2 =>
    intro b h
    have hw := congrArg wd h
    cases b <;> simp only [nk, wd] at hw <;> first | exact absurd hw (by decide +kernel) | skip
    simp only [nk, NestedKey.tup.injEq, List.cons.injEq, and_true, true_and] at h
    rw [ih1 _ h.1, ih2 _ h.2]
  | disj x y ih1 ih2 =>
    intro b h
    have hw := congrArg wd h
    cases b <;> simp only [nk, wd] at hw <;> first | exact absurd hw (by decide +kernel) | skip
    simp only [nk, NestedKey.tup.injEq, List.cons.injEq, and_true, true_and] at h
    rw [ih1 _ h.1, ih2 _ h.2]
theorem pv_inj {a b : E} (h : pv a = pv b) : a = b := by
  have := congrArg nkOf h
  rw [nk_pv, nk_pv] at this
  exact nk_inj a b (Option.some.inj this)
theorem sz_lt : ∀ e : E, sz e < 2 ^ dp e
  | .parent e => by have := sz_lt e; simp only [sz, dp, Nat.pow_succ]; omega
  | .above e => by have := sz_lt e; simp only [sz, dp, Nat.pow_succ]; omega
  | .neg e => by have := sz_lt e; simp only [sz, dp, Nat.pow_succ]; omega
  | .conj a b => by
    have h1 := sz_lt a
    have h2 := sz_lt b
    have h3 : 2 ^ dp a ≤ 2 ^ max (dp a) (dp b) := Nat.pow_le_pow_right (by decide) (by omega)
    have h4 : 2 ^ dp b ≤ 2 ^ max (dp a) (dp b) := Nat.pow_le_pow_right (by decide) (by omega)
    simp only [sz, dp, Nat.pow_succ]; omega
  | .disj a b => by
    have h1 := sz_lt a
    have h2 := sz_lt b
    have h3 : 2 ^ dp a ≤ 2 ^ max (dp a) (dp b) := Nat.pow_le_pow_right (by decide) (by omega)
    have h4 : 2 ^ dp b ≤ 2 ^ max (dp a) (dp b) := Nat.pow_le_pow_right (by decide) (by omega)
    simp only [sz, dp, Nat.pow_succ]; omega
  | .label _ => by simp [sz, dp]
  | .root => by simp [sz, dp]
  | .level _ _ => by simp [sz, dp]
theorem sz5 {e : E} (d : dp e ≤ 5) : sz e ≤ 31 := by
  have h1 := sz_lt e
  have h2 : 2 ^ dp e ≤ 2 ^ 5 := Nat.pow_le_pow_right (by decide) d
  omega
theorem E_nest : ∀ (D : Nat) (e : E), okN e → dp e ≤ D → nestB D (pv e) = true := by
  intro D
  induction D with
  | zero => intro e _ d; cases e <;> simp only [dp] at d <;> omega
  | succ D ih =>
    intro e o d
    cases e with
    | label s => show (s, goodN.contains s).2 = true; exact o
    | root => rfl
    | level r m =>
      obtain ⟨h1, h2, h3, h4⟩ := o
      show (numB (.int m) 2 4 && idxB (.int r) m) = true
      simp only [numB, idxB, Bool.and_eq_true, decide_eq_true_eq]; omega
    | parent a => exact ih a o (by simp only [dp] at d; omega)
    | above a => exact ih a o (by simp only [dp] at d; omega)
    | neg a => exact ih a o (by simp only [dp] at d; omega)
    | conj a b => show (nestB D (pv a) && nestB D (pv b)) = true; rw [ih a o.1 (by simp only [dp] at d; omega), ih b o.2 (by simp only [dp] at d; omega)]; rfl
    | disj a b => show (nestB D (pv a) && nestB D (pv b)) = true; rw [ih a o.1 (by simp only [dp] at d; omega), ih b o.2 (by simp only [dp] at d; omega)]; rfl
structure Ex5 (e : E) : Prop where
  ok : okN e
  dp : dp e ≤ 5
  sz : sz e ≤ 9
def Due (v : PV) : Prop := ∃ e, v = pv e ∧ Ex5 e
open Classical in
noncomputable def dueB (v : PV) : Bool := decide (Due v)
theorem due_nest {v : PV} (z : nestB 5 v = false) : dueB v = false := by
  unfold dueB
  rw [decide_eq_false_iff_not]
  rintro ⟨e, rfl, o⟩
  rw [E_nest 5 e o.ok o.dp] at z; cases z
theorem due_pv {e : E} (o : okN e) (d : dp e ≤ 5) : dueB (pv e) = decide ((sz e : Int) ≤ 9) := by
  unfold dueB
  rw [decide_eq_decide]
  constructor
  · rintro ⟨e', he, o'⟩
    have := pv_inj he
    subst this
    have := o'.sz
    omega
  · intro z; exact ⟨e, rfl, o, d, by omega⟩
theorem t_is_expr : TB 8 = some f_is_expression := rfl
theorem t_due : TB 36 = some f_law_due := rfl
section
variable {h : PHeap} {K L : Nat} {v : PV}
theorem ok_is_expr (t : tm L K v = true) (n : Nat) : Ok (cl (n + 9) 8 [v] h) fun d h' => d = .bl (dueB v) ∧ h' = h := by
  refine (f_call t_is_expr rfl rfl).mpr ?_
  (unfold f_is_expression; dsimp only [List.map, List.append, HAppend.hAppend, Append.append, List.replicate, Nat.reduceSub])
  walk_at "zy"
  refine (ok_is_built (n := n) 5 t).mono fun d h' ⟨e1, e2⟩ => ?_
  subst e1; subst e2
  walk_at "zy"
  refine ⟨fun k => ?_, fun k => sl_same rfl ⟨by rw [due_nest k, k], rfl⟩⟩
  obtain ⟨e, rfl, o, dd⟩ := nest_E 5 v k
  have s5 := sz5 dd
  walk_at "zy"
  refine (ok_parts _ e (Nat.le_refl _) (by omega) (n + 8) h' (by omega)).mono fun d h2 ⟨e1, e2⟩ => ?_
  subst e1; subst e2
  walk_at "zy"
  refine sl_same rfl ⟨?_, rfl⟩
  rw [due_pv o dd, List.length_map, post_len]
theorem ok_due (t : tm L K v = true) (n : Nat) : Ok (cl (n + 9) 36 [v] h) fun d h' => d = .bl (dueB v) ∧ h' = h := by
  refine (f_call t_due rfl rfl).mpr ?_
  (unfold f_law_due; dsimp only [List.map, List.append, HAppend.hAppend, Append.append, List.replicate, Nat.reduceSub])
  walk_at "zy"
  refine (ok_is_nested (n := n) 5 t).mono fun d h' ⟨e1, e2⟩ => ?_
  subst e1; subst e2
  walk_at "zy"
  refine ⟨fun k => ?_, fun k => sl_same rfl ⟨by rw [due_nest k, k], rfl⟩⟩
  obtain ⟨e, rfl, o, dd⟩ := nest_E 5 v k
  have s5 := sz5 dd
  walk_at "zy"
  refine (ok_lparts _ e (Nat.le_refl _) (by omega) (n + 8) h' (by omega)).mono fun d h2 ⟨e1, e2⟩ => ?_
  subst e1; subst e2
  walk_at "zy"
  refine sl_same rfl ⟨?_, rfl⟩
  rw [due_pv o dd, List.length_map, pre_len]
  congr 1
  rw [decide_eq_decide]; omega
end
end Law
end Zed
end
section
set_option Elab.async false
set_option linter.all false
set_option maxRecDepth 100000
set_option maxHeartbeats 1000000
set_option exponentiation.threshold 10000
namespace Zed
namespace Law
open PySem L2
/-! the parts in their order -/
def Closed (l : List E) : Prop := ∀ i p, l[i]? = some p → ∀ c ∈ kids p, c ∈ l.take i
theorem Closed.app {l l' : List E} (a : Closed l) (b : Closed l') : Closed (l ++ l') := by
  intro i p hp c hc
  by_cases q : i < l.length
  · rw [List.getElem?_append_left q] at hp
    rw [List.take_append_of_le_length (by omega)]
    exact a i p hp c hc
  · rw [List.getElem?_append_right (by omega)] at hp
    rw [List.take_append, List.mem_append]
    exact .inr (b _ p hp c hc)
theorem Closed.add {l : List E} {x : E} (a : Closed l) (k : ∀ c ∈ kids x, c ∈ l) : Closed (l ++ [x]) := by
  intro i p hp c hc
  by_cases q : i < l.length
  · rw [List.getElem?_append_left q] at hp
    rw [List.take_append_of_le_length (by omega)]
    exact a i p hp c hc
  · rw [List.getElem?_append_right (by omega)] at hp
    rw [List.take_append, List.mem_append]
    have : p = x := by
      cases z : i - l.length with
      | zero => rw [z] at hp; exact (Option.some.inj hp).symm
      | succ j => rw [z] at hp; cases hp
    subst this
    exact .inl (by rw [List.take_of_length_le (by omega)]; exact k c hc)
theorem self_post : ∀ e, e ∈ post e
  | .parent e => by simp [post]
  | .above e => by simp [post]
  | .neg e => by simp [post]
  | .conj a b => by simp [post]
  | .disj a b => by simp [post]
  | .label _ => by simp [post]
  | .root => by simp [post]
  | .level _ _ => by simp [post]
theorem closed_leaf {x : E} (h : kids x = []) : Closed [x] := by
  have := Closed.add (l := []) (x := x) (fun i p hp => by cases hp) (by rw [h]; exact fun c hc => nomatch hc)
  exact this
theorem closed_post : ∀ e, Closed (post e)
  | .parent e => (closed_post e).add (by intro c hc; simp only [kids, List.mem_singleton] at hc; subst hc; exact self_post c)
  | .above e => (closed_post e).add (by intro c hc; simp only [kids, List.mem_singleton] at hc; subst hc; exact self_post c)
  | .neg e => (closed_post e).add (by intro c hc; simp only [kids, List.mem_singleton] at hc; subst hc; exact self_post c)
  | .conj a b => ((closed_post a).app (closed_post b)).add (by
      intro c hc
      simp only [kids, List.mem_cons, List.not_mem_nil, or_false] at hc
      rw [List.mem_append]
      rcases hc with rfl | rfl
      · exact .inl (self_post c)
      · exact .inr (self_post c))
  | .disj a b => ((closed_post a).app (closed_post b)).add (by
      intro c hc
      simp only [kids, List.mem_cons, List.not_mem_nil, or_false] at hc
      rw [List.mem_append]
      rcases hc with rfl | rfl
      · exact .inl (self_post c)
      · exact .inr (self_post c))
  | .label _ => closed_leaf rfl
  | .root => closed_leaf rfl
  | .level _ _ => closed_leaf rfl
theorem kid_ok {e c : E} (m : c ∈ kids e) (o : okN e) : okN c := by
  cases e <;> simp only [kids, List.mem_cons, List.not_mem_nil, or_false] at m <;> first | (cases m; done) | skip
  all_goals (simp only [okN] at o; rcases m with rfl | rfl <;> first | exact o | exact o.1 | exact o.2)
theorem post_ok : ∀ (z : Nat) (e : E), sz e ≤ z → okN e → ∀ p ∈ post e, okN p ∧ dp p ≤ dp e := by
  intro z
  induction z with
  | zero => intro e hz; cases e <;> simp only [sz] at hz <;> omega
  | succ z ih =>
    intro e hz o p m
    rw [post_kids, List.mem_append, List.mem_flatMap, List.mem_singleton] at m
    rcases m with ⟨c, mc, m⟩ | rfl
    · have k := kid_sz mc
      obtain ⟨o1, o2⟩ := ih c (by omega) (kid_ok mc o) p m
      exact ⟨o1, by omega⟩
    · exact ⟨o, Nat.le_refl _⟩
/-! what is held: a dict from parts to truth values -/
def pairB (p : PV × PV) : Bool := isTupP p.1 && ((nkOf p.1).isSome && (clV 0 p.1 && isB p.2))
structure HD (kvs : List (PV × PV)) (S : List E) : Prop where
  all : ∀ p ∈ kvs, pairB p = true
  len : kvs.length ≤ S.length
  val : ∀ q ∈ S, ∃ b, dFind kvs (nk q) = some (.bl b)
theorem isT_pv (e : E) : isTupP (pv e) = true := by cases e <;> rfl
theorem pair_pv (e : E) (b : Bool) : pairB (pv e, .bl b) = true := by
  simp only [pairB, isT_pv, nk_pv, pv_cl, isB, Option.isSome_some, Bool.and_self]
theorem fits {kvs : List (PV × PV)} {e : E} (h : ∀ p ∈ kvs, pairB p = true) (d : dp e ≤ 8) : fitsK kvs (pv e) (nk e) = true := by
  unfold fitsK
  have : (kvs.all fun p => isTupP p.1) = true := by
    rw [List.all_eq_true]
    intro p hp
    have := h p hp
    simp only [pairB, Bool.and_eq_true] at this
    exact this.1
  rw [isT_pv, nk_depth, decide_eq_true d, this]; simp
theorem HD.get {kvs : List (PV × PV)} {S : List E} {q : E} (hd : HD kvs S) (m : q ∈ S) (d : dp q ≤ 8) : ∃ b, dGetF kvs (pv q) = some (.bl b) := by
  obtain ⟨b, hb⟩ := hd.val q m
  refine ⟨b, ?_⟩
  unfold dGetF
  rw [nk_pv]
  dsimp only
  rw [if_pos (fits hd.all d), hb]
theorem HD.put {kvs : List (PV × PV)} {S : List E} {q : E} {b : Bool} (hd : HD kvs S) (d : dp q ≤ 8) (hl : S.length ≤ 500) : ∃ kvs', dPutF kvs (pv q) (.bl b) = some kvs' ∧ HD kvs' (S ++ [q]) := by
  refine ⟨dStore kvs (nk q) (pv q) (.bl b), ?_, ⟨?_, ?_, ?_⟩⟩
  · unfold dPutF
    rw [nk_pv]
    dsimp only
    have := hd.len
    rw [fits hd.all d, decide_eq_true (Nat.lt_of_lt_of_le (by omega : kvs.length < 1000) (line_of (Nat.le_refl _)))]; rfl
  · intro p hp
    unfold dStore at hp
    split at hp
    · obtain ⟨y, hy, rfl⟩ := List.mem_map.mp hp
      have := hd.all y hy
      split
      · simp only [pairB, Bool.and_eq_true] at this ⊢
        exact ⟨this.1, this.2.1, this.2.2.1, rfl⟩
      · exact this
    · rcases List.mem_append.mp hp with hp | hp
      · exact hd.all p hp
      · rw [List.mem_singleton.mp hp]; exact pair_pv q b
  · have := hd.len
    have h2 := @store_len kvs (nk q) (pv q) (.bl b)
    rw [List.length_append]; simp; omega
  · intro x hx
    rw [find_store (nk_pv q)]
    by_cases z : nk q = nk x
    · rw [if_pos z]; exact ⟨b, rfl⟩
    · rw [if_neg z]
      rcases List.mem_append.mp hx with hx | hx
      · exact hd.val x hx
      · rw [List.mem_singleton.mp hx] at z; exact absurd rfl z
theorem HD.nil : HD [] [] := ⟨(fun _ h => nomatch h), Nat.le_refl _, (fun _ h => nomatch h)⟩
theorem HD.frz {kvs : List (PV × PV)} {S : List E} (hd : HD kvs S) {h1 : PHeap} {n k : Nat} : frzO (frzV h1 n k) (.dic kvs) = some (.dic kvs) := by
  have key : ∀ l : List (PV × PV), (∀ p ∈ l, pairB p = true) → mapO (fun p => if (nkOf p.1).isSome then (frzV h1 n k p.2).map fun v => (p.1, v) else none) l = some l := fun l => by
    induction l with
    | nil => intro _; rfl
    | cons p r ih =>
      intro hl
      have hp := hl p List.mem_cons_self
      simp only [pairB, Bool.and_eq_true] at hp
      obtain ⟨_, h2, h3, h4⟩ := hp
      obtain ⟨a, b⟩ := p
      cases b <;> first | (cases h4; done) | skip
      simp only [mapO]
      rw [if_pos h2, frz_cl rfl, ih fun p hp => hl p (List.mem_cons_of_mem _ hp)]; rfl
  simp only [frzO, key kvs hd.all]; rfl
def Abv (S : List E) (v : PV) : Prop := v = .non ∨ ∃ d kvs, v = .fz (.ins 29 [(27, .int d), (26, .fz (.dic kvs))]) ∧ HD kvs S
theorem own26 : ownF CT 29 26 = true := rfl
theorem own27 : ownF CT 29 27 = true := rfl
theorem t_holds_at : TB 28 = some f_holds_at := rfl
theorem t_init : TB 30 = some f_Node___init__ := rfl
theorem t_below : TB 12 = some f_node_below := rfl
theorem t_holds : TB 21 = some f_holds := rfl
theorem t_level_of : TB 9 = some f_level_of := rfl
theorem good_ok {s : Str} (g : goodN.contains s = true) : PyData.strOk s = true := by
  refine word_ok ?_
  have : s ∈ goodN := by simpa using g
  simp only [goodN, List.mem_cons, List.not_mem_nil, or_false] at this
  rcases this with rfl | rfl | rfl | rfl | rfl | rfl | rfl | rfl | rfl | rfl | rfl | rfl <;> decide
def isBl (d : PV) : Prop := ∃ b, d = .bl b
theorem ok_holds_at {n : Nat} {h : PHeap} {p : E} {s : Str} {dd : Int} {v : PV} {S S0 : List E} {hd : Nat} {kvs : List (PV × PV)} (o : okN p) (hs : PyData.strOk s = true) (a : Abv S v) (g : h[hd]? = some (.dic kvs)) (H : HD kvs S0) (k0 : ∀ c ∈ kids p, c ∈ S0) (k1 : ∀ c ∈ kids p, c ∈ S) (k2 : p ∈ S) (d8 : dp p ≤ 8) :
    Ok (cl (n + 1) 28 [pv p, .str s, .int dd, v, .ref hd] h) fun d h' => isBl d ∧ h' = h := by
  refine (f_call t_holds_at rfl rfl).mpr ?_
  have fin : ∀ b, Seal h (.bl b) h fun d h' => isBl d ∧ h' = h := fun b => sl_same rfl ⟨⟨b, rfl⟩, rfl⟩
  cases p with
  | label t =>
    have to := good_ok o
    (unfold f_holds_at; dsimp only [List.map, List.append, HAppend.hAppend, Append.append, List.replicate, Nat.reduceSub])
    walk_at "zy"
    exact fin _
  | root =>
    rcases a with rfl | ⟨_, kv, rfl, a⟩ <;> ((unfold f_holds_at; dsimp only [List.map, List.append, HAppend.hAppend, Append.append, List.replicate, Nat.reduceSub]); walk_at "zy"; exact fin _)
  | level r m =>
    obtain ⟨p1, p2, p3, p4⟩ := o
    (unfold f_holds_at; dsimp only [List.map, List.append, HAppend.hAppend, Append.append, List.replicate, Nat.reduceSub])
    walk_at "zy"
    refine okP_mod (by omega) ?_
    walk_at "zy"
    exact fin _
  | parent c =>
    have dc : dp c + 1 ≤ 8 := d8
    rcases a with rfl | ⟨_, kv, rfl, a⟩
    · (unfold f_holds_at; dsimp only [List.map, List.append, HAppend.hAppend, Append.append, List.replicate, Nat.reduceSub]); walk_at "zy"; exact fin _
    · obtain ⟨b, eb⟩ := a.get (k1 c (by simp [kids])) (by omega)
      (unfold f_holds_at; dsimp only [List.map, List.append, HAppend.hAppend, Append.append, List.replicate, Nat.reduceSub])
      walk_at "zy"
      refine okO_getDF eb ?_
      exact fin _
  | above c =>
    have dc : dp c + 1 ≤ 8 := d8
    rcases a with rfl | ⟨_, kv, rfl, a⟩
    · (unfold f_holds_at; dsimp only [List.map, List.append, HAppend.hAppend, Append.append, List.replicate, Nat.reduceSub]); walk_at "zy"; exact fin _
    · obtain ⟨b, eb⟩ := a.get (k1 c (by simp [kids])) (by omega)
      obtain ⟨b', eb'⟩ := a.get k2 d8
      (unfold f_holds_at; dsimp only [List.map, List.append, HAppend.hAppend, Append.append, List.replicate, Nat.reduceSub])
      walk_at "zy"
      refine okO_getDF (show dGetF kv (pv (.above c)) = _ from eb') ?_
      walk_at "zy"
      refine ⟨fun _ => fin _, fun _ => ?_⟩
      walk_at "zy"
      refine okO_getDF eb ?_
      exact fin _
  | neg c =>
    have dc : dp c + 1 ≤ 8 := d8
    obtain ⟨b, eb⟩ := H.get (k0 c (by simp [kids])) (by omega)
    (unfold f_holds_at; dsimp only [List.map, List.append, HAppend.hAppend, Append.append, List.replicate, Nat.reduceSub])
    walk_at "zy"
    refine okO_getD g eb ?_
    walk_at "zy"
    exact fin _
  | conj c c' =>
    have dc : max (dp c) (dp c') + 1 ≤ 8 := d8
    obtain ⟨b, eb⟩ := H.get (k0 c (by simp [kids])) (by omega)
    obtain ⟨b', eb'⟩ := H.get (k0 c' (by simp [kids])) (by omega)
    (unfold f_holds_at; dsimp only [List.map, List.append, HAppend.hAppend, Append.append, List.replicate, Nat.reduceSub])
    walk_at "zy"
    refine okO_getD g eb ?_
    walk_at "zy"
    refine ⟨fun _ => ?_, fun _ => fin _⟩
    walk_at "zy"
    refine okO_getD g eb' ?_
    exact fin _
  | disj c c' =>
    have dc : max (dp c) (dp c') + 1 ≤ 8 := d8
    obtain ⟨b, eb⟩ := H.get (k0 c (by simp [kids])) (by omega)
    obtain ⟨b', eb'⟩ := H.get (k0 c' (by simp [kids])) (by omega)
    (unfold f_holds_at; dsimp only [List.map, List.append, HAppend.hAppend, Append.append, List.replicate, Nat.reduceSub])
    walk_at "zy"
    refine okO_getD g eb ?_
    walk_at "zy"
    refine ⟨fun _ => fin _, fun _ => ?_⟩
    walk_at "zy"
    refine okO_getD g eb' ?_
    exact fin _
end Law
end Zed
end
section
set_option Elab.async false
set_option linter.all false
set_option maxRecDepth 100000
set_option maxHeartbeats 1000000
set_option exponentiation.threshold 10000
namespace Zed
namespace Law
open PySem L2
theorem ok_init {n : Nat} {h : PHeap} {d : PV} {v : PV} : Ok (cl (n + 1) 30 [.ref h.length, d, v] (h ++ [.ins 29 []])) fun x h' => x = .non ∧ h' = h ++ [.ins 29 [(27, d), (26, v)]] := by
  obtain ⟨g, eg⟩ : ∃ g, g = h ++ [PObj.ins 29 []] := ⟨_, rfl⟩
  rw [← eg]
  have e0 : g[h.length]? = some (.ins 29 []) := eg ▸ get_new
  have e9 : h ++ [.ins 29 [(27, d), (26, v)]] = (g.set h.length (.ins 29 [(27, d)])).set h.length (.ins 29 [(27, d), (26, v)]) := by rw [eg, set_new, set_new]
  rw [e9]
  clear e9 eg
  refine (f_open t_init rfl rfl).mpr ?_
  (unfold f_Node___init__; dsimp only [List.map, List.append, HAppend.hAppend, Append.append, List.replicate, Nat.reduceSub])
  walk_at "zy"
  refine okO_fld e0 own27 (Nat.le_of_ble_eq_true rfl) ?_
  walk_at "zy"
  refine okO_fld (get_self e0) own26 (Nat.le_of_ble_eq_true rfl) ?_
  walk_at "zy"
  exact ⟨rfl, rfl⟩
def belowB : Sxs := (.cons (.put (.loc 4) (.loc 5) (.call 28 (.cons (.loc 5) (.cons (.loc 2) (.cons (.loc 3) (.cons (.loc 1) (.cons (.loc 4) .nil))))))) .nil)
theorem ok_level_of {n : Nat} {h : PHeap} {i : Int} : Ok (cl (n + 1) 9 [.int i] h) fun d h' => d = .int ((i - 1) % 12 + 1) ∧ h' = h := by
  refine (f_call t_level_of rfl rfl).mpr ?_
  (unfold f_level_of; dsimp only [List.map, List.append, HAppend.hAppend, Append.append, List.replicate, Nat.reduceSub])
  walk_at "zy"
  exact sl_same rfl ⟨rfl, rfl⟩
def Nd (S : List E) (v : PV) : Prop := ∃ d kvs, v = .fz (.ins 29 [(27, .int d), (26, .fz (.dic kvs))]) ∧ HD kvs S
theorem sl_node {h : PHeap} {kvs : List (PV × PV)} {S : List E} {dd : Int} (H : HD kvs S) {Q : PV → PHeap → Prop} (q : Q (.fz (.ins 29 [(27, .int dd), (26, .fz (.dic kvs))])) h) :
    Seal h (.ref (h ++ [PObj.dic kvs]).length) (h ++ [.dic kvs] ++ [.ins 29 [(27, .int dd), (26, .ref h.length)]]) Q := by
  refine ⟨_, h, ?_, by rw [List.append_assoc]; exact seal_app' h _, q⟩
  have g1 : (h ++ [.dic kvs] ++ [PObj.ins 29 [(27, .int dd), (26, .ref h.length)]])[(h ++ [PObj.dic kvs]).length]? = some (.ins 29 [(27, .int dd), (26, .ref h.length)]) := get_new
  have g2 : (h ++ [.dic kvs] ++ [PObj.ins 29 [(27, .int dd), (26, .ref h.length)]])[h.length]? = some (.dic kvs) := by
    rw [List.getElem?_append_left (by simp)]; exact get_new
  generalize h ++ [.dic kvs] ++ [PObj.ins 29 [(27, .int dd), (26, .ref h.length)]] = h1 at g1 g2
  unfold frzV
  rw [if_neg (by simp [clV])]
  dsimp only
  rw [g1]
  have e2 : frzV h1 h.length 5 (.ref h.length) = some (.fz (.dic kvs)) := by
    unfold frzV
    rw [if_neg (by simp [clV])]
    dsimp only
    rw [g2]
    show (frzO (frzV h1 h.length 4) (.dic kvs)).map PV.fz = _
    rw [H.frz]; rfl
  show (frzO (frzV h1 h.length 5) (.ins 29 [(27, .int dd), (26, .ref h.length)])).map PV.fz = _
  simp only [frzO, mapO, e2, frz_cl (show clV h.length (.int dd) = true from rfl), Option.map]
theorem ok_below {n : Nat} {h : PHeap} {e : E} {v : PV} {s : Str} (o : okN e) (d5 : dp e ≤ 5) (s9 : sz e ≤ 9) (hs : PyData.strOk s = true) (a : Abv (post e) v) :
    Ok (cl (n + 3) 12 [.fl ((post e).map pv), v, .str s] h) fun d h' => Nd (post e) d ∧ h' = h := by
  refine (f_call t_below rfl rfl).mpr ?_
  have rest : ∀ (dd : Int) {N : Loc → PHeap → Prop} {T : PV → PHeap → Prop}, (∀ x kvs, HD kvs (post e) → N [some (.fl ((post e).map pv)), some v, some (.str s), some (.int dd), some (.ref h.length), x] (h ++ [.dic kvs])) →
      OkS (forLoop (.nm 5) (.seq ((post e).map pv)) (exSs ⟨cl (n + 2), CT⟩ belowB) (((post e).map pv).length + 1) 0 [some (.fl ((post e).map pv)), some v, some (.str s), some (.int dd), some (.ref h.length), none] (h ++ [.dic []])) N T := fun dd N T k => by
    refine ok_for (ds := (post e).map pv) (fun i l h' => (∃ x, l = [some (.fl ((post e).map pv)), some v, some (.str s), some (.int dd), some (.ref h.length), x]) ∧ ∃ kvs, h' = h ++ [.dic kvs] ∧ HD kvs ((post e).take i)) ?_ ?_ ?_ _ 0 _ _ rfl (Nat.zero_le _) ⟨⟨_, rfl⟩, _, rfl, .nil⟩
    · intro i l h' _; rfl
    · intro i d l h' hd ⟨⟨x, el⟩, kvs, eh, H⟩
      subst el; subst eh
      rw [List.getElem?_map] at hd
      cases hc : (post e)[i]? with
      | none => rw [hc] at hd; cases hd
      | some p =>
        rw [hc] at hd; cases hd
        have pm := List.mem_of_getElem? hc
        obtain ⟨po, pd⟩ := post_ok _ e (Nat.le_refl _) o p pm
        have pl := post_len e
        have cl := closed_post e i p hc
        unfold belowB
        walk_at "zy"
        refine (ok_holds_at (n := n + 1) po hs a get_new H cl (fun c hc => List.mem_of_mem_take (cl c hc)) pm (by omega)).mono fun d h1 ⟨⟨b, e1⟩, e2⟩ => ?_
        subst e1; subst e2
        walk_at "zy"
        obtain ⟨kvs', e3, H'⟩ := H.put (q := p) (b := b) (by omega) (by rw [List.length_take]; omega)
        refine okO_putD get_new e3 ?_
        walk_at "zy"
        refine ⟨⟨_, rfl⟩, kvs', set_new, ?_⟩
        rw [List.take_succ, hc]; exact H'
    · intro l h' ⟨⟨x, el⟩, kvs, eh, H⟩
      subst el; subst eh
      rw [List.length_map, List.take_length] at H
      exact k x kvs H
  have last : ∀ (dd : Int) (x : Option PV) kvs, HD kvs (post e) → OkS (exSs ⟨cl (n + 2), CT⟩ (.cons (.ret (.make 29 30 (.cons (.loc 3) (.cons (.loc 4) .nil)))) .nil) [some (.fl ((post e).map pv)), some v, some (.str s), some (.int dd), some (.ref h.length), x] (h ++ [.dic kvs])) (fun _ h1 => Seal h .non h1 fun d h' => Nd (post e) d ∧ h' = h) (fun d h1 => Seal h d h1 fun d h' => Nd (post e) d ∧ h' = h) := fun dd x kvs H => by
    walk_at "zy"
    refine w_make.mpr ?_
    walk_at "zy"
    refine ok_init.mono fun d h1 ⟨e1, e2⟩ => ⟨e1, ?_⟩
    subst e2
    exact sl_node H ⟨⟨dd, kvs, rfl, H⟩, rfl⟩
  rcases a with rfl | ⟨d0, kv, rfl, a⟩
  · (unfold f_node_below; dsimp only [List.map, List.append, HAppend.hAppend, Append.append, List.replicate, Nat.reduceSub])
    walk_at "zy"
    exact rest 1 (last 1)
  · (unfold f_node_below; dsimp only [List.map, List.append, HAppend.hAppend, Append.append, List.replicate, Nat.reduceSub])
    walk_at "zy"
    refine (ok_level_of (n := n + 1)).mono fun d h1 ⟨e1, e2⟩ => ?_
    subst e1; subst e2
    walk_at "zy"
    exact rest _ (last _)
end Law
end Zed
end
section
set_option Elab.async false
set_option linter.all false
set_option maxRecDepth 100000
set_option maxHeartbeats 1000000
set_option exponentiation.threshold 10000
namespace Zed
namespace Law
open PySem L2
theorem t_is_row : TB 2 = some f_is_row := rfl
theorem t_is_way : TB 11 = some f_is_way := rfl
theorem t_req : TB 10 = some f_require_expression := rfl
theorem ok_is_way {n : Nat} {h : PHeap} : Ok (cl (n + 3) 11 [.tup [.str "a", .str "b"]] h) fun d h' => d = .bl true ∧ h' = h := by
  refine (f_call t_is_way rfl rfl).mpr ?_
  (unfold f_is_way; dsimp only [List.map, List.append, HAppend.hAppend, Append.append, List.replicate, Nat.reduceSub])
  walk_at "zy"
  refine (f_call t_is_row rfl rfl).mpr ?_
  (unfold f_is_row; dsimp only [List.map, List.append, HAppend.hAppend, Append.append, List.replicate, Nat.reduceSub])
  walk_at "zy"
  refine (ok_lc (ds := [.str "a", .str "b"]) (fun i acc h' => h' = h ∧ acc = List.replicate i (.bl true)) (by decide) ?_ ?_ _ 0 [] h rfl (Nat.zero_le _) (Nat.le_refl _) ⟨rfl, rfl⟩).mono fun acc h3 ⟨e3, ea⟩ => ?_
  · intro i acc h' _; rfl
  · intro i d acc h' hd ⟨e1, ea⟩
    subst e1; subst ea
    dsimp only [wipeP, List.set]
    have md : d = .str "a" ∨ d = .str "b" := by simpa using List.mem_of_getElem? hd
    have tn : tm 1 1 d = true ∧ nameV d = true := by rcases md with rfl | rfl <;> decide
    walk_at "zy"
    refine ⟨fun z => (by cases z), fun _ => ?_⟩
    walk_at "zy"
    refine (ok_is_name (n := n) tn.1).mono fun x h' ⟨e1, e2⟩ => ?_
    subst e1; subst e2
    exact ⟨rfl, by rw [tn.2, List.replicate_succ']⟩
  subst e3; subst ea
  walk_at "zy"
  refine sl_same rfl ?_
  walk_at "zy"
  refine okO_of (a := true) (by kernel_rfl) ?_
  exact sl_same rfl ⟨rfl, rfl⟩
theorem seal_same {n : Nat} (h : PHeap) : sealH n h h = some h := by simpa using seal_app' (n := n) h []
section
variable {h : PHeap} {K L : Nat} {v : PV}
theorem req_good {n : Nat} {e : E} (o : Ex5 e) (t : tm L K (pv e) = true) : Ok (cl (n + 10) 10 [pv e] h) fun d h' => d = .non ∧ h' = h := by
  refine (f_call t_req rfl rfl).mpr ?_
  (unfold f_require_expression; dsimp only [List.map, List.append, HAppend.hAppend, Append.append, List.replicate, Nat.reduceSub])
  walk_at "zy"
  refine (ok_is_expr t n).mono fun d h' ⟨e1, e2⟩ => ?_
  subst e1; subst e2
  rw [due_pv o.ok o.dp, decide_eq_true (by have := o.sz; omega)]
  walk_at "zy"
  exact sl_same rfl ⟨rfl, rfl⟩
theorem req_bad {n : Nat} {X : XP} {Q : PV → PHeap → Prop} (z : dueB v = false) (t : tm L K v = true) (x : X (.gl 31) [] h) : Okx X (cl (n + 10) 10 [v] h) Q := by
  refine (f_callx t_req rfl rfl).mpr ?_
  (unfold f_require_expression; dsimp only [List.map, List.append, HAppend.hAppend, Append.append, List.replicate, Nat.reduceSub])
  walk_at "zy"
  refine (ok_is_expr t n).mono fun d h' ⟨e1, e2⟩ => ?_
  subst e1; subst e2
  rw [z]
  walk_at "zy"
  exact ⟨rfl, _, seal_same _, x⟩
theorem holds_bad {n : Nat} {X : XP} {Q : PV → PHeap → Prop} {w : PV} (z : dueB v = false) (t : tm L K v = true) (x : X (.gl 31) [] h) : Okx X (cl (n + 11) 21 [v, w] h) Q := by
  refine (f_callx t_holds rfl rfl).mpr ?_
  (unfold f_holds; dsimp only [List.map, List.append, HAppend.hAppend, Append.append, List.replicate, Nat.reduceSub])
  walk_at "zy"
  refine req_bad z t ?_
  exact ⟨rfl, _, seal_same _, x⟩
theorem holds_good {n : Nat} {e : E} (o : Ex5 e) (t : tm L K (pv e) = true) : Ok (cl (n + 11) 21 [pv e, .tup [.str "a", .str "b"]] h) fun d h' => h' = h := by
  refine (f_call t_holds rfl rfl).mpr ?_
  have d5 := o.dp
  have s9 := o.sz
  (unfold f_holds; dsimp only [List.map, List.append, HAppend.hAppend, Append.append, List.replicate, Nat.reduceSub])
  walk_at "zy"
  refine (req_good o t).mono fun d h' ⟨e1, e2⟩ => ?_
  subst e1; subst e2
  walk_at "zy"
  refine (ok_is_way (n := n + 7)).mono fun d h2 ⟨e1, e2⟩ => ?_
  subst e1; subst e2
  walk_at "zy"
  refine (ok_parts _ e (Nat.le_refl _) (by omega) (n + 10) h2 (by omega)).mono fun d h3 ⟨e1, e2⟩ => ?_
  subst e1; subst e2
  walk_at "zy"
  refine ok_for (ds := [.str "a", .str "b"]) (fun i l h' => h' = h3 ∧ ∃ x y, l = [some (pv e), some (.tup [.str "a", .str "b"]), x, some (.fl ((post e).map pv)), some y] ∧ (0 < i → Nd (post e) y) ∧ Abv (post e) y) ?_ ?_ ?_ _ 0 _ _ rfl (Nat.zero_le _) ⟨rfl, _, _, rfl, fun z => absurd z (by omega), .inl rfl⟩
  · intro i l h' _; rfl
  · intro i d l h' hd ⟨e1, x, y, el, _, a⟩
    subst e1; subst el
    have md : d = .str "a" ∨ d = .str "b" := by simpa using List.mem_of_getElem? hd
    obtain ⟨s, rfl, so⟩ : ∃ s, d = .str s ∧ PyData.strOk s = true := by
      rcases md with rfl | rfl
      · exact ⟨_, rfl, by decide +kernel⟩
      · exact ⟨_, rfl, by decide +kernel⟩
    walk_at "zy"
    refine (ok_below (n := n + 7) o.ok d5 s9 so a).mono fun d h4 ⟨nd, e2⟩ => ?_
    subst e2
    walk_at "zy"
    exact ⟨rfl, _, _, rfl, fun _ => nd, .inr nd⟩
  · intro l h' ⟨e1, x, y, el, nd, _⟩
    subst e1; subst el
    obtain ⟨d0, kv, rfl, a⟩ := nd (by decide)
    obtain ⟨b, eb⟩ := a.get (q := e) (by rw [post_kids]; simp) (by omega)
    walk_at "zy"
    refine okO_getDF eb ?_
    exact sl_same rfl rfl
theorem em_met : CT.met 37 = some (([(39, "document"), (40, "question"), (41, "reader"), (31, "operation")] : List (Nat × Str)), ("fine" : Str)) := rfl
/-- what the call of holds tells -/
theorem ok_met {n : Nat} {l : Loc} {i : Nat} {T : PV → PHeap → Prop} (t : tm L K v = true) (el : l[i]? = some (some v)) (q : T (.str (if dueB v = true then "fine" else "operation")) h) :
    Ok (evE ⟨cl (n + 11), CT⟩ (.met 37 (.call 21 (.cons (.loc i) (.cons (.tup (.cons (.con (.str "a")) (.cons (.con (.str "b")) .nil))) .nil)))) l h) T := by
  refine x_met em_met ?_
  walk_at "zy"
  cases z : dueB v with
  | false =>
    rw [z] at q
    refine holds_bad z t ⟨31, rfl, ?_⟩
    exact q
  | true =>
    rw [z] at q
    have : Due v := by simpa [dueB] using z
    obtain ⟨e, rfl, o⟩ := this
    refine (holds_good o t).mono fun d h' e1 => ?_
    subst e1
    exact q
end
end Law
end Zed
end
section
set_option Elab.async false
set_option linter.all false
set_option maxRecDepth 100000
set_option maxHeartbeats 1000000
set_option exponentiation.threshold 10000
namespace Zed
namespace Law
open PySem L2
theorem t_judged : TB 38 = some f_law_judged := rfl
theorem t_spoilt : TB 35 = some f_law_spoilt := rfl
section
variable {h : PHeap} {K L : Nat} {v : PV}
theorem ok_judged {n : Nat} (t : tm L K v = true) : Ok (cl (n + 12) 38 [v] h) fun d h' => d = .bl true ∧ h' = h := by
  refine (f_call t_judged rfl rfl).mpr ?_
  (unfold f_law_judged; dsimp only [List.map, List.append, HAppend.hAppend, Append.append, List.replicate, Nat.reduceSub])
  walk_at "zy"
  refine (ok_due t (n + 2)).mono fun d h' ⟨e1, e2⟩ => ?_
  subst e1; subst e2
  walk_at "zy"
  refine (ok_is_expr t (n + 2)).mono fun d h2 ⟨e1, e2⟩ => ?_
  subst e1; subst e2
  walk_at "zy"
  refine ok_met (n := n) t rfl ?_
  cases z : dueB v with
  | true =>
    walk_at "zy"
    refine okP_of (d := .str "[True, 'fine']") (h' := h2) (by kernel_rfl) ?_
    walk_at "zy"
    refine okP_of (d := .str "[True, 'fine']") (h' := h2) (by kernel_rfl) ?_
    walk_at "zy"
    exact sl_same rfl ⟨rfl, rfl⟩
  | false =>
    walk_at "zy"
    refine okP_of (d := .str "[False, 'operation']") (h' := h2) (by kernel_rfl) ?_
    walk_at "zy"
    refine okP_of (d := .str "[False, 'operation']") (h' := h2) (by kernel_rfl) ?_
    walk_at "zy"
    exact sl_same rfl ⟨rfl, rfl⟩
end
theorem tm_up {L L' : Nat} (hL : L ≤ L') : ∀ (K K' : Nat) (v : PV), K ≤ K' → tm L K v = true → tm L' K' v = true
  | K, K', .non, _, _ => by cases K' <;> rfl
  | K, K', .bl _, _, _ => by cases K' <;> rfl
  | K, K', .int _, _, _ => by cases K' <;> rfl
  | K, K', .str s, _, t => by
    have t : words.contains s = true := by cases K <;> simpa only [tm] using t
    cases K' <;> simpa only [tm] using t
  | K + 1, K' + 1, .tup ds, k, t => by
    simp only [tm, Bool.and_eq_true, decide_eq_true_eq, List.all_eq_true] at t ⊢
    exact ⟨by omega, fun d hd => tm_up hL K K' d (by omega) (t.2 d hd)⟩
  | K + 1, K' + 1, .fz (.lst ds), k, t => by
    simp only [tm, Bool.and_eq_true, decide_eq_true_eq, List.all_eq_true] at t ⊢
    exact ⟨by omega, fun d hd => tm_up hL K K' d (by omega) (t.2 d hd)⟩
  | K, K', .fz (.dic []), _, _ => by cases K' <;> rfl
  | K, _, .fz (.dic (_ :: _)), _, t => by cases K <;> simp [tm] at t
  | K, _, .fz (.set _), _, t => by cases K <;> simp [tm] at t
  | K, _, .fz (.ins _ _), _, t => by cases K <;> simp [tm] at t
  | 0, _, .tup _, _, t => by simp [tm] at t
  | 0, _, .fz (.lst _), _, t => by simp [tm] at t
  | _ + 1, 0, .tup _, k, _ => by omega
  | _ + 1, 0, .fz (.lst _), k, _ => by omega
  | K, _, .ref _, _, t => by cases K <;> simp [tm] at t
  | K, _, .ty _, _, t => by cases K <;> simp [tm] at t
  | K, _, .gl _, _, t => by cases K <;> simp [tm] at t
  | K, _, .scr _, _, t => by cases K <;> simp [tm] at t
theorem clvs_all {n : Nat} : ∀ {ds : List PV}, (∀ d ∈ ds, clV n d = true) → clVs n ds = true
  | [], _ => rfl
  | d :: r, k => by simp only [clVs, Bool.and_eq_true]; exact ⟨k d List.mem_cons_self, clvs_all fun x hx => k x (List.mem_cons_of_mem _ hx)⟩
theorem tm_cl {L : Nat} : ∀ (K : Nat) (v : PV), tm L K v = true → clV 0 v = true
  | K, .non, _ => rfl
  | K, .bl _, _ => rfl
  | K, .int _, _ => rfl
  | K, .str _, _ => rfl
  | K + 1, .tup ds, t => by
    simp only [tm, Bool.and_eq_true, decide_eq_true_eq, List.all_eq_true] at t
    simp only [clV]
    exact clvs_all fun d hd => tm_cl K d (t.2 d hd)
  | K + 1, .fz (.lst ds), t => by
    simp only [tm, Bool.and_eq_true, decide_eq_true_eq, List.all_eq_true] at t
    simp only [clV, clO]
    exact clvs_all fun d hd => tm_cl K d (t.2 d hd)
  | K, .fz (.dic []), _ => rfl
  | K, .fz (.dic (_ :: _)), t => by cases K <;> simp [tm] at t
  | K, .fz (.set _), t => by cases K <;> simp [tm] at t
  | K, .fz (.ins _ _), t => by cases K <;> simp [tm] at t
  | 0, .tup _, t => by simp [tm] at t
  | 0, .fz (.lst _), t => by simp [tm] at t
  | K, .ref _, t => by cases K <;> simp [tm] at t
  | K, .ty _, t => by cases K <;> simp [tm] at t
  | K, .gl _, t => by cases K <;> simp [tm] at t
  | K, .scr _, t => by cases K <;> simp [tm] at t
theorem tm_tup {L K : Nat} {ds : List PV} (hl : ds.length ≤ L) (k : ∀ d ∈ ds, tm L K d = true) : tm L (K + 1) (.tup ds) = true := by
  simp only [tm, Bool.and_eq_true, decide_eq_true_eq, List.all_eq_true]; exact ⟨hl, k⟩
theorem tm_lst {L K : Nat} {ds : List PV} (hl : ds.length ≤ L) (k : ∀ d ∈ ds, tm L K d = true) : tm L (K + 1) (.fl ds) = true := by
  simp only [tm, Bool.and_eq_true, decide_eq_true_eq, List.all_eq_true]; exact ⟨hl, k⟩
theorem ok_one_ofR {n i j : Nat} {B : Int} {h : PHeap} {ds : List PV} (d : Dc h i B) (e : h[j]? = some (.lst ds)) (ne : j ≠ i) (h0 : ds ≠ []) (hz : ds.length < 1000) (hb : B < 2 ^ 100) (hc : ∀ x ∈ ds, clV 0 x = true) :
    Ok (cl (n + 2) 14 [.ref i, .ref j] h) fun d h' => d ∈ ds ∧ Dr i (B + 1) h h' := by
  refine (f_call t_one_of rfl rfl).mpr ?_
  (unfold f_law_one_of; dsimp only [List.map, List.append, HAppend.hAppend, Append.append, List.replicate, Nat.reduceSub])
  walk_at "zy"
  refine okP_len e ?_
  walk_at "zy"
  have hp : 0 < ds.length := List.length_pos_iff.mpr h0
  refine (ok_roll d (by omega) hb (by omega)).mono fun x h' ⟨r, er, r0, r1, f⟩ => ?_
  subst er
  obtain ⟨y, y1, y2, _⟩ := atI_mem r0 r1
  refine okO_get ((f.get ne).trans e) y1 ?_
  exact sl_dr0 f (hc y y2) ⟨y2, f⟩
theorem okP_catT {h : PHeap} {xs ys : List PV} {Q : PV → PHeap → Prop} (hl : xs.length + ys.length ≤ 1000) (q : Q (.tup (xs ++ ys)) h) : OkP (bopF .add [.tup xs, .tup ys] h) Q := by
  refine okP_of ?_ q
  show addF (.tup xs) (.tup ys) h = _
  simp only [addF]
  rw [if_pos (line_of hl)]
theorem okO_getT {h : PHeap} {ds : List PV} {k : Int} {d : PV} {Q : PV → Prop} (g : atI ds k = some d) (q : Q d) : OkO (getF (.tup ds) (.int k) h) Q := okO_of g q
def odd16 : List PV := [.non, .int 0, .bl true, .str "", .str "A", .str "label", .str "root", .str "and", .tup [], .fl [], .fz (.dic []), .tup [.str "root"], .int 4, .int (-1), .str "abcdefghi", .str "a"]
def odd17 : List PV := odd16 ++ [.tup [.str "label", .str "a"]]
theorem odd_tm : ∀ d ∈ odd17, tm 3 1 d = true := by
  have : odd17.all (tm 3 1) = true := by decide +kernel
  exact List.all_eq_true.mp this
end Law
end Zed
end
section
set_option Elab.async false
set_option linter.all false
set_option maxRecDepth 100000
set_option maxHeartbeats 2000000
set_option exponentiation.threshold 10000
namespace Zed
namespace Law
open PySem L2
def spoiltB : Sxs := (.cons (.iff (.or (.not (.blt .isinstance (.cons (.loc 1) (.cons (.con (.ty "tuple")) .nil)))) (.or (.cmp .eq (.loc 1) (.tup .nil)) (.cmp .eq (.call 13 (.cons (.loc 0) (.cons (.con (.int 6)) .nil))) (.con (.int 0)))))
  (.cons (.ret (.call 14 (.cons (.loc 0) (.cons (.loc 2) .nil))))
  .nil)
  .nil)
  (.cons (.asg (.tp (.cons (.nm 3) (.cons (.nm 4) .nil))) (.tup (.cons (.call 13 (.cons (.loc 0) (.cons (.blt .len (.cons (.loc 1) .nil)) .nil))) (.cons (.call 13 (.cons (.loc 0) (.cons (.con (.int 6)) .nil))) .nil))))
  (.cons (.iff (.cmp .eq (.loc 4) (.con (.int 0)))
  (.cons (.ret (.bin .add (.slc (.loc 1) .no (.yes (.loc 3))) (.slc (.loc 1) (.yes (.bin .add (.loc 3) (.con (.int 1)))) .no)))
  .nil)
  .nil)
  (.cons (.iff (.cmp .eq (.loc 4) (.con (.int 1)))
  (.cons (.ret (.bin .add (.bin .add (.slc (.loc 1) .no (.yes (.loc 3))) (.tup (.cons (.call 14 (.cons (.loc 0) (.cons (.loc 2) .nil))) .nil))) (.slc (.loc 1) (.yes (.loc 3)) .no)))
  .nil)
  .nil)
  (.cons (.iff (.cmp .eq (.loc 4) (.con (.int 2)))
  (.cons (.ret (.blt .list (.cons (.loc 1) .nil)))
  .nil)
  .nil)
  (.cons (.iff (.cmp .eq (.loc 4) (.con (.int 3)))
  (.cons (.ret (.tup (.cons (.call 14 (.cons (.loc 0) (.cons (.lst true (.cons (.con (.str "not")) (.cons (.con (.str "above")) (.cons (.con (.str "or")) (.cons (.con (.str "level")) .nil))))) .nil))) (.cons (.loc 1) .nil))))
  .nil)
  .nil)
  (.cons (.ret (.bin .add (.bin .add (.slc (.loc 1) .no (.yes (.loc 3))) (.tup (.cons (.call 35 (.cons (.loc 0) (.cons (.sub (.loc 1) (.loc 3)) .nil))) .nil))) (.slc (.loc 1) (.yes (.bin .add (.loc 3) (.con (.int 1)))) .no)))
  .nil)))))))
section
variable {h : PHeap} {ds : List PV} {p : Nat} {Q : PV → PHeap → Prop}
theorem okP_upto (q : Q (.tup (ds.take p)) h) : OkP (slcF (.tup ds) none (some (p : Int)) h) Q := okP_slcT (by rw [cutP_upto]; exact q)
theorem okP_from (q : Q (.tup (ds.drop p)) h) : OkP (slcF (.tup ds) (some (p : Int)) none h) Q := okP_slcT (by rw [cutP_nat]; exact q)
theorem okP_from1 (q : Q (.tup (ds.drop (p + 1))) h) : OkP (slcF (.tup ds) (some ((p : Int) + 1)) none h) Q := okP_from (p := p + 1) q
end
def SpS (K : Nat) : Prop := ∀ ⦃N L i : Nat⦄ ⦃v : PV⦄ ⦃B : Int⦄ ⦃h : PHeap⦄, K + 4 ≤ N → tm L K v = true → 3 ≤ L → L ≤ 20 → Dc h i B → B + 5 * (K + 1) < 2 ^ 100 →
  Ok (cl N 35 [.ref i, v] h) fun d h' => tm (L + 1) (K + 1) d = true ∧ Dr i (B + 5 * (K + 1)) h h'
theorem odd_ne : odd17 ≠ [] := by decide
theorem spoilt_rest {K n L i : Nat} {v : PV} {B : Int} {h : PHeap} (ih : ∀ K', K = K' + 1 → SpS K') (hN : K + 3 ≤ n) (t : tm L K v = true) (hL3 : 3 ≤ L) (hL : L ≤ 20) (d : Dc h i B) (hB : B + 5 * (K + 1) < 2 ^ 100) {N : Loc → PHeap → Prop} :
    OkS (exSs ⟨cl n, CT⟩ spoiltB [some (.ref i), some v, some (.ref h.length), none, none] (h ++ [.lst odd17])) N (fun d h1 => Seal h d h1 fun d h' => tm (L + 1) (K + 1) d = true ∧ Dr i (B + 5 * (K + 1)) h h') := by
  have hi := d.lt
  obtain ⟨m, rfl⟩ : ∃ m, n = m + 2 := ⟨n - 2, by omega⟩
  have fin : ∀ {B' : Int} {h1 : PHeap} {x : PV}, Dr i B' h h1 → B' ≤ B + 5 * (K + 1) → tm (L + 1) (K + 1) x = true → Seal h x (h1 ++ [.lst odd17]) (fun d h' => tm (L + 1) (K + 1) d = true ∧ Dr i (B + 5 * (K + 1)) h h') :=
    fun {B' h1 x} dr hb tx => sl_dr dr (tm_cl _ _ tx) ⟨tx, dr.up hb⟩
  have one : ∀ {B' : Int} {h1 : PHeap} {P : PV → PHeap → Prop}, Dr i B' h h1 → B' < 2 ^ 100 → (∀ x h2, tm 3 1 x = true → Dr i (B' + 1) h h2 → P x (h2 ++ [.lst odd17])) → Ok (cl (m + 2) 14 [.ref i, .ref h.length] (h1 ++ [.lst odd17])) P :=
    fun {B' h1 P} dr hb k => by
      have l1 := dr.len
      have e : (h1 ++ [PObj.lst odd17])[h.length]? = some (.lst odd17) := by rw [← l1]; exact get_new
      refine (ok_one_ofR (n := m) dr.dc.app e (by omega) odd_ne (by decide) hb (fun x hx => tm_cl _ _ (odd_tm x hx))).mono fun x h2 ⟨mx, f⟩ => ?_
      obtain ⟨h3, f3, rfl⟩ := f.app (by omega)
      exact k x h3 (odd_tm x mx) (dr.trans f3)
  have roll : ∀ {B' z : Int} {h1 : PHeap} {P : PV → PHeap → Prop}, Dr i B' h h1 → B' < 2 ^ 100 → 0 < z → z < 2 ^ 100 → (∀ r h2, 0 ≤ r → r < z → Dr i (B' + 1) h h2 → P (.int r) (h2 ++ [.lst odd17])) → Ok (cl (m + 2) 13 [.ref i, .int z] (h1 ++ [.lst odd17])) P :=
    fun {B' z h1 P} dr hb z0 z1 k => by
      have l1 := dr.len
      refine (ok_roll (n := m + 1) dr.dc.app z0 hb z1).mono fun x h2 ⟨r, er, r0, r1, f⟩ => ?_
      subst er
      obtain ⟨h3, f3, rfl⟩ := f.app (by omega)
      exact k r h3 r0 r1 (dr.trans f3)
  have odd_one : ∀ {x : PV}, tm 3 1 x = true → tm (L + 1) (K + 1) x = true := fun tx => tm_up (by omega) 1 (K + 1) _ (by omega) tx
  unfold spoiltB
  walk_at "zy"
  refine is_t t ?_
  cases z : isT v with
  | false =>
    walk_at "zy"
    refine one (.refl d) (by omega) fun x h2 tx f => ?_
    exact fin f (by omega) (odd_one tx)
  | true =>
    obtain ⟨ds, rfl⟩ := isT_tup z
    obtain ⟨K, rfl⟩ : ∃ K', K = K' + 1 := ⟨K - 1, by cases K <;> first | rfl | (simp [tm] at t)⟩
    obtain ⟨hl, td⟩ := tm_all t
    cases ds with
    | nil =>
      walk_at "zy"
      refine one (.refl d) (by omega) fun x h2 tx f => ?_
      exact fin f (by omega) (odd_one tx)
    | cons d0 r =>
      walk_at "zy"
      refine okO_eqt eqTup0 ?_
      walk_at "zy"
      refine roll (.refl d) (by omega) (by decide) (by decide) fun w h1 w0 w1 f1 => ?_
      walk_at "zy"
      refine ⟨fun k1 => ?_, fun k1 => ?_⟩
      · walk_at "zy"
        refine one f1 (by omega) fun x h2 tx f => ?_
        exact fin f (by omega) (odd_one tx)
      walk_at "zy"
      refine roll f1 (by omega) (by simp only [List.length_cons]; omega) (by omega) fun a h2 a0 a1 f2 => ?_
      walk_at "zy"
      refine roll f2 (by omega) (by decide) (by decide) fun u h3 u0 u1 f3 => ?_
      obtain ⟨p, rfl⟩ : ∃ p : Nat, a = (p : Int) := ⟨a.toNat, by omega⟩
      have hp : p < (d0 :: r).length := by omega
      have te : ∀ x ∈ d0 :: r, tm (L + 1) (K + 1) x = true := fun x hx => tm_up (by omega) K (K + 1) x (by omega) (td x hx)
      have lt := List.length_take (i := p) (l := d0 :: r)
      have ld := List.length_drop (i := p) (l := d0 :: r)
      have ld1 := List.length_drop (i := p + 1) (l := d0 :: r)
      have odd1 : ∀ {x : PV}, tm 3 1 x = true → tm (L + 1) (K + 1) x = true := fun tx => tm_up (by omega) 1 (K + 1) _ (by omega) tx
      generalize hds : d0 :: r = ds at *
      walk_at "zy"
      refine ⟨fun k2 => ?_, fun k2 => ?_⟩
      · walk_at "zy"
        refine okP_upto ?_
        walk_at "zy"
        refine okP_from1 ?_
        walk_at "zy"
        refine okP_catT (by omega) ?_
        refine fin f3 (by omega) (tm_tup (by rw [List.length_append]; omega) fun x hx => ?_)
        rcases List.mem_append.mp hx with hx | hx
        · exact te x (List.mem_of_mem_take hx)
        · exact te x (List.mem_of_mem_drop hx)
      walk_at "zy"
      refine ⟨fun k3 => ?_, fun k3 => ?_⟩
      · walk_at "zy"
        refine okP_upto ?_
        walk_at "zy"
        refine one f3 (by omega) fun x h4 tx f4 => ?_
        walk_at "zy"
        refine okP_catT (by simp only [List.length_singleton]; omega) ?_
        walk_at "zy"
        refine okP_from ?_
        walk_at "zy"
        refine okP_catT (by rw [List.length_append, List.length_singleton]; omega) ?_
        refine fin f4 (by omega) (tm_tup (by rw [List.length_append, List.length_append, List.length_singleton]; omega) fun y hy => ?_)
        rcases List.mem_append.mp hy with hy | hy
        · rcases List.mem_append.mp hy with hy | hy
          · exact te y (List.mem_of_mem_take hy)
          · rw [List.mem_singleton.mp hy]; exact odd1 tx
        · exact te y (List.mem_of_mem_drop hy)
      walk_at "zy"
      refine ⟨fun k4 => ?_, fun k4 => ?_⟩
      · walk_at "zy"
        exact fin f3 (by omega) (tm_lst (by omega) te)
      walk_at "zy"
      refine ⟨fun k5 => ?_, fun k5 => ?_⟩
      · walk_at "zy"
        refine (ok_one_of (n := m) f3.dc.app (by simp) (by decide) (by omega) rfl).mono fun x h4 ⟨mx, f4⟩ => ?_
        obtain ⟨h5, f5, rfl⟩ := f4.app (by have := f3.len; omega)
        walk_at "zy"
        refine fin (f3.trans f5) (by omega) (tm_tup (by simp only [List.length_cons, List.length_nil]; omega) fun y hy => ?_)
        rcases List.mem_cons.mp hy with rfl | hy
        · refine odd1 ?_
          simp only [List.mem_cons, List.not_mem_nil, or_false] at mx
          rcases mx with rfl | rfl | rfl | rfl <;> decide
        · rw [List.mem_singleton.mp hy]; exact tm_up (by omega) (K + 1) (K + 1) _ (Nat.le_refl _) t
      · obtain ⟨y, y1, y2, _⟩ := atI_mem a0 a1
        walk_at "zy"
        refine okP_upto ?_
        walk_at "zy"
        refine okO_getT y1 ?_
        walk_at "zy"
        refine (ih K rfl (by omega) (td y y2) hL3 hL f3.dc.app (by omega)).mono fun x h4 ⟨tx, f4⟩ => ?_
        obtain ⟨h5, f5, rfl⟩ := f4.app (by have := f3.len; omega)
        walk_at "zy"
        refine okP_catT (by simp only [List.length_singleton]; omega) ?_
        walk_at "zy"
        refine okP_from1 ?_
        walk_at "zy"
        refine okP_catT (by rw [List.length_append, List.length_singleton]; omega) ?_
        refine fin (f3.trans f5) (by omega) (tm_tup (by rw [List.length_append, List.length_append, List.length_singleton]; omega) fun z hz => ?_)
        rcases List.mem_append.mp hz with hz | hz
        · rcases List.mem_append.mp hz with hz | hz
          · exact te z (List.mem_of_mem_take hz)
          · rw [List.mem_singleton.mp hz]; exact tx
        · exact te z (List.mem_of_mem_drop hz)
end Law
end Zed
end
section
set_option Elab.async false
set_option linter.all false
set_option maxRecDepth 100000
set_option maxHeartbeats 2000000
set_option exponentiation.threshold 10000
namespace Zed
namespace Law
open PySem L2
theorem ok_spoilt1 (K : Nat) (ih : ∀ K', K = K' + 1 → SpS K') : SpS K := by
  intro N L i v B h hN t hL3 hL d hB
  obtain ⟨n, rfl⟩ := up1 (show K + 3 + 1 ≤ N by omega)
  refine (f_call t_spoilt rfl rfl).mpr ?_
  have rest := @spoilt_rest K n L i v B h ih (by omega) t hL3 hL d hB
  (unfold f_law_spoilt; dsimp only [List.map, List.append, HAppend.hAppend, Append.append, List.replicate, Nat.reduceSub])
  walk_at "zy"
  refine okL (Nat.le_of_ble_eq_true rfl) ?_
  walk_at "zy"
  refine ⟨rcv_lst get_new, ?_⟩
  walk_at "zy"
  refine okP_app get_new (by decide) ?_
  rw [set_new]
  exact rest
theorem ok_spoilt : ∀ K, SpS K
  | 0 => ok_spoilt1 0 fun _ z => (nomatch z)
  | K + 1 => ok_spoilt1 (K + 1) fun K' z => by
    obtain rfl : K = K' := by omega
    exact ok_spoilt K
theorem okE_N : ∀ e, okE e → okN e
  | .label s, o => by
    simp only [okE, lab4, List.mem_cons, List.not_mem_nil, or_false] at o
    show goodN.contains s = true
    rcases o with rfl | rfl | rfl | rfl <;> decide
  | .root, _ => trivial
  | .level _ _, o => o
  | .parent e, o => okE_N e o
  | .above e, o => okE_N e o
  | .neg e, o => okE_N e o
  | .conj a b, o => ⟨okE_N a o.1, okE_N b o.2⟩
  | .disj a b, o => ⟨okE_N a o.1, okE_N b o.2⟩
theorem good_word {s : Str} (g : goodN.contains s = true) : words.contains s = true := by
  have : s ∈ goodN := by simpa using g
  simp only [goodN, List.mem_cons, List.not_mem_nil, or_false] at this
  rcases this with rfl | rfl | rfl | rfl | rfl | rfl | rfl | rfl | rfl | rfl | rfl | rfl <;> decide
theorem tm_word' {L K : Nat} {s : Str} (w : words.contains s = true) : tm L K (.str s) = true := by cases K <;> simpa only [tm] using w
theorem tm_int {L K : Nat} {i : Int} : tm L K (.int i) = true := by cases K <;> rfl
theorem tm_pv : ∀ (e : E) (k : Nat), okN e → dp e ≤ k → tm 3 k (pv e) = true
  | .label s, k + 1, o, d => tm_tup (Nat.le_of_ble_eq_true rfl) (by
      intro x hx
      simp only [List.mem_cons, List.not_mem_nil, or_false] at hx
      rcases hx with rfl | rfl
      · exact tm_word' (by decide)
      · exact tm_word' (good_word o))
  | .root, k + 1, _, d => tm_tup (Nat.le_of_ble_eq_true rfl) (by
      intro x hx
      simp only [List.mem_cons, List.not_mem_nil, or_false] at hx
      subst hx
      exact tm_word' (by decide))
  | .level _ _, k + 1, _, d => tm_tup (Nat.le_of_ble_eq_true rfl) (by
      intro x hx
      simp only [List.mem_cons, List.not_mem_nil, or_false] at hx
      rcases hx with rfl | rfl | rfl
      · exact tm_word' (by decide)
      · exact tm_int
      · exact tm_int)
  | .parent e, k + 1, o, d => tm_tup (Nat.le_of_ble_eq_true rfl) (by
      intro x hx
      simp only [List.mem_cons, List.not_mem_nil, or_false] at hx
      rcases hx with rfl | rfl
      · exact tm_word' (by decide)
      · exact tm_pv e k o (by simp only [dp] at d; omega))
  | .above e, k + 1, o, d => tm_tup (Nat.le_of_ble_eq_true rfl) (by
      intro x hx
      simp only [List.mem_cons, List.not_mem_nil, or_false] at hx
      rcases hx with rfl | rfl
      · exact tm_word' (by decide)
      · exact tm_pv e k o (by simp only [dp] at d; omega))
  | .neg e, k + 1, o, d => tm_tup (Nat.le_of_ble_eq_true rfl) (by
      intro x hx
      simp only [List.mem_cons, List.not_mem_nil, or_false] at hx
      rcases hx with rfl | rfl
      · exact tm_word' (by decide)
      · exact tm_pv e k o (by simp only [dp] at d; omega))
  | .conj a b, k + 1, o, d => tm_tup (Nat.le_of_ble_eq_true rfl) (by
      intro x hx
      simp only [List.mem_cons, List.not_mem_nil, or_false] at hx
      rcases hx with rfl | rfl | rfl
      · exact tm_word' (by decide)
      · exact tm_pv a k o.1 (by simp only [dp] at d; omega)
      · exact tm_pv b k o.2 (by simp only [dp] at d; omega))
  | .disj a b, k + 1, o, d => tm_tup (Nat.le_of_ble_eq_true rfl) (by
      intro x hx
      simp only [List.mem_cons, List.not_mem_nil, or_false] at hx
      rcases hx with rfl | rfl | rfl
      · exact tm_word' (by decide)
      · exact tm_pv a k o.1 (by simp only [dp] at d; omega)
      · exact tm_pv b k o.2 (by simp only [dp] at d; omega))
  | .label _, 0, _, d => by simp only [dp] at d; omega
  | .root, 0, _, d => by simp only [dp] at d; omega
  | .level _ _, 0, _, d => by simp only [dp] at d; omega
  | .parent _, 0, _, d => by simp only [dp] at d; omega
  | .above _, 0, _, d => by simp only [dp] at d; omega
  | .neg _, 0, _, d => by simp only [dp] at d; omega
  | .conj _ _, 0, _, d => by simp only [dp] at d; omega
  | .disj _ _, 0, _, d => by simp only [dp] at d; omega
theorem t_right : TB 23 = some f_law_right := rfl
theorem ok_right {n i : Nat} {B : Int} {h : PHeap} (d : Dc h i B) (hB : B + 2000 < 2 ^ 100) : Ok (cl (n + 20) 23 [.ref i] h) fun x h' => x = .bl true ∧ Dr i (B + 2000) h h' := by
  refine (f_call t_right rfl rfl).mpr ?_
  (unfold f_law_right; dsimp only [List.map, List.append, HAppend.hAppend, Append.append, List.replicate, Nat.reduceSub])
  walk_at "zy"
  have hi := d.lt
  have k4 : K 4 = 372 := rfl
  have ex := ok_expr 4 (n := n + 12) (i := i) (j := h.length) (r := 9) (B := B) (h := h ++ [.lst [.int 9]]) d.app get_new (by omega) (by decide) (by omega)
  refine ex.mono fun x h1 ⟨e, ee, o, dd, ss, er⟩ => ?_
  subst ee
  obtain ⟨hd, dr, rfl⟩ := er
  obtain ⟨h2, dr2, rfl⟩ := dr.app hi
  have l2 := dr2.len
  rw [← l2, set_new]
  have oN := okE_N e o
  have t0 : tm 3 5 (pv e) = true := tm_pv e 5 oN dd
  have due1 : dueB (pv e) = true := by rw [due_pv oN dd, decide_eq_true ss]
  walk_at "zy"
  refine (ok_judged (n := n + 7) t0).mono fun x h3 ⟨e1, e2⟩ => ?_
  subst e1; subst e2
  walk_at "zy"
  refine (ok_due t0 (n + 10)).mono fun x h3 ⟨e1, e2⟩ => ?_
  subst e1; subst e2
  rw [due1]
  generalize hr : h2 ++ [PObj.lst [.int (9 - (sz e : Int))]] = hs
  walk_at "zy"
  refine ⟨12, rfl, by decide, by decide, ?_⟩
  subst hr
  refine ok_for (ds := (List.range 12).map fun (k : Nat) => PV.int (0 + k)) (fun t l h' => (∃ x y, l = [some (.ref i), some (pv e), x, y]) ∧ ∃ g, h' = g ++ [PObj.lst [.int (9 - (sz e : Int))]] ∧ Dr i (B + 372 + 66 * t) h g) ?_ ?_ ?_ _ 0 _ _ (by simp [srcLen]) (Nat.zero_le _) ⟨⟨_, _, rfl⟩, _, rfl, dr2.up (by omega)⟩
  · intro t l h' _; rfl
  · intro t dd' l h' hd ⟨⟨x, y, el⟩, g, eh, dg⟩
    subst el; subst eh
    have ht : t < 12 := by
      have := (List.getElem?_eq_some_iff.mp hd).1
      simpa using this
    have lg := dg.len
    walk_at "zy"
    refine (ok_spoilt 5 (show 5 + 4 ≤ n + 19 by omega) t0 (by decide) (by decide) dg.dc.app (by omega)).mono fun v1 h4 ⟨t1, f4x⟩ => ?_
    obtain ⟨g4, f4, rfl⟩ := f4x.app (by omega)
    have lg4 := f4.len
    walk_at "zy"
    refine (ok_roll (n := n + 18) (t := 3) f4.dc.app (by decide) (by omega) (by decide)).mono fun w h5 ⟨q, eq, q0, q1, f5x⟩ => ?_
    subst eq
    obtain ⟨g5, f5, rfl⟩ := f5x.app (by omega)
    have lg5 := f5.len
    walk_at "zy"
    refine ⟨fun k1 => ?_, fun k1 => ?_⟩
    · walk_at "zy"
      refine (ok_spoilt 6 (show 6 + 4 ≤ n + 19 by omega) t1 (by decide) (by decide) f5.dc.app (by omega)).mono fun v2 h6 ⟨t2, f6x⟩ => ?_
      obtain ⟨g6, f6, rfl⟩ := f6x.app (by omega)
      walk_at "zy"
      refine (ok_judged (n := n + 7) t2).mono fun x h3 ⟨e1, e2⟩ => ?_
      subst e1; subst e2
      walk_at "zy"
      exact ⟨⟨_, _, rfl⟩, g6, rfl, (((dg.trans f4).trans f5).trans f6).up (by omega)⟩
    · walk_at "zy"
      refine (ok_judged (n := n + 7) t1).mono fun x h3 ⟨e1, e2⟩ => ?_
      subst e1; subst e2
      walk_at "zy"
      exact ⟨⟨_, _, rfl⟩, g5, rfl, ((dg.trans f4).trans f5).up (by omega)⟩
  · intro l h' ⟨⟨x, y, el⟩, g, eh, dg⟩
    subst el; subst eh
    walk_at "zy"
    refine sl_dr dg rfl ⟨rfl, dg.up ?_⟩
    simp only [List.length_map, List.length_range]; omega
end Law
end Zed
end
section
set_option Elab.async false
set_option linter.all false
set_option maxRecDepth 100000
set_option maxHeartbeats 2000000
set_option exponentiation.threshold 10000
namespace Zed
namespace Law
open PySem L2
theorem t_dice : TB 22 = some f_law_dice := rfl
theorem ok_dice {n : Nat} {h : PHeap} {ns : List Int} {a : Int} (a0 : 0 ≤ a) (a1 : a < 100) : Ok (cl (n + 1) 22 [.scr ns, .int a] h) fun v h' => v = .ref h.length ∧ Dc h' h.length 0 := by
  have key : ∀ (c : Int), OkS (exSs ⟨cl n, CT⟩ (.cons (.asg (.nm 3) (.bin .mod (.blt .int (.cons (.blt .abs (.cons (.loc 2) .nil)) .nil)) (.bin .pow (.bin .pow (.con (.int 10)) (.con (.int 60))) (.con (.int 10)))))
  (.cons (.asg (.nm 4) (.bin .fdiv (.loc 3) (.bin .pow (.con (.int 10)) (.con (.int 18)))))
  (.cons (.asg (.nm 5) (.bin .add (.bin .add (.bin .add (.bin .mul (.bin .mod (.loc 3) (.con (.int 2147483409))) (.con (.int 50053))) (.bin .mul (.con (.int 2801)) (.loc 1))) (.bin .mul (.con (.int 41)) (.blt .int (.cons (.cmp .lt (.loc 2) (.con (.int 0))) .nil)))) (.con (.int 67))))
  (.cons (.ret (.lst false (.cons (.loc 4) (.cons (.bin .mod (.loc 5) (.con (.int 2147483399))) (.cons (.con (.int 0)) .nil)))))
  .nil)))) [some (.scr ns), some (.int a), some (.int c), none, none, none] h) (fun _ h1 => (PV.non : PV) = .ref h.length ∧ Dc h1 h.length 0) fun v h' => v = .ref h.length ∧ Dc h' h.length 0 := by
    intro c
    walk_at "zy"
    have g0 : 0 ≤ (if c < 0 then -c else c) % (10 ^ Int.toNat 60) ^ Int.toNat 10 := Int.emod_nonneg _ (Int.ne_of_gt (Int.pow_pos (Int.pow_pos (by decide))))
    generalize (if c < 0 then -c else c) % (10 ^ Int.toNat 60) ^ Int.toNat 10 = G at g0 ⊢
    refine okP_mul (by omega) (by omega) ?_
    walk_at "zy"
    refine okP_mul (by omega) (by omega) ?_
    walk_at "zy"
    have b0 : ∀ k : Bool, -2 ^ 200 < (if k = true then (1 : Int) else 0) ∧ (if k = true then (1 : Int) else 0) < 2 ^ 200 := fun k => by cases k <;> decide
    refine okP_mul (by omega) (b0 _) ?_
    walk_at "zy"
    exact ⟨rfl, _, _, _, get_new, Int.ediv_nonneg g0 (Int.le_of_lt (Int.pow_pos (by decide))), by decide, by decide⟩
  refine (f_open t_dice rfl rfl).mpr ?_
  (unfold f_law_dice; dsimp only [List.map, List.append, HAppend.hAppend, Append.append, List.replicate, Nat.reduceSub])
  walk_at "zy"
  refine okP_mul (by omega) (by omega) ?_
  walk_at "zy"
  refine ⟨fun k => ?_, fun k => ?_⟩
  · have k := of_decide_eq_true k
    walk_at "zy"
    obtain ⟨d, d1, d2, d3⟩ := atI_mem a0 k
    refine okO_of (show getF (.scr ns) (.int a) h = some d from d1) ?_
    obtain ⟨c, _, rfl⟩ := List.mem_map.mp d2
    walk_at "z1"
    refine s_nil.mpr ?_
    exact key c
  · refine s_nil.mpr ?_
    exact key _
theorem okP_catFF {h : PHeap} {xs ys : List PV} {Q : PV → PHeap → Prop} (hl : xs.length + ys.length ≤ 1000) (q : Q (.fl (xs ++ ys)) h) : OkP (bopF .add [.fl xs, .fl ys] h) Q := by
  refine okP_of ?_ q
  show addF (.fl xs) (.fl ys) h = _
  simp only [addF, lstOf, objOf]
  rw [if_pos (line_of hl)]
abbrev eP : E := .conj .root .root
abbrev eFour : E := .neg (.neg (.neg (.neg .root)))
abbrev eWide : E := .disj (.disj eP eP) .root
theorem t_law : TB 25 = some f_law := rfl
theorem ie {n : Nat} {h : PHeap} {v : PV} {b : Bool} (t : tm 5 9 v = true) (e : dueB v = b) : Ok (cl (n + 39) 8 [v] h) fun d h' => d = .bl b ∧ h' = h := by
  have := ok_is_expr (h := h) t (n + 30)
  rw [e] at this
  exact this
theorem due_e (e : E) (o : okN e) (d : dp e ≤ 5) (b : Bool) (k : decide ((sz e : Int) ≤ 9) = b) : dueB (pv e) = b := by rw [due_pv o d, k]
theorem pure_ok : ∀ ns : List Int, ns.length ≤ 63 → ∃ h', callN CT TB 40 25 [.scr ns] [] = .ok (.bl true) h' := by
  intro ns hns
  have key : Ok (cl (39 + 1) 25 [.scr ns] []) fun v h' => v = .bl true := by
    refine (f_call t_law rfl rfl).mpr ?_
    (unfold f_law; dsimp only [List.map, List.append, HAppend.hAppend, Append.append, List.replicate, Nat.reduceSub])
    walk_at "zy"
    obtain ⟨J, hJ⟩ : ∃ J : Int, J = if (if ((ns.map PV.int).length : Int) < 8 then ((ns.map PV.int).length : Int) else 8) > 1 then (if ((ns.map PV.int).length : Int) < 8 then ((ns.map PV.int).length : Int) else 8) else 1 := ⟨_, rfl⟩
    have J0 : 0 ≤ J := by rw [hJ]; split <;> split <;> omega
    have J1 : J ≤ 8 := by rw [hJ]; split <;> split <;> omega
    refine ⟨J, by rw [hJ], J0, by omega, ?_⟩
    refine ok_for (ds := (List.range J.toNat).map fun (i : Nat) => PV.int (0 + i)) (fun t l h' => ∃ z1 z6 z7, l = [some (.scr ns), z1, none, none, none, none, z6, z7, none, none]) ?_ ?_ ?_ _ 0 _ _ (by simp [srcLen]) (Nat.zero_le _) ⟨_, _, _, rfl⟩
    · intro t l h' _; rfl
    · intro t dd l h' hd ⟨z1, z6, z7, el⟩
      subst el
      have ht : t < J.toNat := by
        have := (List.getElem?_eq_some_iff.mp hd).1
        simpa using this
      rw [List.getElem?_map, List.getElem?_range ht] at hd
      cases hd
      walk_at "zy"
      refine (ok_dice (n := 38) (by omega) (by omega)).mono fun x h1 ⟨e1, dc⟩ => ?_
      subst e1
      walk_at "zy"
      refine ⟨2, rfl, by decide, by decide, ?_⟩
      refine ok_for (ds := (List.range 2).map fun (i : Nat) => PV.int (0 + i)) (fun u l h2 => (∃ z7, l = [some (.scr ns), some (.int (0 + t)), none, none, none, none, some (.ref h'.length), z7, none, none]) ∧ Dc h2 h'.length (2000 * u)) ?_ ?_ ?_ _ 0 _ _ (by simp [srcLen]) (Nat.zero_le _) ⟨⟨_, rfl⟩, dc.up (by omega)⟩
      · intro u l h2 _; rfl
      · intro u dd l h2 hd ⟨⟨z7, el⟩, dc⟩
        subst el
        have hu : u < 2 := by
          have := (List.getElem?_eq_some_iff.mp hd).1
          simpa using this
        walk_at "zy"
        refine (ok_right (n := 19) dc (by omega)).mono fun x h3 ⟨e1, dr⟩ => ?_
        subst e1
        walk_at "zy"
        exact ⟨⟨_, rfl⟩, dr.dc.up (by omega)⟩
      · intro l h2 ⟨⟨z7, el⟩, _⟩
        subst el
        walk_at "zy"
        exact ⟨_, _, _, rfl⟩
    · intro l h' ⟨z1, z6, z7, el⟩
      subst el
      walk_at "zy"
      refine (ie (v := pv eFour) (n := 0) (by decide +kernel) (due_e eFour (by simp [okN]) (by decide) true (by decide))).mono fun x h1 ⟨e1, e2⟩ => ?_
      subst e1; subst e2
      walk_at "zy"
      refine (ie (v := pv (.neg eFour)) (n := 0) (by decide +kernel) (due_nest (by decide +kernel))).mono fun x h1 ⟨e1, e2⟩ => ?_
      subst e1; subst e2
      walk_at "zy"
      refine (ie (v := pv eWide) (n := 0) (by decide +kernel) (due_e eWide (by simp [okN]) (by decide) true (by decide))).mono fun x h1 ⟨e1, e2⟩ => ?_
      subst e1; subst e2
      walk_at "zy"
      refine (ie (v := pv (.neg eWide)) (n := 0) (by decide +kernel) (due_e (.neg eWide) (by simp [okN]) (by decide) false (by decide))).mono fun x h1 ⟨e1, e2⟩ => ?_
      subst e1; subst e2
      walk_at "zy"
      refine (ie (v := pv (.level 3 4)) (n := 0) (by decide +kernel) (due_e (.level 3 4) (by simp [okN]) (by decide) true (by decide))).mono fun x h1 ⟨e1, e2⟩ => ?_
      subst e1; subst e2
      walk_at "zy"
      refine (ie (v := .tup [.str "level", .int 0, .int 5]) (n := 0) (by decide +kernel) (due_nest (by decide +kernel))).mono fun x h1 ⟨e1, e2⟩ => ?_
      subst e1; subst e2
      walk_at "zy"
      refine (ie (v := .tup [.str "level", .bl true, .int 2]) (n := 0) (by decide +kernel) (due_nest (by decide +kernel))).mono fun x h1 ⟨e1, e2⟩ => ?_
      subst e1; subst e2
      walk_at "zy"
      refine (ie (v := .tup [.str "level", .int 2, .int 2]) (n := 0) (by decide +kernel) (due_nest (by decide +kernel))).mono fun x h1 ⟨e1, e2⟩ => ?_
      subst e1; subst e2
      walk_at "zy"
      refine (ie (v := pv (.label "level")) (n := 0) (by decide +kernel) (due_e (.label "level") (by show goodN.contains _ = true; decide) (by decide) true (by decide))).mono fun x h1 ⟨e1, e2⟩ => ?_
      subst e1; subst e2
      walk_at "zy"
      refine (ie (v := .fl [.tup [.str "root"]]) (n := 0) (by decide +kernel) (due_nest (by decide +kernel))).mono fun x h1 ⟨e1, e2⟩ => ?_
      subst e1; subst e2
      walk_at "zy"
      exact ⟨_, _, frz_cl rfl, rfl, rfl⟩
  obtain ⟨v, h', e, rfl⟩ := key.get
  exact ⟨h', e⟩
end Law
end Zed
end
set_option Elab.async false
set_option linter.all false
set_option maxRecDepth 100000
set_option maxHeartbeats 0
namespace Zed
namespace Law
open PySem L2
end Law
end Zed
open PySem L2 Zed Zed.Law in
theorem PySem.Challenge.cw_depthmarks_k17_what_is_an_expression_holds : PySem.Challenge.rw_depthmarks_k17_what_is_an_expression.Holds := by
  w_on
  o_law
  refine HandSHeadRun.head_any (r := Zed.Law.R) (q := PySem.W.view Zed.Law.R.prog [50]) (H := hk) (ob := ob) (M := 4000) (loose := names) (d := HandSHeadRun.topDef PySem.Challenge.pw_depthmarks_k17_what_is_an_expression 50) (kwd := []) ob_eq (by kernel_rfl) (fun s => by kernel_rfl) Zed.Law.run (by kernel_rfl) (by kernel_rfl) (by kernel_rfl) (by rfl)
    (by first | assumption | decide +kernel) (by decide +kernel) ⟨rfl, rfl, rfl, rfl, rfl, by decide +kernel⟩ ?hw ?hc
  case hw => w_witness2
  case hc =>
    refine law_walk (k := 40) (f := 25) (x := "_law_script") (r := r_law) rfl rfl ⟨rfl, by decide, by decide⟩ rfl (by rfl) rfl rfl rows_ok crs_ok exb_ok mts_ok binds_ok bindm_ok pure_ok
